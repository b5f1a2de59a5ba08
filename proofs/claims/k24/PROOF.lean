import PyProof.Rows.All
import Wide.All
import OpenK.AllK
import Wide.FinOn
import HandS.ForMost
import HandS.ForExc
import HandS.SetKeys
import HandS.IsInst
import HandS.Flow
import HandS.Style
import HandS.CallSlots
import HandS.TryMany
import HandS.StrMore
import HandS.Strs
import HandS.TupLe
import HandS.TupAny
import HandS.More
import HandS.Conv
import HandS.Replace
import HandS.FStr
import HandS.ExcIs
import HandS.RaiseMore
import HandS.Defaults
import HandS.DictTup
import HandS.TupSets
import HandS.SortOrd
import HandS.SortKw
import HandS.Lambda
import PyProof.Rows.StrCase
import HandS.TryOnly
import KE.DataFind
import HandS.HotCalls
import HandS.Small
import HandS.WordsDict
import KE.KEqDict
import PyProof.NeKinds
import PyProof.FactsAll.dict_1
import PyProof.FactsAll.dict_2
import PyProof.FactsAll.str
import PyProof.FactsAll.int
import PyProof.FactsAll.subtypes
import HandS.SetTxt0
import HandS.SetFor
import KE.SortData
import KE.DataCmp
import HandS.Iter
import KE.DataMinMax
import HandS.ExcInit
import HandS.ClsMeth
import HandS.ExcField
import KE.KExcIs
import HandS.ExcInitHot
import HandS.SuiteRaise
import KE.GoesEnumKw
import HandS.NoneIn
import PyProof.SeqRoads2
import HandS.Head0
import HandS.Head1
import HandS.Head2
import HandS.HeadEnd
import HandS.HeadHook1
import HandS.HeadHook2
import HandS.HeadNt
import PySem.Challenge.RW_mailroom_k24_there_or_not
set_option Elab.async false
set_option linter.all false
set_option maxRecDepth 100000
set_option maxHeartbeats 4000000
namespace Ml
open PySem L2
structure Gx where
  K : PySem.W.Frag
  fz : Addr → Option Nat
  cl : Nat → Addr
/-- what never changes once it stands -/
def per (G : Gx) : HO → Bool
  | .tup _ => true
  | .frz _ (.lst _) => true
  | .ins C _ fs => decide (G.fz C = some fs.length)
  | _ => false
/-- what sort of thing it is -/
def kindOf : HO → Nat
  | .lst _ => 0
  | .frz _ (.lst _) => 0
  | .dK _ => 1
  | .frz _ (.dK _) => 1
  | .dT _ => 6
  | .frz _ (.dT _) => 6
  | .tup _ => 2
  | .set _ _ => 3
  | .ins _ _ _ => 4
  | _ => 5
/-- all that never changes stands on, and nothing becomes another sort of thing -/
def Stab (G : Gx) (H H' : Hp) : Prop := (∀ a o, H a = some o → per G o = true → H' a = some o) ∧ ∀ a o, H a = some o → ∃ o', H' a = some o' ∧ kindOf o' = kindOf o
theorem Stab.refl {G : Gx} (H : Hp) : Stab G H H := ⟨fun _ _ h _ => h, fun _ o h => ⟨o, h, rfl⟩⟩
theorem Stab.trans {G : Gx} {H H1 H2 : Hp} (a : Stab G H H1) (b : Stab G H1 H2) : Stab G H H2 := ⟨fun x o h p => b.1 x o (a.1 x o h p) p, fun x o h => by
  obtain ⟨o1, h1, k1⟩ := a.2 x o h
  obtain ⟨o2, h2, k2⟩ := b.2 x o1 h1
  exact ⟨o2, h2, k2.trans k1⟩⟩
theorem Stab.of_same {G : Gx} {H H' : Hp} (s : Same H H') : Stab G H H' := ⟨fun a o h _ => s a o h, fun a o h => ⟨o, s a o h, rfl⟩⟩
theorem stab_put {G : Gx} {H : Hp} {a : Addr} {o o' : HO} (e : H a = some o) (n : per G o = false) (kd : kindOf o' = kindOf o) : Stab G H (upd H a o') := ⟨fun b x hb pb => by
  by_cases z : b = a
  · subst z; rw [e] at hb; cases hb; rw [n] at pb; cases pb
  · rw [upd_ne z]; exact hb, fun b x hb => by
  by_cases z : b = a
  · subst z; rw [e] at hb; cases hb; exact ⟨o', upd_same, kd⟩
  · exact ⟨x, by rw [upd_ne z]; exact hb, rfl⟩⟩
structure Asn (G : Gx) where
  sat : Hp → List Addr → Prop
  loc : ∀ H H' fp, sat H fp → (∀ a, a ∈ fp → H' a = H a) → Stab G H H' → sat H' fp
variable {G : Gx}
def satL (H : Hp) : List (Asn G) → List Addr → Prop
  | [], fp => fp = []
  | A :: L, fp => ∃ f1 f2, fp = f1 ++ f2 ∧ A.sat H f1 ∧ satL H L f2
theorem satL.loc {H H' : Hp} : ∀ {L : List (Asn G)} {fp : List Addr}, satL H L fp → (∀ a, a ∈ fp → H' a = H a) → Stab G H H' → satL H' L fp
  | [], fp, h, _, _ => h
  | A :: L, fp, ⟨f1, f2, e, h1, h2⟩, k, s => ⟨f1, f2, e, A.loc H H' f1 h1 (fun a m => k a (by rw [e]; exact List.mem_append_left _ m)) s,
      satL.loc h2 (fun a m => k a (by rw [e]; exact List.mem_append_right _ m)) s⟩
theorem satL.perm {H : Hp} {L L' : List (Asn G)} (p : L.Perm L') : ∀ {fp : List Addr}, satL H L fp → ∃ fp', fp'.Perm fp ∧ satL H L' fp' := by
  induction p with
  | nil => intro fp h; exact ⟨fp, .refl _, h⟩
  | cons x _ ih =>
    rintro fp ⟨f1, f2, e, h1, h2⟩
    obtain ⟨g, pg, hg⟩ := ih h2
    exact ⟨f1 ++ g, by rw [e]; exact List.Perm.append_left f1 pg, f1, g, rfl, h1, hg⟩
  | swap x y l =>
    rintro fp ⟨f1, f2, e, h1, g1, g2, e2, k1, k2⟩
    refine ⟨g1 ++ (f1 ++ g2), ?_, g1, f1 ++ g2, rfl, k1, f1, g2, rfl, h1, k2⟩
    rw [e, e2, ← List.append_assoc, ← List.append_assoc]
    exact List.Perm.append_right g2 List.perm_append_comm
  | trans _ _ ih1 ih2 =>
    intro fp h
    obtain ⟨g, pg, hg⟩ := ih1 h
    obtain ⟨k, pk, hk⟩ := ih2 hg
    exact ⟨k, pk.trans pg, hk⟩
theorem satL.append {H : Hp} : ∀ {L L' : List (Asn G)} {fp : List Addr}, satL H (L ++ L') fp ↔ ∃ f1 f2, fp = f1 ++ f2 ∧ satL H L f1 ∧ satL H L' f2
  | [], L', fp => ⟨fun h => ⟨[], fp, rfl, rfl, h⟩, fun ⟨f1, f2, e, h1, h2⟩ => by
      have h1' : f1 = [] := h1
      subst h1'; subst e; exact h2⟩
  | A :: L, L', fp => by
    constructor
    · rintro ⟨f1, f2, e, h1, h2⟩
      obtain ⟨g1, g2, e2, k1, k2⟩ := satL.append.mp h2
      exact ⟨f1 ++ g1, g2, by rw [e, e2, List.append_assoc], ⟨f1, g1, rfl, h1, k1⟩, k2⟩
    · rintro ⟨f1, f2, e, ⟨g1, g2, e2, h1, h2⟩, h3⟩
      exact ⟨g1, g2 ++ f2, by rw [e, e2, List.append_assoc], h1, satL.append.mpr ⟨g2, f2, rfl, h2, h3⟩⟩
/-- the assertions hold, each of its own part of the heap -/
def Sep (H : Hp) (L : List (Asn G)) : Prop := ∃ fp, satL H L fp ∧ fp.Nodup ∧ ∀ a, a ∈ fp → ∃ o, H a = some o ∧ per G o = false
theorem Sep.perm {H : Hp} {L L' : List (Asn G)} (h : Sep H L) (p : L.Perm L') : Sep H L' := by
  obtain ⟨fp, h1, h2, h3⟩ := h
  obtain ⟨g, pg, hg⟩ := satL.perm p h1
  exact ⟨g, hg, pg.nodup_iff.mpr h2, fun a m => h3 a (pg.mem_iff.mp m)⟩
theorem Sep.nil (H : Hp) : Sep H ([] : List (Asn G)) := ⟨[], rfl, List.nodup_nil, fun a m => absurd m (by simp)⟩
theorem Sep.left {H : Hp} {L L' : List (Asn G)} (h : Sep H (L ++ L')) : Sep H L := by
  obtain ⟨fp, h1, h2, h3⟩ := h
  obtain ⟨f1, f2, e, k1, k2⟩ := satL.append.mp h1
  subst e
  exact ⟨f1, k1, (List.nodup_append.mp h2).1, fun a m => h3 a (List.mem_append_left _ m)⟩
theorem Sep.tail {H : Hp} {A : Asn G} {L : List (Asn G)} (h : Sep H (A :: L)) : Sep H L := by
  have p : (A :: L).Perm (L ++ [A]) := (List.perm_append_singleton A L).symm
  exact (h.perm p).left
/-- old things stand, new ones may come -/
theorem Sep.more {H H' : Hp} {L : List (Asn G)} (h : Sep H L) (s : Same H H') : Sep H' L := by
  obtain ⟨fp, h1, h2, h3⟩ := h
  exact ⟨fp, h1.loc (fun a m => by obtain ⟨o, e, _⟩ := h3 a m; rw [e]; exact s a o e) (.of_same s), h2, fun a m => by
    obtain ⟨o, e, n⟩ := h3 a m; exact ⟨o, s a o e, n⟩⟩
theorem satL.at {H : Hp} {A : Asn G} : ∀ {L : List (Asn G)} {fp : List Addr} {i : Nat}, satL H L fp → L[i]? = some A → ∃ fp, A.sat H fp
  | [], _, _, _, e => by simp at e
  | B :: L, _, 0, ⟨f1, _, _, k1, _⟩, e => ⟨f1, by
      have : B = A := Option.some.inj e
      subst this; exact k1⟩
  | B :: L, _, i + 1, ⟨_, f2, _, _, k2⟩, e => satL.at (L := L) (i := i) k2 (by simpa using e)
theorem Sep.at {H : Hp} {L : List (Asn G)} (h : Sep H L) {i : Nat} {A : Asn G} (e : L[i]? = some A) : ∃ fp, A.sat H fp := by
  obtain ⟨fp, h1, _, _⟩ := h
  exact satL.at h1 e
/-- the i-th one ahead -/
theorem pull_perm {α : Type} : ∀ {L : List α} {i : Nat} {A : α}, L[i]? = some A → L.Perm (A :: L.eraseIdx i)
  | [], _, _, e => by simp at e
  | B :: L, 0, A, e => by
    have : B = A := Option.some.inj e
    subst this
    exact .refl _
  | B :: L, i + 1, A, e => by
    have ih := pull_perm (L := L) (i := i) (A := A) (by simpa using e)
    exact (List.Perm.cons B ih).trans (List.Perm.swap A B _)
theorem set_perm {α : Type} : ∀ {L : List α} {i : Nat} {A B : α}, L[i]? = some A → (B :: L.eraseIdx i).Perm (L.set i B)
  | [], _, _, _, e => by simp at e
  | C :: L, 0, A, B, e => .refl _
  | C :: L, i + 1, A, B, e => by
    have ih := set_perm (L := L) (i := i) (A := A) (B := B) (by simpa using e)
    exact (List.Perm.swap C B _).trans (List.Perm.cons C ih)
/-- chosen ones, in a chosen order -/
def pick {α : Type} (L : List α) (is : List Nat) : List α := is.filterMap fun i => L[i]?
theorem pick_perm {α : Type} : ∀ (is : List Nat) (L : List α), is.Nodup → ∃ R, L.Perm (pick L is ++ R)
  | [], L, _ => ⟨L, .refl _⟩
  | i :: is, L, nd => by
    obtain ⟨n1, n2⟩ := List.nodup_cons.mp nd
    cases e : L[i]? with
    | none =>
      obtain ⟨R, p⟩ := pick_perm is L n2
      refine ⟨R, ?_⟩
      have : pick L (i :: is) = pick L is := by unfold pick; rw [List.filterMap_cons, e]
      rw [this]; exact p
    | some A =>
      -- the others by their places without i
      have key : ∀ (js : List Nat), i ∉ js → pick L js = pick (L.eraseIdx i) (js.map fun j => if j < i then j else j - 1) := by
        intro js hj
        unfold pick
        rw [List.filterMap_map]
        have gen : ∀ js : List Nat, i ∉ js → js.filterMap (fun i => L[i]?) = js.filterMap ((fun j => (L.eraseIdx i)[j]?) ∘ fun j => if j < i then j else j - 1) := by
          intro js
          induction js with
          | nil => intro _; rfl
          | cons j js ih =>
            intro hm
            have hji : j ≠ i := fun z => hm (by rw [z]; exact List.mem_cons_self)
            have ih' := ih fun z => hm (List.mem_cons_of_mem _ z)
            have ej : L[j]? = ((fun j => (L.eraseIdx i)[j]?) ∘ fun j => if j < i then j else j - 1) j := by
              show L[j]? = (L.eraseIdx i)[if j < i then j else j - 1]?
              rw [List.getElem?_eraseIdx]
              by_cases c : j < i
              · rw [if_pos c, if_pos c]
              · rw [if_neg c, if_neg (by omega)]
                congr 1; omega
            rw [List.filterMap_cons, List.filterMap_cons, ih', ej]
        exact gen js hj
      have nd2 : (is.map fun j => if j < i then j else j - 1).Nodup := by
        refine List.pairwise_map.mpr (List.Pairwise.imp_of_mem ?_ n2)
        intro a b ha hb hab z
        have ha' : a ≠ i := fun q => n1 (q ▸ ha)
        have hb' : b ≠ i := fun q => n1 (q ▸ hb)
        split at z <;> split at z <;> omega
      obtain ⟨R, p⟩ := pick_perm (is.map fun j => if j < i then j else j - 1) (L.eraseIdx i) nd2
      refine ⟨R, ?_⟩
      have e2 : pick L (i :: is) = A :: pick L is := by unfold pick; rw [List.filterMap_cons, e]
      rw [e2, key is n1]
      exact (pull_perm e).trans (List.Perm.cons A p)
termination_by is => is.length
theorem Sep.sel {H : Hp} {L L' : List (Asn G)} (h : Sep H L) (is : List Nat) (nd : is.Nodup) (e : pick L is = L') : Sep H L' := by
  obtain ⟨R, p⟩ := pick_perm is L nd
  rw [e] at p
  exact (h.perm p).left
/-- at a stands o, owned -/
def cell (a : Addr) (o : HO) : Asn G := ⟨fun H fp => fp = [a] ∧ H a = some o, fun H H' fp h k _ => ⟨h.1, by rw [k a (by rw [h.1]; simp)]; exact h.2⟩⟩
/-- a fact that stays -/
def fact (p : Hp → Prop) (st : ∀ H H', p H → Stab G H H' → p H') : Asn G := ⟨fun H fp => fp = [] ∧ p H, fun H H' fp h _ s => ⟨h.1, st H H' h.2 s⟩⟩
/-- several as one -/
def star (L : List (Asn G)) : Asn G := ⟨fun H fp => satL H L fp, fun H H' fp h k s => h.loc k s⟩
/-- some one of them -/
def exA {α : Type} (f : α → Asn G) : Asn G := ⟨fun H fp => ∃ x, (f x).sat H fp, fun H H' fp ⟨x, h⟩ k s => ⟨x, (f x).loc H H' fp h k s⟩⟩
/-- and a plain truth -/
def andA (p : Prop) (A : Asn G) : Asn G := ⟨fun H fp => p ∧ A.sat H fp, fun H H' fp ⟨x, h⟩ k s => ⟨x, A.loc H H' fp h k s⟩⟩
theorem Sep.star {H : Hp} {L M : List (Asn G)} (h : Sep H (M ++ [Ml.star L])) : Sep H (M ++ L) := by
  obtain ⟨fp, h1, h2, h3⟩ := h
  obtain ⟨f1, f2, e, k1, g1, g2, e2, k2, k3⟩ := satL.append.mp h1
  have k3' : g2 = [] := k3
  subst k3'
  rw [List.append_nil] at e2
  subst e2
  exact ⟨fp, satL.append.mpr ⟨f1, f2, e, k1, k2⟩, h2, h3⟩
theorem Sep.unstar {H : Hp} {L M : List (Asn G)} (h : Sep H (M ++ L)) : Sep H (M ++ [Ml.star L]) := by
  obtain ⟨fp, h1, h2, h3⟩ := h
  obtain ⟨f1, f2, e, k1, k2⟩ := satL.append.mp h1
  exact ⟨fp, satL.append.mpr ⟨f1, f2, e, k1, f2, [], by simp, k2, rfl⟩, h2, h3⟩
theorem Sep.star1 {H : Hp} {L M : List (Asn G)} (h : Sep H (Ml.star L :: M)) : Sep H (L ++ M) := by
  obtain ⟨fp, ⟨f1, f2, e, h1, k⟩, h2, h3⟩ := h
  exact ⟨fp, satL.append.mpr ⟨f1, f2, e, h1, k⟩, h2, h3⟩
theorem Sep.unstar1 {H : Hp} {L M : List (Asn G)} (h : Sep H (L ++ M)) : Sep H (Ml.star L :: M) := by
  obtain ⟨fp, h1, h2, h3⟩ := h
  obtain ⟨f1, f2, e, k1, k2⟩ := satL.append.mp h1
  exact ⟨fp, ⟨f1, f2, e, k1, k2⟩, h2, h3⟩
theorem Sep.ex {α : Type} {f : α → Asn G} {H : Hp} {M : List (Asn G)} (h : Sep H (exA f :: M)) : ∃ x, Sep H (f x :: M) := by
  obtain ⟨fp, ⟨f1, f2, e, ⟨x, h1⟩, k⟩, h2, h3⟩ := h
  exact ⟨x, fp, ⟨f1, f2, e, h1, k⟩, h2, h3⟩
theorem Sep.exI {α : Type} {f : α → Asn G} {H : Hp} {M : List (Asn G)} (x : α) (h : Sep H (f x :: M)) : Sep H (exA f :: M) := by
  obtain ⟨fp, ⟨f1, f2, e, h1, k⟩, h2, h3⟩ := h
  exact ⟨fp, ⟨f1, f2, e, ⟨x, h1⟩, k⟩, h2, h3⟩
theorem Sep.and {p : Prop} {A : Asn G} {H : Hp} {M : List (Asn G)} (h : Sep H (andA p A :: M)) : p ∧ Sep H (A :: M) := by
  obtain ⟨fp, ⟨f1, f2, e, ⟨x, h1⟩, k⟩, h2, h3⟩ := h
  exact ⟨x, fp, ⟨f1, f2, e, h1, k⟩, h2, h3⟩
theorem Sep.andI {p : Prop} {A : Asn G} {H : Hp} {M : List (Asn G)} (x : p) (h : Sep H (A :: M)) : Sep H (andA p A :: M) := by
  obtain ⟨fp, ⟨f1, f2, e, h1, k⟩, h2, h3⟩ := h
  exact ⟨fp, ⟨f1, f2, e, ⟨x, h1⟩, k⟩, h2, h3⟩
/-- another view of the first one, over the same part -/
theorem Sep.view {A B : Asn G} {H : Hp} {M : List (Asn G)} (h : Sep H (A :: M)) (v : ∀ fp, A.sat H fp → B.sat H fp) : Sep H (B :: M) := by
  obtain ⟨fp, ⟨f1, f2, e, h1, k⟩, h2, h3⟩ := h
  exact ⟨fp, ⟨f1, f2, e, v f1 h1, k⟩, h2, h3⟩
theorem Sep.addFact {p : Hp → Prop} {st : ∀ H H', p H → Stab G H H' → p H'} {H : Hp} {M : List (Asn G)} (h : Sep H M) (x : p H) : Sep H (fact p st :: M) := by
  obtain ⟨fp, h1, h2, h3⟩ := h
  exact ⟨fp, ⟨[], fp, rfl, ⟨rfl, x⟩, h1⟩, h2, h3⟩
theorem Sep.getFact {p : Hp → Prop} {st : ∀ H H', p H → Stab G H H' → p H'} {H : Hp} {M : List (Asn G)} (h : Sep H M) {i : Nat} (e : M[i]? = some (fact p st)) : p H := by
  obtain ⟨fp, _, x⟩ := h.at e
  exact x
theorem Sep.getCell {H : Hp} {M : List (Asn G)} (h : Sep H M) {i : Nat} {a : Addr} {o : HO} (e : M[i]? = some (cell a o)) : H a = some o := by
  obtain ⟨fp, _, x⟩ := h.at e
  exact x
theorem same_new {H : Hp} {p : Addr} {o : HO} (h : H p = none) : Same H (upd H p o) := fun b u e => by
  rw [upd_ne (ne_of_none e h)]; exact e
/-- a new thing -/
theorem Sep.new {H : Hp} {M : List (Asn G)} (h : Sep H M) {p : Addr} {o : HO} (hp : H p = none) (n : per G o = false) : Sep (upd H p o) (cell p o :: M) := by
  have h' := h.more (same_new (o := o) hp)
  obtain ⟨fp, h1, h2, h3⟩ := h
  obtain ⟨_, k1, _, _⟩ := (⟨fp, h1, h2, h3⟩ : Sep H M)
  have q : satL (upd H p o) M fp := h1.loc (fun a m => by obtain ⟨u, e, _⟩ := h3 a m; exact upd_ne (ne_of_none e hp)) (.of_same (same_new hp))
  refine ⟨p :: fp, ⟨[p], fp, rfl, ⟨rfl, upd_same⟩, q⟩, List.nodup_cons.mpr ⟨fun m => ?_, h2⟩, fun a m => ?_⟩
  · obtain ⟨u, e, _⟩ := h3 p m
    rw [hp] at e; cases e
  · rcases List.mem_cons.mp m with rfl | m
    · exact ⟨o, upd_same, n⟩
    · obtain ⟨u, e, z⟩ := h3 a m
      exact ⟨u, by rw [upd_ne (ne_of_none e hp)]; exact e, z⟩
/-- a store at the first one's place -/
theorem Sep.put1 {H : Hp} {M : List (Asn G)} {a : Addr} {o o' : HO} (h : Sep H (cell a o :: M)) (n : per G o' = false) (kd : kindOf o' = kindOf o) : Sep (upd H a o') (cell a o' :: M) := by
  obtain ⟨fp, ⟨f1, f2, e, ⟨e1, ho⟩, k⟩, h2, h3⟩ := h
  subst e1; subst e
  have nd : ¬ a ∈ f2 := (List.nodup_cons.mp h2).1
  obtain ⟨u, hu, nu⟩ := h3 a (by simp)
  have st : Stab G H (upd H a o') := stab_put ho (by rw [hu] at ho; cases ho; exact nu) kd
  refine ⟨a :: f2, ⟨[a], f2, rfl, ⟨rfl, upd_same⟩, k.loc (fun b m => upd_ne fun z => nd (z ▸ m)) st⟩, h2, fun b m => ?_⟩
  rcases List.mem_cons.mp m with rfl | m
  · exact ⟨o', upd_same, n⟩
  · obtain ⟨x, hx, nx⟩ := h3 b (by simp [m])
    exact ⟨x, by rw [upd_ne (fun z => nd (by rw [← z]; exact m))]; exact hx, nx⟩
theorem Sep.put {H : Hp} {M : List (Asn G)} {i : Nat} {a : Addr} {o o' : HO} (h : Sep H M) (e : M[i]? = some (cell a o)) (n : per G o' = false) (kd : kindOf o' = kindOf o) : Sep (upd H a o') (M.set i (cell a o')) :=
  ((h.perm (pull_perm e)).put1 n kd).perm (set_perm e)
/-- another view of the i-th one -/
theorem Sep.viewAt {A B : Asn G} {H : Hp} {M : List (Asn G)} {i : Nat} (h : Sep H M) (e : M[i]? = some A) (v : ∀ fp, A.sat H fp → B.sat H fp) : Sep H (M.set i B) :=
  ((h.perm (pull_perm e)).view v).perm (set_perm e)
end Ml
namespace Ml
open PySem L2
structure Exc where
  cls : Nat
  row : Int
  deriving DecidableEq, Repr
inductive R (α : Type) where
  | ok (a : α) | exc (x : Exc) | bad
  deriving DecidableEq, Repr
namespace R
variable {α β σ ρ : Type}
def bind : R α → (α → R β) → R β
  | .ok a, f => f a
  | .exc x, _ => .exc x
  | .bad, _ => .bad
@[simp] theorem bind_ok (a : α) (f : α → R β) : (R.ok a).bind f = f a := rfl
@[simp] theorem bind_exc (x : Exc) (f : α → R β) : (R.exc x : R α).bind f = .exc x := rfl
@[simp] theorem bind_bad (f : α → R β) : (R.bad : R α).bind f = .bad := rfl
def need (p : Prop) [Decidable p] (k : R α) : R α := if p then k else .bad
@[simp] theorem need_pos {p : Prop} [Decidable p] (h : p) (k : R α) : need p k = k := if_pos h
/-- what holds of the answer, or of the error -/
def wp : R α → (α → Prop) → (Exc → Prop) → Prop
  | .ok a, q, _ => q a
  | .exc x, _, e => e x
  | .bad, _, _ => False
theorem wp_bind {m : R α} {f : α → R β} {q : β → Prop} {e : Exc → Prop} (h : wp (m.bind f) q e) : wp m (fun a => wp (f a) q e) e := by
  cases m <;> exact h
theorem wp_need {p : Prop} [Decidable p] {k : R α} {q : α → Prop} {e : Exc → Prop} (h : wp (need p k) q e) : p ∧ wp k q e := by
  unfold need at h
  by_cases c : p
  · rw [if_pos c] at h; exact ⟨c, h⟩
  · rw [if_neg c] at h; exact h.elim
theorem wp_mono {m : R α} {q q' : α → Prop} {e e' : Exc → Prop} (h : wp m q e) (hq : ∀ a, q a → q' a) (he : ∀ x, e x → e' x) : wp m q' e' := by
  cases m with
  | ok a => exact hq a h
  | exc x => exact he x h
  | bad => exact h
theorem wp_of {m : R α} {a : α} {q : α → Prop} {e : Exc → Prop} (h : m = .ok a) (k : q a) : wp m q e := by rw [h]; exact k
theorem wp_if {c : Prop} [Decidable c] {a b : R α} {q : α → Prop} {e : Exc → Prop} (h : wp (if c then a else b) q e) : (c → wp a q e) ∧ (¬ c → wp b q e) := by
  by_cases x : c
  · rw [if_pos x] at h; exact ⟨fun _ => h, fun n => absurd x n⟩
  · rw [if_neg x] at h; exact ⟨fun y => absurd y x, fun _ => h⟩
end R
/-- a turn's end: on with s, out of the loop with s, out of the def with r -/
inductive Fl (σ ρ : Type) where
  | go (s : σ) | brk (s : σ) | out (r : ρ)
  deriving DecidableEq, Repr
section
variable {α β σ ρ : Type}
def forR (f : σ → α → R σ) : List α → σ → R σ
  | [], s => .ok s
  | x :: xs, s => (f s x).bind fun s => forR f xs s
def forF (f : σ → α → R (Fl σ ρ)) : List α → σ → R (Fl σ ρ)
  | [], s => .ok (.go s)
  | x :: xs, s => (f s x).bind fun r => match r with
    | .go s => forF f xs s
    | .brk s => .ok (.go s)
    | .out r => .ok (.out r)
/-- a comprehension: what each item gives, the state carried -/
def compR (f : σ → α → R (σ × Option β)) : List α → σ → R (σ × List β)
  | [], s => .ok (s, [])
  | x :: xs, s => (f s x).bind fun r => (compR f xs r.1).bind fun t => .ok (t.1, match r.2 with
    | some y => y :: t.2
    | none => t.2)
end
class Im (G : Gx) (α : Type) where
  im : Hp → V → α → Prop
  st : ∀ {H H' : Hp} {v : V} {x : α}, im H v x → Stab G H H' → im H' v x
class Fv (G : Gx) (α : Type) extends Im G α where
  enc : α → V
  im_iff : ∀ {H : Hp} {v : V} {x : α}, im H v x ↔ v = enc x
variable {G : Gx}
instance imInt : Im G Int := ⟨fun _ v x => v = .int x, fun h _ => h⟩
instance imBool : Im G Bool := ⟨fun _ v x => v = .bl x, fun h _ => h⟩
instance imStr : Im G Str := ⟨fun _ v x => v = .str x, fun h _ => h⟩
instance imUnit : Im G Unit := ⟨fun _ v _ => v = .non, fun h _ => h⟩
instance fInt : Fv G Int := { enc := .int, im_iff := .rfl }
instance fBool : Fv G Bool := { enc := .bl, im_iff := .rfl }
instance fStr : Fv G Str := { enc := .str, im_iff := .rfl }
instance fUnit : Fv G Unit := { enc := fun _ => .non, im_iff := .rfl }
/-- the script -/
structure Script where
  ns : List Int
instance : Im G Script := ⟨fun H v x => ∃ a, v = .ref a ∧ ((∃ o, H a = some (.frz o (.lst (x.ns.map V.int)))) ∨ ∃ o its n, List.lookup a G.K = some o ∧ o.cls = Value.type "list" ∧ o.dict = none ∧ o.data = Data.seq its n ∧ its.size ≤ sizeLine ∧ Vals (x.ns.map V.int) its.toList),
  fun ⟨a, e, h⟩ s => ⟨a, e, h.imp (fun ⟨o, h⟩ => ⟨o, s.1 a _ h rfl⟩) id⟩⟩
theorem im_script {H : Hp} {v : V} {x : Script} (h : Im.im G H v x) : ∃ a, v = .ref a ∧ SqL G.K H a (x.ns.map V.int) := by
  obtain ⟨a, e, h⟩ := h
  refine ⟨a, e, ?_⟩
  rcases h with ⟨o, h⟩ | h
  · exact .inl (.inr ⟨o, h⟩)
  · exact .inr h
theorem sq_script {H : Hp} {a : Addr} {x : Script} (h : Im.im G H (.ref a) x) : SqL G.K H a (x.ns.map V.int) := by
  obtain ⟨b, e, h⟩ := im_script h
  cases e; exact h
def imL {α : Type} [Im G α] (H : Hp) : List V → List α → Prop
  | [], [] => True
  | v :: vs, x :: xs => Im.im G H v x ∧ imL H vs xs
  | _, _ => False
section
variable {α : Type} [Im G α] {H H' : Hp}
theorem imL.st : ∀ {vs : List V} {xs : List α}, imL (G := G) H vs xs → Stab G H H' → imL (G := G) H' vs xs
  | [], [], _, _ => True.intro
  | v :: vs, x :: xs, h, s => ⟨Im.st h.1 s, imL.st h.2 s⟩
  | [], _ :: _, h, _ => h
  | _ :: _, [], h, _ => h
theorem imL.len : ∀ {vs : List V} {xs : List α}, imL (G := G) H vs xs → vs.length = xs.length
  | [], [], _ => rfl
  | v :: vs, x :: xs, h => by rw [List.length_cons, List.length_cons, imL.len h.2]
  | [], _ :: _, h => h.elim
  | _ :: _, [], h => h.elim
theorem imL.app : ∀ {vs ws : List V} {xs ys : List α}, imL (G := G) H vs xs → imL (G := G) H ws ys → imL (G := G) H (vs ++ ws) (xs ++ ys)
  | [], _, [], _, _, h => h
  | v :: vs, _, x :: xs, _, h, k => ⟨h.1, imL.app h.2 k⟩
  | [], _, _ :: _, _, h, _ => h.elim
  | _ :: _, _, [], _, h, _ => h.elim
theorem imL.get : ∀ {vs : List V} {xs : List α} {i : Nat} {x : α}, imL (G := G) H vs xs → xs[i]? = some x → ∃ v, vs[i]? = some v ∧ Im.im G H v x
  | [], [], _, _, _, e => by simp at e
  | v :: vs, x :: xs, 0, y, h, e => by
    have : x = y := Option.some.inj e
    subst this
    exact ⟨v, rfl, h.1⟩
  | v :: vs, x :: xs, i + 1, y, h, e => by
    obtain ⟨u, h1, h2⟩ := imL.get (i := i) (x := y) h.2 (by simpa using e)
    exact ⟨u, by simpa using h1, h2⟩
  | [], _ :: _, _, _, h, _ => h.elim
  | _ :: _, [], _, _, h, _ => h.elim
theorem imL.set : ∀ {vs : List V} {xs : List α} {i : Nat} {x : α} {v : V}, imL (G := G) H vs xs → Im.im G H v x → imL (G := G) H (vs.set i v) (xs.set i x)
  | [], [], _, _, _, _, _ => True.intro
  | v :: vs, x :: xs, 0, y, u, h, k => ⟨k, h.2⟩
  | v :: vs, x :: xs, i + 1, y, u, h, k => ⟨h.1, imL.set h.2 k⟩
  | [], _ :: _, _, _, _, h, _ => h.elim
  | _ :: _, [], _, _, _, h, _ => h.elim
theorem imL.take : ∀ {vs : List V} {xs : List α} (n : Nat), imL (G := G) H vs xs → imL (G := G) H (vs.take n) (xs.take n)
  | [], [], n, _ => by simp [imL]
  | v :: vs, x :: xs, 0, h => True.intro
  | v :: vs, x :: xs, n + 1, h => ⟨h.1, imL.take n h.2⟩
  | [], _ :: _, _, h => h.elim
  | _ :: _, [], _, h => h.elim
theorem imL.drop : ∀ {vs : List V} {xs : List α} (n : Nat), imL (G := G) H vs xs → imL (G := G) H (vs.drop n) (xs.drop n)
  | [], [], n, _ => by simp [imL]
  | v :: vs, x :: xs, 0, h => h
  | v :: vs, x :: xs, n + 1, h => imL.drop n h.2
  | [], _ :: _, _, h => h.elim
  | _ :: _, [], _, h => h.elim
end
section
variable {α : Type} [Fv G α] {H H' : Hp}
theorem imL.flat : ∀ {vs : List V} {xs : List α}, imL (G := G) H vs xs ↔ vs = xs.map (Fv.enc G)
  | [], [] => ⟨fun _ => rfl, fun _ => True.intro⟩
  | v :: vs, x :: xs => by
    show (Im.im G H v x ∧ imL (G := G) H vs xs) ↔ _
    rw [Fv.im_iff, imL.flat]
    simp
  | [], _ :: _ => by simp [imL]
  | _ :: _, [] => by simp [imL]
end
section
variable {α : Type} [Im G α]
def lstA (a : Addr) (xs : List α) : Asn G := ⟨fun H fp => fp = [a] ∧ ∃ vs, H a = some (.lst vs) ∧ imL (G := G) H vs xs,
  fun H H' fp ⟨e, vs, h, m⟩ k s => ⟨e, vs, by rw [k a (by rw [e]; simp)]; exact h, m.st s⟩⟩
/-- a value's fact -/
def imA (v : V) (x : α) : Asn G := fact (fun H => Im.im G H v x) fun H H' h s => Im.st h s
variable {H : Hp} {L : List (Asn G)}
theorem Sep.lst (h : Sep H L) {i : Nat} {a : Addr} {xs : List α} (e : L[i]? = some (lstA a xs)) : ∃ vs, H a = some (.lst vs) ∧ imL (G := G) H vs xs := by
  obtain ⟨fp, _, x⟩ := h.at e
  exact x
theorem Sep.im (h : Sep H L) {i : Nat} {v : V} {x : α} (e : L[i]? = some (imA v x)) : Im.im G H v x := h.getFact e
theorem Sep.addIm (h : Sep H L) {v : V} {x : α} (e : Im.im G H v x) : Sep H (imA v x :: L) := h.addFact e
/-- the list's own cell, and back -/
theorem Sep.openL (h : Sep H L) {i : Nat} {a : Addr} {xs : List α} (e : L[i]? = some (lstA a xs)) : ∃ vs, imL (G := G) H vs xs ∧ Sep H (L.set i (cell a (.lst vs))) := by
  obtain ⟨vs, e1, m⟩ := h.lst e
  exact ⟨vs, m, h.viewAt e fun fp ⟨q, _⟩ => ⟨q, e1⟩⟩
theorem Sep.closeL {i : Nat} {a : Addr} {vs : List V} {xs : List α} (h : Sep H L) (e : L[i]? = some (cell a (.lst vs))) (m : imL (G := G) H vs xs) : Sep H (L.set i (lstA a xs)) :=
  h.viewAt e fun fp ⟨q, r⟩ => ⟨q, vs, r, m⟩
theorem Sep.newL (h : Sep H L) {p : Addr} {vs : List V} {xs : List α} (hp : H p = none) (m : imL (G := G) H vs xs) : Sep (upd H p (.lst vs)) (lstA p xs :: L) :=
  (h.new (o := .lst vs) hp rfl).view fun fp ⟨q, r⟩ => ⟨q, vs, r, m.st (.of_same (same_new hp))⟩
theorem set_set {β : Type} {l : List β} {i : Nat} {x y : β} : (l.set i x).set i y = l.set i y := by simp
theorem get_set {β : Type} {l : List β} {i : Nat} {x y : β} (h : l[i]? = some x) : (l.set i y)[i]? = some y := by
  have : i < l.length := by
    have := List.getElem?_eq_some_iff.mp h
    exact this.1
  simp [this]
theorem Sep.putL (h : Sep H L) {i : Nat} {a : Addr} {xs ys : List α} {vs : List V} (e : L[i]? = some (lstA a xs)) (m : imL (G := G) H vs ys) : Sep (upd H a (.lst vs)) (L.set i (lstA a ys)) := by
  obtain ⟨us, mu, h1⟩ := h.openL e
  have e1 := get_set (y := cell (G := G) a (.lst us)) e
  have h2 := h1.put (o' := .lst vs) e1 rfl rfl
  rw [set_set] at h2
  have st : Stab G H (upd H a (.lst vs)) := stab_put (h1.getCell e1) rfl rfl
  have h3 := h2.closeL (get_set e) (m.st st)
  rw [set_set] at h3
  exact h3
end
end Ml
namespace Ml
open PySem L2
variable {G : Gx}
def Ev (te : TE) (σ : St) (H : Hp) (v : V) : Prop := ∀ Q : VK, Q v H → te σ H Q
def Et (t : TT) (σ : St) (H : Hp) (b : Bool) : Prop := ∀ Q : Bool → Hp → Prop, Q b H → t σ H Q
def Ea (t : TA) (σ : St) (H : Hp) (vs : List V) : Prop := ∀ Q : List V → Hp → Prop, Q vs H → t σ H Q
section
variable {σ : St} {H : Hp} {ta tb tc te : TE} {t u : TT} {x y v : V} {i j : Int} {a b : Bool} {s z : Str} {vs : List V}
theorem ev_var {k : Nat} (h : σ[k]? = some (some v)) : Ev (tVar k) σ H v := fun _ q => ⟨v, h, q⟩
theorem ev_c : Ev (tC v) σ H v := fun _ q => q
theorem ev_op {r : R2} (ha : Ev ta σ H x) (hb : Ev tb σ H y) (hr : ∀ Q : VK, Q v H → r x y H Q) : Ev (tOp r ta tb) σ H v := fun Q q => ha _ (hb _ (hr _ q))
theorem r_I0 {g : Int → Int → V} (Q : VK) (q : Q (g i j) H) : rI0 g (.int i) (.int j) H Q := ⟨i, j, rfl, rfl, q⟩
theorem r_I {C : Int → Int → Prop} {g : Int → Int → V} (c : C i j) (Q : VK) (q : Q (g i j) H) : rI C g (.int i) (.int j) H Q := ⟨i, j, rfl, rfl, c, q⟩
theorem ev_i0 {g : Int → Int → V} (ha : Ev ta σ H (.int i)) (hb : Ev tb σ H (.int j)) : Ev (tOp (rI0 g) ta tb) σ H (g i j) := ev_op ha hb fun Q q => r_I0 Q q
theorem ev_i {C : Int → Int → Prop} {g : Int → Int → V} (ha : Ev ta σ H (.int i)) (hb : Ev tb σ H (.int j)) (c : C i j) : Ev (tOp (rI C g) ta tb) σ H (g i j) := ev_op ha hb fun Q q => r_I c Q q
theorem ev_mul (ha : Ev ta σ H (.int i)) (hb : Ev tb σ H (.int j)) (c : CMul i j) : Ev (tOp (rI CMul fun i j => .int (i * j)) ta tb) σ H (.int (i * j)) := ev_i ha hb c
theorem ev_fdiv (ha : Ev ta σ H (.int i)) (hb : Ev tb σ H (.int j)) (c : 0 < j ∧ j < 1073741824) : Ev (tOp (rI CDiv fun i j => .int (i / j)) ta tb) σ H (.int (i / j)) := ev_i ha hb c
theorem ev_mod (ha : Ev ta σ H (.int i)) (hb : Ev tb σ H (.int j)) (c : 0 < j) : Ev (tOp (rI (fun _ j => 0 < j) fun i j => .int (i % j)) ta tb) σ H (.int (i % j)) := ev_i ha hb c
theorem ev_add (ha : Ev ta σ H (.int i)) (hb : Ev tb σ H (.int j)) : Ev (tOp (rI0 fun i j => .int (i + j)) ta tb) σ H (.int (i + j)) := ev_i0 ha hb
theorem ev_sub (ha : Ev ta σ H (.int i)) (hb : Ev tb σ H (.int j)) : Ev (tOp (rI0 fun i j => .int (i - j)) ta tb) σ H (.int (i - j)) := ev_i0 ha hb
theorem r_eqI (Q : VK) (q : Q (.bl (decide (i = j))) H) : rEq (.int i) (.int j) H Q := ⟨rfl, by
  have : decide (V.int i = V.int j) = decide (i = j) := by simp
  rw [this]; exact q⟩
theorem r_neS (Q : VK) (q : Q (.bl (!decide (s = z))) H) : rNe (.str s) (.str z) H Q := ⟨rfl, by
  have : decide (V.str s = V.str z) = decide (s = z) := by simp
  rw [this]; exact q⟩
theorem r_eqB (Q : VK) (q : Q (.bl (decide (a = b))) H) : rEq (.bl a) (.bl b) H Q := ⟨rfl, by
  have : decide (V.bl a = V.bl b) = decide (a = b) := by simp
  rw [this]; exact q⟩
theorem ev_eqI (ha : Ev ta σ H (.int i)) (hb : Ev tb σ H (.int j)) : Ev (tOp rEq ta tb) σ H (.bl (decide (i = j))) := ev_op ha hb fun Q q => r_eqI Q q
theorem ev_neS (ha : Ev ta σ H (.str s)) (hb : Ev tb σ H (.str z)) : Ev (tOp rNe ta tb) σ H (.bl (!decide (s = z))) := ev_op ha hb fun Q q => r_neS Q q
theorem ev_eqB (ha : Ev ta σ H (.bl a)) (hb : Ev tb σ H (.bl b)) : Ev (tOp rEq ta tb) σ H (.bl (decide (a = b))) := ev_op ha hb fun Q q => r_eqB Q q
def rCatS : R2 := fun x y H Q => ∃ i j, x = .str i ∧ y = .str j ∧ i.length + j.length ≤ sizeLine ∧ Q (.str (i ++ j)) H
theorem op_catS {X : Cx} : OpR X (binaryOp .Add) rCatS := op_add_str
theorem r_catS (c : s.length + z.length ≤ sizeLine) (Q : VK) (q : Q (.str (s ++ z)) H) : rCatS (.str s) (.str z) H Q := ⟨s, z, rfl, rfl, c, q⟩
theorem ev_catS (ha : Ev ta σ H (.str s)) (hb : Ev tb σ H (.str z)) (c : s.length + z.length ≤ sizeLine) : Ev (tOp rCatS ta tb) σ H (.str (s ++ z)) := ev_op ha hb fun Q q => r_catS c Q q
theorem et_test (h : Ev te σ H (.bl b)) : Et (tTest te) σ H b := fun _ q => h _ ⟨b, rfl, q⟩
theorem et_B (h : Ev te σ H (.bl b)) : Et (tB te) σ H b := fun _ q => h _ ⟨b, rfl, q⟩
theorem et_and (h1 : Et t σ H a) (h2 : a = true → Et u σ H b) : Et (tAnd t u) σ H (a && b) := fun Q q => h1 _ (by
  cases a with
  | true => exact h2 rfl _ q
  | false => exact q)
theorem ea_nil : Ea tNil σ H [] := fun _ q => q
theorem ea_cons {tr : TA} (h : Ev ta σ H x) (hr : Ea tr σ H vs) : Ea (tCons ta tr) σ H (x :: vs) := fun _ q => h _ (hr _ q)
theorem ev_cb {r : List V → Hp → VK → Prop} {tr : TA} (h : Ea tr σ H vs) (hr : ∀ Q : VK, Q v H → r vs H Q) : Ev (tCB r tr) σ H v := fun Q q => h _ (hr _ q)
variable {K : PySem.W.Frag} {α : Type}
theorem ev_ixSq {p : Addr} {ws : List V} (ha : Ev ta σ H (.ref p)) (hb : Ev tb σ H (.int i)) (hs : SqL K H p ws) (e : atI ws i = some v) : Ev (tOp (rIxL K) ta tb) σ H v := ev_op ha hb fun _ q => ⟨p, ws, i, v, rfl, rfl, hs, e, q⟩
theorem ev_ixS {c : Nat} (ha : Ev ta σ H (.str z)) (hb : Ev tb σ H (.int i)) (hl : z.length ≤ sizeLine) (e : atI z.cps.toList i = some c) : Ev (tOp rIxS ta tb) σ H (.str ⟨#[c]⟩) := ev_op ha hb fun _ q => ⟨z, i, c, rfl, rfl, hl, e, q⟩
def rLenSq (K : PySem.W.Frag) : List V → Hp → VK → Prop := fun xs H Q => ∃ p ys, xs = [.ref p] ∧ (SqL K H p ys ∨ SqT K H p ys) ∧ Q (.int ys.length) H
theorem call_lenSq {X : Cx} : CallR X (.builtin "len") (rLenSq X.K) := call_len_seq
theorem ev_lenL {p : Addr} {ws : List V} (ha : Ev ta σ H (.ref p)) (hs : SqL K H p ws) : Ev (tCB (rLenSq K) (tCons ta tNil)) σ H (.int ws.length) := ev_cb (ea_cons ha ea_nil) fun _ q => ⟨p, ws, rfl, .inl hs, q⟩
end
section
variable {σ σ' : St} {H : Hp} {te : TE} {t : TT} {D : Ends} {t1 t2 tb : TS} {v : V} {b : Bool}
theorem ev_to (h : Ev te σ H v) {Q : VK} (q : Q v H) : te σ H Q := h Q q
theorem ea_to {t : TA} {vs : List V} (h : Ea t σ H vs) {Q : List V → Hp → Prop} (q : Q vs H) : t σ H Q := h Q q
theorem et_to (h : Et t σ H b) {Q : Bool → Hp → Prop} (q : Q b H) : t σ H Q := h Q q
end
section
variable {α β τ ρ : Type} {H : Hp} {σ : St} {D : Ends} {tb : TS} {g : TG} {K : PySem.W.Frag}
/-- a walk J over the items xs: at turn i it yields a v of which the i-th item holds -/
structure Wk (J : It) (I : St → Hp → Prop) (im : Hp → V → α → Prop) (xs : List α) : Prop where
  go : ∀ i σ H, I σ H → i < xs.length → J.go i H
  yl : ∀ i σ H v H' x, I σ H → xs[i]? = some x → J.yld i H v H' → I σ H' ∧ im H' v x
  sp : ∀ σ H, I σ H → J.stop xs.length H
/-- for .. in ..: the state s : τ, I s its place in slots and heap; each turn reckons f -/
theorem for_walk {J : It} {I : τ → St → Hp → Prop} {im : Hp → V → α → Prop} {xs : List α} {f : τ → α → R τ} {k : τ → Prop} {e : Exc → Prop} {s : τ}
    (w : ∀ s, Wk J (I s) im xs) (h0 : I s σ H) (hm : R.wp (forR f xs s) k e)
    (turn : ∀ (s : τ) (x : α) (v : V) (σ : St) (H : Hp) (q : τ → Prop) (N : St → Hp → Prop), I s σ H → im H v x → R.wp (f s x) q e → (∀ s' σ' H', q s' → I s' σ' H' → N σ' H') → g v σ H fun σ2 H2 => tb { D with nx := N, ct := N, bk := D.nx } σ2 H2)
    (done : ∀ s σ H, k s → I s σ H → D.nx σ H) :
    ∃ W : Nat → Nat → St → Hp → Prop, (∃ m, W 0 m σ H) ∧ ∀ i m σ H, W i m σ H →
      (J.stop i H ∧ D.nx σ H) ∨ (J.go i H ∧ ∃ N : St → Hp → Prop, (∀ σ' H', N σ' H' → ∃ m', m' < m ∧ W (i + 1) m' σ' H') ∧ ∀ x H', J.yld i H x H' → g x σ H' fun σ2 H2 => tb { D with nx := N, ct := N, bk := D.nx } σ2 H2) := by
  refine ⟨fun i m σ H => m = xs.length - i ∧ i ≤ xs.length ∧ ∃ s, I s σ H ∧ R.wp (forR f (xs.drop i) s) k e, ⟨xs.length, by simp, Nat.zero_le _, s, h0, by simpa using hm⟩, ?_⟩
  rintro i m σ H ⟨rfl, hi, s, hI, hw⟩
  by_cases c : i < xs.length
  · have ed : xs.drop i = xs[i] :: xs.drop (i + 1) := List.drop_eq_getElem_cons c
    rw [ed] at hw
    refine .inr ⟨(w s).go i σ H hI c, fun σ' H' => ∃ s', I s' σ' H' ∧ R.wp (forR f (xs.drop (i + 1)) s') k e, fun σ' H' ⟨s', h1, h2⟩ => ⟨xs.length - (i + 1), by omega, rfl, c, s', h1, h2⟩, fun v H' y => ?_⟩
    obtain ⟨hI', hv⟩ := (w s).yl i σ H v H' xs[i] hI (List.getElem?_eq_getElem c) y
    exact turn s xs[i] v σ H' _ _ hI' hv (R.wp_bind hw) fun s' σ' H'' q hI'' => ⟨s', hI'', q⟩
  · have ei : i = xs.length := by omega
    subst ei
    rw [List.drop_length] at hw
    exact .inl ⟨(w s).sp σ H hI, done s σ H hw hI⟩
/-- .. whose turns may leave it -/
theorem for_walkF {J : It} {I : τ → St → Hp → Prop} {im : Hp → V → α → Prop} {xs : List α} {f : τ → α → R (Fl τ ρ)} {k : Fl τ ρ → Prop} {e : Exc → Prop} {s : τ}
    (w : ∀ s, Wk J (I s) im xs) (h0 : I s σ H) (hm : R.wp (forF f xs s) k e)
    (turn : ∀ (s : τ) (x : α) (v : V) (σ : St) (H : Hp) (q : Fl τ ρ → Prop) (N B : St → Hp → Prop), I s σ H → im H v x → R.wp (f s x) q e → (∀ s' σ' H', q (.go s') → I s' σ' H' → N σ' H') → (∀ s' σ' H', q (.brk s') → I s' σ' H' → B σ' H') → (∀ r, q (.out r) → k (.out r)) →
      g v σ H fun σ2 H2 => tb { D with nx := N, ct := N, bk := B } σ2 H2)
    (done : ∀ s σ H, k (.go s) → I s σ H → D.nx σ H) :
    ∃ W : Nat → Nat → St → Hp → Prop, (∃ m, W 0 m σ H) ∧ ∀ i m σ H, W i m σ H →
      (J.stop i H ∧ D.nx σ H) ∨ (J.go i H ∧ ∃ N : St → Hp → Prop, (∀ σ' H', N σ' H' → ∃ m', m' < m ∧ W (i + 1) m' σ' H') ∧ ∀ x H', J.yld i H x H' → g x σ H' fun σ2 H2 => tb { D with nx := N, ct := N, bk := D.nx } σ2 H2) := by
  refine ⟨fun i m σ H => m = xs.length - i ∧ i ≤ xs.length ∧ ∃ s, I s σ H ∧ R.wp (forF f (xs.drop i) s) k e, ⟨xs.length, by simp, Nat.zero_le _, s, h0, by simpa using hm⟩, ?_⟩
  rintro i m σ H ⟨rfl, hi, s, hI, hw⟩
  by_cases c : i < xs.length
  · have ed : xs.drop i = xs[i] :: xs.drop (i + 1) := List.drop_eq_getElem_cons c
    rw [ed] at hw
    refine .inr ⟨(w s).go i σ H hI c, fun σ' H' => ∃ s', I s' σ' H' ∧ R.wp (forF f (xs.drop (i + 1)) s') k e, fun σ' H' ⟨s', h1, h2⟩ => ⟨xs.length - (i + 1), by omega, rfl, c, s', h1, h2⟩, fun v H' y => ?_⟩
    obtain ⟨hI', hv⟩ := (w s).yl i σ H v H' xs[i] hI (List.getElem?_eq_getElem c) y
    have hw' := R.wp_bind hw
    exact turn s xs[i] v σ H' _ _ _ hI' hv hw' (fun s' σ' H'' q hI'' => ⟨s', hI'', q⟩) (fun s' σ' H'' q hI'' => done s' σ' H'' q hI'') fun r q => q
  · have ei : i = xs.length := by omega
    subst ei
    rw [List.drop_length] at hw
    exact .inl ⟨(w s).sp σ H hI, done s σ H hw hI⟩
/-- a comprehension -/
theorem lc_walk {J : It} {I : Addr → τ → List β → Hp → Prop} {im : Hp → V → α → Prop} [Im G β] {xs : List α} {f : τ → α → R (τ × Option β)} {k : τ × List β → Prop} {e : Exc → Prop} {s : τ} {tt : TT} {te : TE} {vs : List Nat} {Q : VK} {Dr : Addr}
    (w : ∀ s ys, Wk J (fun _ H => I Dr s ys H) im xs) (h0 : I Dr s [] (upd H Dr (.lst []))) (hm : R.wp (compR f xs s) k e) (hl : xs.length ≤ sizeLine)
    (turn : ∀ (s : τ) (ys : List β) (x : α) (v : V) (H : Hp) (q : τ × Option β → Prop) (Nx : Hp → Prop), I Dr s ys H → im H v x → R.wp (f s x) q e → ys.length < sizeLine →
      (∀ s' y u H', q (s', some y) → Im.im G H' u y → I Dr s' ys H' → ∃ acc, H' Dr = some (.lst acc) ∧ acc.length < sizeLine ∧ Nx (upd H' Dr (.lst (acc ++ [u])))) → (∀ s' H', q (s', none) → I Dr s' ys H' → Nx H') →
      g v (wipe σ vs) H fun σ2 H2 => wipe σ2 vs = wipe σ vs ∧ tt σ2 H2 fun b H3 => if b = true then te σ2 H3 fun y H4 => ∃ acc, H4 Dr = some (.lst acc) ∧ acc.length < sizeLine ∧ Nx (upd H4 Dr (.lst (acc ++ [y]))) else Nx H3)
    (app : ∀ s ys y u H, I Dr s ys H → Im.im G H u y → ∃ acc, H Dr = some (.lst acc) ∧ acc.length = ys.length ∧ I Dr s (ys ++ [y]) (upd H Dr (.lst (acc ++ [u]))))
    (done : ∀ s ys H, k (s, ys) → I Dr s ys H → Q (.ref Dr) H) :
    ∃ W : Nat → Nat → Hp → Prop, (∃ m, W 0 m (upd H Dr (.lst []))) ∧ ∀ i m H, W i m H →
      (J.stop i H ∧ Q (.ref Dr) H) ∨ (J.go i H ∧ ∃ Nx : Hp → Prop, (∀ H', Nx H' → ∃ m', m' < m ∧ W (i + 1) m' H') ∧ ∀ x H', J.yld i H x H' → g x (wipe σ vs) H' fun σ2 H2 => wipe σ2 vs = wipe σ vs ∧ tt σ2 H2 fun b H3 =>
        if b = true then te σ2 H3 fun y H4 => ∃ acc, H4 Dr = some (.lst acc) ∧ acc.length < sizeLine ∧ Nx (upd H4 Dr (.lst (acc ++ [y]))) else Nx H3) := by
  refine ⟨fun i m H => m = xs.length - i ∧ i ≤ xs.length ∧ ∃ s ys, ys.length ≤ i ∧ I Dr s ys H ∧ R.wp (compR f (xs.drop i) s) (fun t => k (t.1, ys ++ t.2)) e, ⟨xs.length, by simp, Nat.zero_le _, s, [], Nat.le_refl _, h0, by simpa using hm⟩, ?_⟩
  rintro i m H ⟨rfl, hi, s, ys, hy, hI, hw⟩
  by_cases c : i < xs.length
  · have ed : xs.drop i = xs[i] :: xs.drop (i + 1) := List.drop_eq_getElem_cons c
    rw [ed] at hw
    refine .inr ⟨(w s ys).go i [] H hI c, fun H' => ∃ s' ys', ys'.length ≤ i + 1 ∧ I Dr s' ys' H' ∧ R.wp (compR f (xs.drop (i + 1)) s') (fun t => k (t.1, ys' ++ t.2)) e,
      fun H' ⟨s', ys', h0, h1, h2⟩ => ⟨xs.length - (i + 1), by omega, rfl, c, s', ys', h0, h1, h2⟩, fun v H' y => ?_⟩
    obtain ⟨hI', hv⟩ := (w s ys).yl i [] H v H' xs[i] hI (List.getElem?_eq_getElem c) y
    have hw' := R.wp_bind hw
    refine turn s ys xs[i] v H' _ _ hI' hv hw' (by omega) (fun s' y u H'' q hu hI'' => ?_) (fun s' H'' q hI'' => ?_)
    · have q' := R.wp_bind q
      obtain ⟨acc, ea, la, hI3⟩ := app s' ys y u H'' hI'' hu
      refine ⟨acc, ea, by omega, s', ys ++ [y], by simp; omega, hI3, ?_⟩
      refine R.wp_mono q' (fun t ht => ?_) fun _ z => z
      have ht' : k (t.1, ys ++ y :: t.2) := ht
      rw [List.append_assoc]; exact ht'
    · have q' := R.wp_bind q
      exact ⟨s', ys, by omega, hI'', R.wp_mono q' (fun t ht => ht) fun _ z => z⟩
  · have ei : i = xs.length := by omega
    subst ei
    rw [List.drop_length] at hw
    have hw : k (s, ys ++ []) := hw
    rw [List.append_nil] at hw
    exact .inl ⟨(w s ys).sp [] H hI, done s ys H hw hI⟩
end
end Ml
namespace Ml
open PySem L2
variable {G : Gx}
def idxR {α : Type} (xs : List α) (i : Int) : R α := match atI xs i with
  | some x => .ok x
  | none => .bad
theorem wp_idx {α ρ : Type} {xs : List α} {i : Int} {f : α → R ρ} {q : ρ → Prop} {e : Exc → Prop} (h : R.wp ((idxR xs i).bind f) q e) : ∃ x, atI xs i = some x ∧ R.wp (f x) q e := by
  unfold idxR at h
  cases c : atI xs i with
  | some x => rw [c] at h; exact ⟨x, rfl, h⟩
  | none => rw [c] at h; exact h.elim
theorem atI_map {α β : Type} {xs : List α} {f : α → β} {i : Int} {x : α} (h : atI xs i = some x) : atI (xs.map f) i = some (f x) := by
  unfold atI at h ⊢
  rw [List.length_map]
  cases e : ixN xs.length i with
  | none => rw [e] at h; cases h
  | some j =>
    rw [e] at h
    show (xs.map f)[j]? = some (f x)
    have h : xs[j]? = some x := h
    rw [List.getElem?_map, h]; rfl
theorem atI_im {α : Type} [Im G α] {H : Hp} {vs : List V} {xs : List α} {i : Int} {x : α} (m : imL (G := G) H vs xs) (h : atI xs i = some x) : ∃ v, atI vs i = some v ∧ Im.im G H v x := by
  unfold atI at h ⊢
  rw [m.len]
  cases e : ixN xs.length i with
  | none => rw [e] at h; cases h
  | some j =>
    rw [e] at h
    exact m.get h
theorem atI_ok {α : Type} {xs : List α} {i : Int} (h0 : 0 ≤ i) (h1 : i < xs.length) : ∃ x, xs[i.toNat]? = some x ∧ atI xs i = some x := by
  have hj : i.toNat < xs.length := by omega
  refine ⟨xs[i.toNat], List.getElem?_eq_getElem hj, ?_⟩
  unfold atI ixN
  rw [if_pos h0, if_pos h1]
  exact List.getElem?_eq_getElem hj
theorem idxR_ok {α : Type} {xs : List α} {i : Int} {x : α} (h0 : 0 ≤ i) (h1 : xs[i.toNat]? = some x) : idxR xs i = .ok x := by
  have hl : i.toNat < xs.length := (List.getElem?_eq_some_iff.mp h1).1
  obtain ⟨y, hy, h⟩ := atI_ok (xs := xs) h0 (by omega)
  rw [h1] at hy; cases hy
  unfold idxR; rw [h]
/-- one sign as a text -/
abbrev sg (c : Nat) : Str := ⟨#[c]⟩
def mulOk (i j : Int) : Prop := (-(2 ^ 64) < i ∧ i < 2 ^ 64) ∨ (-(2 ^ 64) < j ∧ j < 2 ^ 64)
instance (i j : Int) : Decidable (mulOk i j) := by unfold mulOk; infer_instance
def rngL (lo : Int) (n : Nat) : List Int := (List.range n).map fun (i : Nat) => lo + (i : Int)
theorem rngL_len (lo : Int) (n : Nat) : (rngL lo n).length = n := by simp [rngL]
theorem rngL_get {lo : Int} {n i : Nat} {x : Int} (h : (rngL lo n)[i]? = some x) : x = lo + (i : Int) ∧ i < n := by
  have hl : i < (rngL lo n).length := (List.getElem?_eq_some_iff.mp h).1
  rw [rngL_len] at hl
  unfold rngL at h
  rw [List.getElem?_map, List.getElem?_range hl] at h
  exact ⟨(Option.some.inj h).symm, hl⟩
section
variable {α τ : Type} {I : St → Hp → Prop} {K : PySem.W.Frag} {a : Addr}
theorem wk_list [Im G α] {xs : List α} (h : ∀ σ H, I σ H → ∃ vs, SqL K H a vs ∧ imL (G := G) H vs xs) : Wk (Itl K a) I (Im.im G) xs where
  go := fun i σ H hI hi => by
    obtain ⟨vs, s, m⟩ := h σ H hI
    have hl : i < vs.length := by rw [m.len]; exact hi
    exact ⟨vs, vs[i], s, List.getElem?_eq_getElem hl⟩
  yl := fun i σ H v H' x hI hx y => by
    obtain ⟨vs, s, m⟩ := h σ H hI
    obtain ⟨rfl, y⟩ := y
    obtain ⟨u, hu, im⟩ := m.get hx
    have e := y vs s
    rw [hu] at e; cases e
    exact ⟨hI, im⟩
  sp := fun σ H hI => by
    obtain ⟨vs, s, m⟩ := h σ H hI
    exact ⟨vs, s, by rw [m.len]; exact Nat.le_refl _⟩
theorem wk_range {lo : Int} {n : Nat} : Wk (Itr lo n) I (fun _ v (x : Int) => v = .int x) (rngL lo n) where
  go := fun i σ H _ hi => by rw [rngL_len] at hi; exact hi
  yl := fun i σ H v H' x hI hx y => by
    obtain ⟨rfl, y⟩ := y
    obtain ⟨e, _⟩ := rngL_get hx
    exact ⟨hI, by rw [y, e]⟩
  sp := fun σ H _ => by rw [rngL_len]; exact Nat.le_refl _
end
theorem Sep.sq {α : Type} [Im G α] {H : Hp} {L : List (Asn G)} (h : Sep H L) {i : Nat} {a : Addr} {xs : List α} (e : L[i]? = some (lstA a xs)) : ∃ vs, SqL G.K H a vs ∧ imL (G := G) H vs xs := by
  obtain ⟨vs, e, m⟩ := h.lst e
  exact ⟨vs, .inl (.inl e), m⟩
theorem Sep.sqF {α : Type} [Fv G α] {H : Hp} {L : List (Asn G)} (h : Sep H L) {i : Nat} {a : Addr} {xs : List α} (e : L[i]? = some (lstA a xs)) : SqL G.K H a (xs.map (Fv.enc G)) := by
  obtain ⟨vs, e, m⟩ := h.sq e
  rw [imL.flat.mp m] at e
  exact e
section
variable {σ σ' : St} {H : Hp} {L L' : List (Asn G)} {D : Ends} {Q : VK} {te ta tb : TE} {α β : Type}
theorem c_op {r : R2} (h : ta σ H fun x H1 => tb σ H1 fun y H2 => r x y H2 Q) : tOp r ta tb σ H Q := h
theorem c_cons {tr : TA} {P : List V → Hp → Prop} (h : ta σ H fun x H1 => tr σ H1 fun xs H2 => P (x :: xs) H2) : tCons ta tr σ H P := h
theorem c_nil {P : List V → Hp → Prop} (h : P [] H) : tNil σ H P := h
theorem c_call {sp : Sp} {dvs : List V} {E : XK} {t : TA} (h : t σ H fun vs H1 => sp (vs ++ dvs) H1 Q E) : tCall sp dvs E t σ H Q := h
theorem c_cb {r : List V → Hp → VK → Prop} {t : TA} (h : t σ H fun vs H1 => r vs H1 Q) : tCB r t σ H Q := h
theorem c_asg {i : Nat} (h : te σ H fun v H1 => D.nx (σ.set i (some v)) H1) : tAsg te (gName i) D σ H := h
theorem c_ret (h : te σ H D.rt) : tRet te D σ H := h
theorem c_drop (h : te σ H fun _ H1 => D.nx σ H1) : tDrop te D σ H := h
theorem c_set {i : Nat} {v : V} (e : σ.set i (some v) = σ') (h : D.nx σ' H) : D.nx (σ.set i (some v)) H := by rw [e]; exact h
/-- a new list of written items -/
def lstK (Q : VK) : List V → Hp → Prop := fun xs H1 => xs.length ≤ sizeLine ∧ ∀ p, H1 p = none → Q (.ref p) (upd H1 p (.lst xs))
theorem k_lst [Im G α] {vs : List V} {xs : List α} (hS : Sep H L) (m : imL (G := G) H vs xs) (z : vs.length ≤ sizeLine) (k : ∀ p H', Sep H' (lstA p xs :: L) → Q (.ref p) H') :
    lstK Q vs H := ⟨z, fun p hp => k p _ (hS.newL hp m)⟩
theorem c_lst {t : TA} (h : t σ H (lstK Q)) : tLst t σ H Q := h
theorem c_bm {K : PySem.W.Frag} {T : String} {r : V → List V → Hp → VK → Prop} {to : TE} {t : TA} (h : to σ H fun x H1 => tyV K T x H1 ∧ t σ H1 fun xs H2 => r x xs H2 Q) : tBM K T r to t σ H Q := h
theorem tyL [Im G α] {i : Nat} {a : Addr} {xs : List α} (hS : Sep H L) (e : L[i]? = some (lstA a xs)) : tyV G.K "list" (.ref a) H := by
  obtain ⟨vs, h, _⟩ := hS.sq e
  exact .inl ⟨rfl, vs, h⟩
theorem k_append [Im G α] {i : Nat} {a : Addr} {xs : List α} {x : α} {v : V} (hS : Sep H L) (e : L[i]? = some (lstA a xs)) (hv : Im.im G H v x) (z : xs.length < sizeLine) (e2 : L.set i (lstA a (xs ++ [x])) = L')
    (k : ∀ H', Sep H' L' → Q .non H') : rAppend (.ref a) [v] H Q := by
  obtain ⟨vs, h, m⟩ := hS.lst e
  refine ⟨a, vs, v, rfl, rfl, h, by rw [m.len]; exact z, k _ ?_⟩
  subst e2
  exact hS.putL e (m.app (vs := vs) (ws := [v]) ⟨hv, True.intro⟩)
def rListSq (K : PySem.W.Frag) : List V → Hp → VK → Prop := fun xs H Q => ∃ p ys, xs = [.ref p] ∧ (SqL K H p ys ∨ SqT K H p ys) ∧ ∀ l, H l = none → Q (.ref l) (upd H l (.lst ys))
theorem call_listSq {X : Cx} : CallR X (.type "list") (rListSq X.K) := call_list_of
end
end Ml
namespace Ml
open PySem L2
variable {G : Gx}
section
variable {κ β : Type} [DecidableEq κ]
def dget (kvs : List (κ × β)) (k : κ) : Option β := (kvs.find? fun kv => decide (kv.1 = k)).map (·.2)
def dput (kvs : List (κ × β)) (k : κ) (v : β) : List (κ × β) :=
  if (kvs.any fun kv => decide (kv.1 = k)) = true then kvs.map (fun kv => if kv.1 = k then (kv.1, v) else kv) else kvs ++ [(k, v)]
def ddrop (kvs : List (κ × β)) (k : κ) : List (κ × β) := kvs.filter fun kv => decide (kv.1 ≠ k)
def dhas (kvs : List (κ × β)) (k : κ) : Bool := (dget kvs k).isSome
end
class Kx (κ : Type) where
  key : κ → Key
  inj : ∀ {a b : κ}, key a = key b → a = b
instance : Kx Int := ⟨Sum.inl, fun h => Sum.inl.inj h⟩
instance : Kx Str := ⟨Sum.inr, fun h => Sum.inr.inj h⟩
section
variable {κ β : Type} [DecidableEq κ] [Kx κ] [Im G β]
def imD (H : Hp) : List (Key × V) → List (κ × β) → Prop
  | [], [] => True
  | p :: ps, q :: qs => (p.1 = Kx.key q.1 ∧ Im.im G H p.2 q.2) ∧ imD H ps qs
  | _, _ => False
variable {H H' : Hp}
theorem imD.st : ∀ {ps : List (Key × V)} {qs : List (κ × β)}, imD (G := G) H ps qs → Stab G H H' → imD (G := G) H' ps qs
  | [], [], _, _ => True.intro
  | p :: ps, q :: qs, h, s => ⟨⟨h.1.1, Im.st h.1.2 s⟩, imD.st h.2 s⟩
  | [], _ :: _, h, _ => h
  | _ :: _, [], h, _ => h
theorem imD.len : ∀ {ps : List (Key × V)} {qs : List (κ × β)}, imD (G := G) H ps qs → ps.length = qs.length
  | [], [], _ => rfl
  | p :: ps, q :: qs, h => by rw [List.length_cons, List.length_cons, imD.len h.2]
  | [], _ :: _, h => h.elim
  | _ :: _, [], h => h.elim
theorem key_dec (a b : κ) : decide (Kx.key a = Kx.key b) = decide (a = b) := by
  by_cases h : a = b
  · subst h; simp
  · have : ¬ Kx.key a = Kx.key b := fun e => h (Kx.inj e)
    simp [h, this]
theorem imD.val : ∀ {ps : List (Key × V)} {qs : List (κ × β)} (k : κ), imD (G := G) H ps qs → (∀ y, dget qs k = some y → ∃ v, valV ps (Kx.key k) = some v ∧ Im.im G H v y) ∧ (dget qs k = none → valV ps (Kx.key k) = none)
  | [], [], _, _ => ⟨fun y e => (by cases (show (none : Option β) = some y from e)), fun _ => rfl⟩
  | p :: ps, q :: qs, k, ⟨⟨e1, e2⟩, h⟩ => by
    have ih := imD.val k h
    by_cases c : q.1 = k
    · have c1 : p.1 = Kx.key k := by rw [e1, c]
      have d : dget (q :: qs) k = some q.2 := by simp [dget, List.find?_cons, c]
      rw [d, valV_pos c1]
      exact ⟨fun y e => ⟨p.2, rfl, by cases e; exact e2⟩, fun e => by cases e⟩
    · have c1 : ¬ p.1 = Kx.key k := fun z => c (Kx.inj (e1.symm.trans z))
      have d : dget (q :: qs) k = dget qs k := by simp [dget, List.find?_cons, c]
      rw [d, valV_neg c1]
      exact ih
  | [], _ :: _, _, h => h.elim
  | _ :: _, [], _, h => h.elim
theorem imD.any : ∀ {ps : List (Key × V)} {qs : List (κ × β)} (k : κ), imD (G := G) H ps qs → (ps.any fun kv => decide (kv.1 = Kx.key k)) = qs.any fun kv => decide (kv.1 = k)
  | [], [], _, _ => rfl
  | p :: ps, q :: qs, k, ⟨⟨e1, e2⟩, h⟩ => by
    rw [List.any_cons, List.any_cons, imD.any k h, e1, key_dec]
  | [], _ :: _, _, h => h.elim
  | _ :: _, [], _, h => h.elim
theorem imD.app : ∀ {ps rs : List (Key × V)} {qs ts : List (κ × β)}, imD (G := G) H ps qs → imD (G := G) H rs ts → imD (G := G) H (ps ++ rs) (qs ++ ts)
  | [], _, [], _, _, h => h
  | _ :: _, _, _ :: _, _, h, k => ⟨h.1, imD.app h.2 k⟩
  | [], _, _ :: _, _, h, _ => h.elim
  | _ :: _, _, [], _, h, _ => h.elim
theorem imD.rep : ∀ {ps : List (Key × V)} {qs : List (κ × β)} {k : κ} {v : V} {y : β}, imD (G := G) H ps qs → Im.im G H v y →
    imD (G := G) H (ps.map fun kv => if kv.1 = Kx.key k then (kv.1, v) else kv) (qs.map fun kv => if kv.1 = k then (kv.1, y) else kv)
  | [], [], _, _, _, _, _ => True.intro
  | p :: ps, q :: qs, k, v, y, ⟨⟨e1, e2⟩, h⟩, hv => by
    refine ⟨?_, imD.rep h hv⟩
    show (if p.1 = Kx.key k then (p.1, v) else p).1 = Kx.key (if q.1 = k then (q.1, y) else q).1 ∧ Im.im G H (if p.1 = Kx.key k then (p.1, v) else p).2 (if q.1 = k then (q.1, y) else q).2
    by_cases c : q.1 = k
    · have c1 : p.1 = Kx.key k := by rw [e1, c]
      rw [if_pos c, if_pos c1]; exact ⟨e1, hv⟩
    · have c1 : ¬ p.1 = Kx.key k := fun z => c (Kx.inj (e1.symm.trans z))
      rw [if_neg c, if_neg c1]; exact ⟨e1, e2⟩
  | [], _ :: _, _, _, _, h, _ => h.elim
  | _ :: _, [], _, _, _, h, _ => h.elim
theorem imD.put {ps : List (Key × V)} {qs : List (κ × β)} {k : κ} {v : V} {y : β} (h : imD (G := G) H ps qs) (hv : Im.im G H v y) : imD (G := G) H (putK ps (Kx.key k) v) (dput qs k y) := by
  unfold putK dput
  rw [h.any k]
  split
  · exact h.rep hv
  · exact h.app (rs := [(Kx.key k, v)]) (ts := [(k, y)]) ⟨⟨rfl, hv⟩, True.intro⟩
theorem imD.drop : ∀ {ps : List (Key × V)} {qs : List (κ × β)} (k : κ), imD (G := G) H ps qs → imD (G := G) H (dropK ps (Kx.key k)) (ddrop qs k)
  | [], [], _, _ => True.intro
  | p :: ps, q :: qs, k, ⟨⟨e1, e2⟩, h⟩ => by
    have ih := imD.drop k h
    unfold dropK ddrop at ih ⊢
    rw [List.filter_cons, List.filter_cons]
    by_cases c : q.1 = k
    · have c1 : p.1 = Kx.key k := by rw [e1, c]
      simp only [c, c1, ne_eq, not_true_eq_false, decide_false, Bool.false_eq_true, if_false]
      exact ih
    · have c1 : ¬ p.1 = Kx.key k := fun z => c (Kx.inj (e1.symm.trans z))
      simp only [c, c1, ne_eq, not_false_eq_true, decide_true, if_true]
      exact ⟨⟨e1, e2⟩, ih⟩
  | [], _ :: _, _, h => h.elim
  | _ :: _, [], _, h => h.elim
theorem imD.keys : ∀ {ps : List (Key × V)} {qs : List (κ × β)}, imD (G := G) H ps qs → ps.map (·.1) = qs.map fun q => Kx.key q.1
  | [], [], _ => rfl
  | p :: ps, q :: qs, h => by rw [List.map_cons, List.map_cons, imD.keys h.2, h.1.1]
  | [], _ :: _, h => h.elim
  | _ :: _, [], h => h.elim
def dictA (a : Addr) (kvs : List (κ × β)) : Asn G := ⟨fun H fp => fp = [a] ∧ ∃ ps, H a = some (.dK ps) ∧ imD (G := G) H ps kvs,
  fun H H' fp ⟨e, ps, h, m⟩ k s => ⟨e, ps, by rw [k a (by rw [e]; simp)]; exact h, m.st s⟩⟩
variable {L L' : List (Asn G)}
theorem Sep.dict (h : Sep H L) {i : Nat} {a : Addr} {kvs : List (κ × β)} (e : L[i]? = some (dictA a kvs)) : ∃ ps, H a = some (.dK ps) ∧ imD (G := G) H ps kvs := by
  obtain ⟨fp, _, x⟩ := h.at e
  exact x
theorem Sep.newD (h : Sep H L) {p : Addr} (hp : H p = none) : Sep (upd H p (.dK [])) (dictA p ([] : List (κ × β)) :: L) :=
  (h.new (o := .dK []) hp rfl).view fun fp ⟨q, r⟩ => ⟨q, [], r, True.intro⟩
theorem Sep.putD (h : Sep H L) {i : Nat} {a : Addr} {xs ys : List (κ × β)} {ps : List (Key × V)} (e : L[i]? = some (dictA a xs)) (m : imD (G := G) H ps ys) : Sep (upd H a (.dK ps)) (L.set i (dictA a ys)) := by
  obtain ⟨us, e0, mu⟩ := h.dict e
  have h1 : Sep H (L.set i (cell a (.dK us))) := h.viewAt e fun fp ⟨q, _⟩ => ⟨q, e0⟩
  have e1 := get_set (y := cell (G := G) a (.dK us)) e
  have h2 := h1.put (o' := .dK ps) e1 rfl rfl
  rw [set_set] at h2
  have st : Stab G H (upd H a (.dK ps)) := stab_put (h1.getCell e1) rfl rfl
  have h3 := h2.viewAt (B := dictA a ys) (get_set e) fun fp ⟨q, r⟩ => ⟨q, ps, r, m.st st⟩
  rw [set_set] at h3
  exact h3
variable {σ : St} {Q : VK} {td ty tx : TE} {k : κ} {a : Addr} {xs : List (κ × β)} {i : Nat}
theorem k_dnew (hS : Sep H L) (q : ∀ p H', Sep H' (dictA p ([] : List (κ × β)) :: L) → Q (.ref p) H') : tDNewK σ H Q := fun p hp => q p _ (hS.newD hp)
theorem dget_at (hS : Sep H L) (e : L[i]? = some (dictA a xs)) {o : Option β} (ho : dget xs k = o) : ∃ r, DGet H a (kV (Kx.key k)) r ∧ (∀ y, o = some y → ∃ v, r = some v ∧ Im.im G H v y) ∧ (o = none → r = none) := by
  obtain ⟨ps, h, m⟩ := hS.dict e
  obtain ⟨v1, v2⟩ := m.val k
  exact ⟨_, DGet.k h, fun y q => v1 y (ho.trans q), fun q => v2 (ho.trans q)⟩
theorem ev_din (hS : Sep H L) (e : L[i]? = some (dictA a xs)) (hy : Ev ty σ H (kV (Kx.key k))) (hd : Ev td σ H (.ref a)) : Ev (tDIn ty td) σ H (.bl (dhas xs k)) := fun Q q => hy _ (hd _ (by
  obtain ⟨r, g, h1, h2⟩ := dget_at hS e (k := k) rfl
  refine ⟨a, r, rfl, g, ?_⟩
  have : r.isSome = dhas xs k := by
    unfold dhas
    cases c : dget xs k with
    | none => rw [h2 c]; rfl
    | some y => obtain ⟨v, e, _⟩ := h1 y c; rw [e]; rfl
  rw [this]; exact q))
theorem ev_dnotin (hS : Sep H L) (e : L[i]? = some (dictA a xs)) (hy : Ev ty σ H (kV (Kx.key k))) (hd : Ev td σ H (.ref a)) : Ev (tDNotIn ty td) σ H (.bl (!dhas xs k)) := fun Q q => hy _ (hd _ (by
  obtain ⟨r, g, h1, h2⟩ := dget_at hS e (k := k) rfl
  refine ⟨a, r, rfl, g, ?_⟩
  have : r.isSome = dhas xs k := by
    unfold dhas
    cases c : dget xs k with
    | none => rw [h2 c]; rfl
    | some y => obtain ⟨v, e, _⟩ := h1 y c; rw [e]; rfl
  rw [this]; exact q))
theorem isD_of (hS : Sep H L) (e : L[i]? = some (dictA a xs)) : IsD H a := by
  obtain ⟨ps, h, _⟩ := hS.dict e
  exact .inl ⟨ps, .inl h⟩
end
class Lay (α : Type) where
  lay : α → Bool
instance : Lay Int := ⟨fun _ => true⟩
instance : Lay Bool := ⟨fun _ => true⟩
instance : Lay Str := ⟨fun x => PyData.strOk x⟩
def layAllB {α : Type} [Lay α] (xs : List α) : Bool := xs.all Lay.lay
class Pd (G : Gx) (α : Type) [Im G α] [DecidableEq α] [Lay α] where
  pd : α → PyData
  dep : Nat
  dp : ∀ {H : Hp} {v : V} {x : α}, Im.im G H v x → Dp G.K H v (pd x)
  lay_ok : ∀ x, Lay.lay x = true → (pd x).canLay0 = true
  dep_ok : ∀ x, (pd x).depth ≤ dep
  eqv : ∀ x y, PyData.eqv (pd x) (pd y) = decide (x = y)
instance pInt : Pd G Int where
  pd := .int
  dep := 0
  dp := fun {H v x} h => by
    have h : v = .int x := h
    subst h; exact .int x
  lay_ok := fun _ _ => rfl
  dep_ok := fun _ => Nat.le_refl _
  eqv := fun x y => by
    show (x == y) = decide (x = y)
    rfl
instance pBool : Pd G Bool where
  pd := .bool
  dep := 0
  dp := fun {H v x} h => by
    have h : v = .bl x := h
    subst h; exact .bl x
  lay_ok := fun _ _ => rfl
  dep_ok := fun _ => Nat.le_refl _
  eqv := fun x y => by cases x <;> cases y <;> rfl
theorem str_beq (x y : Str) : (x == y) = decide (x = y) := by
  by_cases h : x = y
  · subst h; simp
  · simp [h]
instance pStr : Pd G Str where
  pd := .str
  dep := 0
  dp := fun {H v x} h => by
    have h : v = .str x := h
    subst h; exact .str x
  lay_ok := fun _ h => h
  dep_ok := fun _ => Nat.le_refl _
  eqv := fun x y => str_beq x y
section
variable {α : Type} [Im G α] [DecidableEq α] [Lay α] [Pd G α] {H : Hp} {L : List (Asn G)}
theorem dpAll : ∀ {vs : List V} {xs : List α}, imL (G := G) H vs xs → DpAll G.K H vs (xs.map (Pd.pd G))
  | [], [], _ => .nil
  | v :: vs, x :: xs, h => .cons (Pd.dp h.1) (dpAll h.2)
  | [], _ :: _, h => h.elim
  | _ :: _, [], h => h.elim
theorem layAll : ∀ {xs : List α}, layAllB xs = true → PyData.canLayAll0 (xs.map (Pd.pd G)) = true
  | [], _ => rfl
  | x :: xs, h => by
    unfold layAllB at h
    rw [List.all_cons, Bool.and_eq_true] at h
    show ((Pd.pd G x).canLay0 && PyData.canLayAll0 (xs.map (Pd.pd G))) = true
    rw [Pd.lay_ok x h.1, layAll h.2]; rfl
theorem depAll : ∀ (xs : List α), PyData.depthAll (xs.map (Pd.pd G)) ≤ Pd.dep G α
  | [] => Nat.zero_le _
  | x :: xs => by
    show max (Pd.pd G x).depth (PyData.depthAll (xs.map (Pd.pd G))) ≤ _
    exact Nat.max_le.mpr ⟨Pd.dep_ok x, depAll xs⟩
theorem eqvAll_is : ∀ (xs ys : List α), PyData.eqvAll (xs.map (Pd.pd G)) (ys.map (Pd.pd G)) = decide (xs = ys)
  | [], [] => rfl
  | x :: xs, y :: ys => by
    show (PyData.eqv (Pd.pd G x) (Pd.pd G y) && PyData.eqvAll (xs.map (Pd.pd G)) (ys.map (Pd.pd G))) = _
    rw [Pd.eqv, eqvAll_is xs ys]
    simp
  | [], _ :: _ => rfl
  | _ :: _, [] => rfl
variable {a b : Addr} {xs ys : List α} {i j : Nat} {σ : St} {ta tb : TE}
end
section
variable {H : Hp} {L : List (Asn G)} {σ : St} {ta tb : TE} {a : Addr} {i : Nat}
theorem inV_str (x : Str) : ∀ ys : List Str, inV (.str x) (ys.map V.str) = decide (x ∈ ys)
  | [] => rfl
  | y :: ys => by
    have ih := inV_str x ys
    unfold inV at ih ⊢
    rw [List.map_cons, List.any_cons, ih]
    show ((y == x) || _) = _
    by_cases h : y = x
    · subst h; simp
    · have h' : ¬ x = y := fun e => h e.symm
      simp [h, h']
theorem flat_str : ∀ ys : List Str, (ys.map V.str).all flatV = true
  | [] => rfl
  | y :: ys => by rw [List.map_cons, List.all_cons, flat_str ys]; rfl
theorem ev_inL {x : Str} {ys : List Str} (hS : Sep H L) (e : L[i]? = some (lstA a ys)) (ha : Ev ta σ H (.str x)) (hb : Ev tb σ H (.ref a)) : Ev (tOp (rIn G.K false) ta tb) σ H (.bl (decide (x ∈ ys))) := ev_op ha hb fun Q q =>
  ⟨a, ys.map V.str, rfl, .inl (hS.sqF e), rfl, flat_str ys, by
    show Q (.bl (inV (.str x) (ys.map V.str))) H
    rw [inV_str]; exact q⟩
theorem ev_isi {x : V} {T U : String} {b : Bool} (ha : Ev ta σ H x) (hb : Ev tb σ H (.ty U)) (t : TyX G.K H x (.type T)) (e : kitB T U = some b) : Ev (tCB (rIsi G.K) (tCons ta (tCons tb tNil))) σ H (.bl b) :=
  ev_cb (ea_cons ha (ea_cons hb ea_nil)) fun Q q => ⟨x, .ty U, _, _, b, rfl, .ty U, t, kit_ty e, q⟩
end
end Ml
namespace Ml
open PySem L2
variable {G : Gx}
section
variable {σ σ' : St} {H : Hp} {L L' M : List (Asn G)} {D : Ends} {Q : VK} {te : TE} {tt : TT} {tb : TS} {α β τ ρ : Type} {i : Nat} {v : V} {vs : List Nat}
theorem c_gN {P : St → Hp → Prop} (e : σ.set i (some v) = σ') (h : P σ' H) : gName i v σ H P := by
  show P (σ.set i (some v)) H
  rw [e]; exact h
theorem c_gLc {P : Bool → Hp → Prop} (e : (wipe σ vs).set i (some v) = σ') (hw : wipe σ' vs = wipe σ vs) (h : tt σ' H P) : gName i v (wipe σ vs) H fun σ2 H2 => wipe σ2 vs = wipe σ vs ∧ tt σ2 H2 P := by
  show wipe ((wipe σ vs).set i (some v)) vs = wipe σ vs ∧ tt ((wipe σ vs).set i (some v)) H P
  rw [e]; exact ⟨hw, h⟩
theorem c_yes {A B : Hp → Prop} (h : A H) : tYes σ H fun b H3 => if b = true then A H3 else B H3 := h
theorem lc_app [Im G β] {Dr : Addr} {ys : List β} {y : β} {u : V} (hS : Sep H (lstA Dr ys :: M)) (hu : Im.im G H u y) : ∃ acc, H Dr = some (.lst acc) ∧ acc.length = ys.length ∧ Sep (upd H Dr (.lst (acc ++ [u]))) (lstA Dr (ys ++ [y]) :: M) := by
  obtain ⟨acc, h, m⟩ := hS.lst (i := 0) rfl
  exact ⟨acc, h, m.len, hS.putL (i := 0) rfl (m.app (vs := acc) (ws := [u]) ⟨hu, True.intro⟩)⟩
theorem st_nx (h : D.nx σ H) : tNext D σ H := h
def sq (t : TS) (D : Ends) : Ends := { D with nx := t D }
theorem f_seq {t1 t2 : TS} (h : t1 (sq t2 D) σ H) : tSeq t1 t2 D σ H := h
theorem sq_nx {t2 : TS} (h : t2 D σ H) : (sq t2 D).nx σ H := h
def forK (g : TG) (tb : TS) (D : Ends) (σ : L2.St) : It → Hp → Prop := fun J H1 => ∃ W : Nat → Nat → L2.St → Hp → Prop, (∃ m, W 0 m σ H1) ∧ ∀ i m σ H, W i m σ H →
  (J.stop i H ∧ D.nx σ H) ∨ (J.go i H ∧ ∃ N : L2.St → Hp → Prop, (∀ σ' H', N σ' H' → ∃ m', m' < m ∧ W (i + 1) m' σ' H') ∧ ∀ x H', J.yld i H x H' → g x σ H' fun σ2 H2 => tb { D with nx := N, ct := N, bk := D.nx } σ2 H2)
def loopD (D : Ends) (N B : L2.St → Hp → Prop) : Ends := { D with nx := N, ct := N, bk := B }
theorem c_for {wi : TI} {g : TG} (h : wi σ H (forK g tb D σ)) : tFor wi g tb D σ H := h
def lcK (g : TG) (tt : TT) (te : TE) (vs : List Nat) (σ : L2.St) (Q : VK) : It → Hp → Prop := fun J H1 => ∀ D, H1 D = none → ∃ W : Nat → Nat → Hp → Prop, (∃ m, W 0 m (upd H1 D (.lst []))) ∧ ∀ i m H, W i m H →
  (J.stop i H ∧ Q (.ref D) H) ∨ (J.go i H ∧ ∃ Nx : Hp → Prop, (∀ H', Nx H' → ∃ m', m' < m ∧ W (i + 1) m' H') ∧ ∀ x H', J.yld i H x H' → g x (wipe σ vs) H' fun σ2 H2 => wipe σ2 vs = wipe σ vs ∧ tt σ2 H2 fun b H3 =>
    if b = true then te σ2 H3 fun y H4 => ∃ acc, H4 D = some (.lst acc) ∧ acc.length < sizeLine ∧ Nx (upd H4 D (.lst (acc ++ [y]))) else Nx H3)
theorem c_lc {wi : TI} {g : TG} (h : wi σ H (lcK g tt te vs σ Q)) : tLc wi g tt te vs σ H Q := h
def rng1K (R : It → Hp → Prop) : List V → Hp → Prop := fun vs H1 => ∃ j : Int, vs = [.int j] ∧ -(2 ^ 62) ≤ j ∧ j < 2 ^ 62 ∧ R (Itr 0 j.toNat) H1
def ilK (K : PySem.W.Frag) (R : It → Hp → Prop) : VK := fun x H1 => ∃ a, x = .ref a ∧ (∃ xs, SqL K H1 a xs) ∧ R (Itl K a) H1
theorem c_rng1 {ta : TA} {R : It → Hp → Prop} (h : ta σ H (rng1K R)) : iRng1 ta σ H R := h
theorem c_il {K : PySem.W.Frag} {R : It → Hp → Prop} (h : te σ H (ilK K R)) : iList K te σ H R := h
theorem k_rng1 {R : It → Hp → Prop} {j : Int} (h1 : -(2 ^ 62) ≤ j) (h2 : j < 2 ^ 62) (h : R (Itr 0 j.toNat) H) : rng1K R [.int j] H := ⟨j, rfl, h1, h2, h⟩
theorem k_il [Im G α] {a : Addr} {xs : List α} {R : It → Hp → Prop} (hS : Sep H L) (e : L[i]? = some (lstA a xs)) (h : R (Itl G.K a) H) : ilK G.K R (.ref a) H := by
  obtain ⟨vs, s, _⟩ := hS.sq e
  exact ⟨a, rfl, ⟨vs, s⟩, h⟩
/-- for .. in .. -/
theorem k_for {J : It} {g : TG} {im : Hp → V → α → Prop} {xs : List α} {f : τ → α → R τ} {rest : τ → R ρ} {q : ρ → Prop} {e : Exc → Prop} {s : τ} (I : τ → L2.St → Hp → Prop)
    (w : ∀ s, Wk J (I s) im xs) (h0 : I s σ H) (hm : R.wp ((forR f xs s).bind rest) q e)
    (turn : ∀ (s : τ) (x : α) (v : V) (σ : L2.St) (H : Hp) (q : τ → Prop) (N : L2.St → Hp → Prop), I s σ H → im H v x → R.wp (f s x) q e → (∀ s' σ' H', q s' → I s' σ' H' → N σ' H') → g v σ H fun σ2 H2 => tb (loopD D N D.nx) σ2 H2)
    (done : ∀ s σ H, R.wp (rest s) q e → I s σ H → D.nx σ H) : forK g tb D σ J H :=
  for_walk (I := I) w h0 (R.wp_bind hm) turn done
theorem lp_ct {N B : L2.St → Hp → Prop} (h : N σ H) : tCont (loopD D N B) σ H := h
/-- a comprehension over owned things -/
theorem lc_sep [Im G β] {J : It} {im : Hp → V → α → Prop} {xs : List α} {f : τ → α → R (τ × Option β)} {rest : τ × List β → R ρ} {q : ρ → Prop} {e : Exc → Prop} {s : τ} (M : τ → List (Asn G))
    (hS : Sep H (M s)) (w : ∀ (Dr : Addr) (s : τ) (ys : List β), Wk J (fun (_ : St) H => Sep H (lstA Dr ys :: M s)) im xs) (hl : xs.length ≤ sizeLine) (hm : R.wp ((compR f xs s).bind rest) q e)
    (turn : ∀ (Dr : Addr) (s : τ) (ys : List β) (x : α) (v : V) (H : Hp) (q : τ × Option β → Prop) (Nx : Hp → Prop), Sep H (lstA Dr ys :: M s) → im H v x → R.wp (f s x) q e →
      (∀ s' y u H', q (s', some y) → Im.im G H' u y → Sep H' (lstA Dr ys :: M s') → ∃ acc, H' Dr = some (.lst acc) ∧ acc.length < sizeLine ∧ Nx (upd H' Dr (.lst (acc ++ [u])))) → (∀ s' H', q (s', none) → Sep H' (lstA Dr ys :: M s') → Nx H') →
      gName i v (wipe σ vs) H fun σ2 H2 => wipe σ2 vs = wipe σ vs ∧ tt σ2 H2 fun b H3 => if b = true then te σ2 H3 fun y H4 => ∃ acc, H4 Dr = some (.lst acc) ∧ acc.length < sizeLine ∧ Nx (upd H4 Dr (.lst (acc ++ [y]))) else Nx H3)
    (done : ∀ (Dr : Addr) (t : τ × List β) H, R.wp (rest t) q e → Sep H (lstA Dr t.2 :: M t.1) → Q (.ref Dr) H) :
    lcK (gName i) tt te vs σ Q J H := fun Dr hD =>
  lc_walk (G := G) (I := fun Dr s ys H => Sep H (lstA Dr ys :: M s)) (im := im) (xs := xs) (f := f) (k := fun t => R.wp (rest t) q e) (e := e) (s := s) (w Dr)
    (hS.newL (vs := []) (xs := ([] : List β)) hD True.intro) (R.wp_bind hm) hl
    (fun s ys x v H q Nx hI hv hw _ k1 k2 => turn Dr s ys x v H q Nx hI hv hw k1 k2)
    (fun s ys y u H hI hu => lc_app hI hu)
    (fun s ys H hk hI => done Dr (s, ys) H hk hI)
theorem c_asgS {to ti : TE} {t : TSet} (h : te σ H fun v H1 => to σ H1 fun o H2 => ti σ H2 fun j H3 => t o j v H3 fun H4 => D.nx σ H4) : tAsg te (gSub to ti t) D σ H := h
theorem m2 {X : Cx} {o : Expr} {m : Str} {apos : Pos} {e f : Expr} {cpos : Pos} (base : attributeBase o m X.env (eval o X.env) = eval o X.env := by rfl)
  (few : ((backTo cpos (starEach [e, f] X.env)).all (fun x => !x.1) && (backToKw cpos (keywordEach [] X.env)).all (fun x => x.1.isSome)
    && decide (([e, f] : List Expr).length + ([] : List Keyword).length + (if ([] : List Keyword).isEmpty then 0 else 1) < 30)) = true := by rfl)
  (line : (apos.endLine == cpos.line) = true := by rfl) (trees : backTo cpos (starEach [e, f] X.env) = [(false, eval e X.env), (false, eval f X.env)] := by rfl) : M2 X o m apos e f cpos := ⟨base, few, line, trees⟩
theorem r_ixSq {K : PySem.W.Frag} {p : Addr} {ws : List V} {i : Int} (hs : SqL K H p ws) (e : atI ws i = some v) (Q : VK) (q : Q v H) : rIxL K (.ref p) (.int i) H Q := ⟨p, ws, i, v, rfl, rfl, hs, e, q⟩
theorem ev_lenLm {K : PySem.W.Frag} {ta : TE} {p : Addr} {xs : List α} {f : α → V} (ha : Ev ta σ H (.ref p)) (hs : SqL K H p (xs.map f)) : Ev (tCB (rLenSq K) (tCons ta tNil)) σ H (.int xs.length) := by
  have := ev_lenL ha hs
  rw [List.length_map] at this
  exact this
end
end Ml
namespace Ml
open PySem L2
variable {G : Gx}
def andK (u : TT) (σ : St) (P : Bool → Hp → Prop) : Bool → Hp → Prop := fun c H => if c = true then u σ H P else P false H
def orK (u : TT) (σ : St) (P : Bool → Hp → Prop) : Bool → Hp → Prop := fun c H => if c = true then P true H else u σ H P
def notK (P : Bool → Hp → Prop) : Bool → Hp → Prop := fun c H => P (!c) H
def ifK (t1 t2 : TS) (D : Ends) (σ : St) : Bool → Hp → Prop := fun c H => if c = true then t1 D σ H else t2 D σ H
/-- a value that is a Bool -/
def blK (P : Bool → Hp → Prop) : VK := fun x H => ∃ k, x = .bl k ∧ P k H
def andVK (tb : TE) (σ : St) (Q : VK) : VK := fun x H => ∃ c, x = .bl c ∧ if c = true then tb σ H Q else Q (.bl false) H
section
variable {σ : St} {H : Hp} {L : List (Asn G)} {D : Ends} {Q : VK} {P : Bool → Hp → Prop} {t u : TT} {t1 t2 : TS} {ta tb te : TE} {ρ τ : Type} {a b : Bool} {v w : V}
theorem f_and (h : t σ H (andK u σ P)) : tAnd t u σ H P := h
theorem f_or (h : t σ H (orK u σ P)) : tOr t u σ H P := h
theorem f_not (h : t σ H (notK P)) : tNot t σ H P := h
theorem f_if (h : t σ H (ifK t1 t2 D σ)) : tIfS t t1 t2 D σ H := h
theorem f_test (h : te σ H (blK P)) : tTest te σ H P := h
theorem f_B (h : te σ H (blK P)) : tB te σ H P := h
theorem f_bl (h : P b H) : blK P (.bl b) H := ⟨b, rfl, h⟩
theorem f_andV (h : ta σ H (andVK tb σ Q)) : tAndV ta tb σ H Q := h
theorem f_nK (h : P (!b) H) : notK P b H := h
variable {A B : R Bool} {rest : Bool → R ρ} {q : ρ → Prop} {e : Exc → Prop}
theorem orK_J (hm : R.wp ((if a = true then .ok true else A).bind rest) q e) (hS : Sep H L)
    (h1 : a = false → ∀ q' : Bool → Prop, R.wp A q' e → (∀ b H', q' b → Sep H' L → P b H') → u σ H P) (k : ∀ b H', R.wp (rest b) q e → Sep H' L → P b H') : orK u σ P a H := by
  have hm' := R.wp_bind hm
  cases a with
  | true => exact k true H hm' hS
  | false => exact h1 rfl _ hm' k
theorem andVK_J (hm : R.wp ((if a = true then A else .ok false).bind rest) q e) (hS : Sep H L)
    (h1 : a = true → ∀ q' : Bool → Prop, R.wp A q' e → (∀ b H', q' b → Sep H' L → Q (.bl b) H') → tb σ H Q) (k : ∀ b H', R.wp (rest b) q e → Sep H' L → Q (.bl b) H') : andVK tb σ Q (.bl a) H := by
  have hm' := R.wp_bind hm
  refine ⟨a, rfl, ?_⟩
  cases a with
  | true => exact h1 rfl _ hm' k
  | false => exact k false H hm' hS
theorem ifK_2 (h1 : a = true → t1 D σ H) (h2 : a = false → t2 D σ H) : ifK t1 t2 D σ a H := by
  cases a with
  | true => exact h1 rfl
  | false => exact h2 rfl
theorem ifK_J {A B : R τ} {rest : τ → R ρ} (J : τ → St → Hp → Prop) (hm : R.wp ((if a = true then A else B).bind rest) q e)
    (h1 : a = true → ∀ q' : τ → Prop, R.wp A q' e → (∀ s σ' H', q' s → J s σ' H' → D.nx σ' H') → t1 D σ H)
    (h2 : a = false → ∀ q' : τ → Prop, R.wp B q' e → (∀ s σ' H', q' s → J s σ' H' → D.nx σ' H') → t2 D σ H)
    (k : ∀ s σ' H', R.wp (rest s) q e → J s σ' H' → D.nx σ' H') : ifK t1 t2 D σ a H := by
  have hm' := R.wp_bind hm
  cases a with
  | true => exact h1 rfl _ hm' k
  | false => exact h2 rfl _ hm' k
theorem wp_let {α : Type} {x : α} {f : α → R ρ} (hm : R.wp ((R.ok x).bind f) q e) : ∃ y, x = y ∧ R.wp (f y) q e := ⟨x, rfl, hm⟩
theorem n_is {i : Nat} (e : v = w) (h : D.nx (σ.set i (some w)) H) : D.nx (σ.set i (some v)) H := by rw [e]; exact h
/-- [elt ..] with a test: the two ways -/
theorem lc_if {A B : Prop} (h1 : a = true → A) (h2 : a = false → B) : if a = true then A else B := by
  cases a with
  | true => exact h1 rfl
  | false => exact h2 rfl
end
end Ml
namespace Ml
open PySem L2
section
variable {X : Cx} (K : PySem.W.Frag) (hK : X.K = K := by rfl)
include hK
theorem ix_listK : IxR X (rIxL K) := by subst hK; exact ix_list
theorem lenSqK : CallR X (.builtin "len") (rLenSq K) := by subst hK; exact call_lenSq
theorem listSqK : CallR X (.type "list") (rListSq K) := by subst hK; exact call_listSq
theorem isiK : CallR X (.builtin "isinstance") (rIsi K) := by subst hK; exact call_isi
theorem inSqK : OpR X (compareOp .In) (rIn K false) := by subst hK; exact op_in_seq
end
theorem eqDK {X : Cx} (K : PySem.W.Frag) (hu : X.A.units + 64 < cLine) (hK : X.K = K := by rfl) : OpR X (compareOp .Eq) (rEqD K) := by subst hK; exact op_eqD hu
theorem neDK {X : Cx} (K : PySem.W.Frag) (hu : X.A.units + 64 < cLine) (hK : X.K = K := by rfl) : OpR X (compareOp .NotEq) (rNeD K) := by subst hK; exact op_neD hu
theorem pi_listK {X : Cx} {tg e : Expr} {tl : TE} (K : PySem.W.Frag) (h : PE X e tl) (hK : X.K = K := by rfl) : PI X tg e (iList K tl) := by subst hK; exact pi_list h
section
variable {X : Cx} {T : String} {name : Str} {id : String} {r : V → List V → Hp → VK → Prop} {o e : Expr} {es : List Expr} {to : TE} {t : TA} {apos cpos : Pos}
theorem pe_bmK (K : PySem.W.Frag) (pa : PlainAttrs T) (slot : Slot T name id) (hty : typeOf (.builtin id) = pure (.type "method_descriptor")) (hm : MtR X id r) (ho : PE X o to) (ha : PA X (e :: es) t) (hK : X.K = K := by rfl)
    (hbase : attributeBase o name X.env (eval o X.env) = eval o X.env := by rfl)
    (hfew : ((backTo cpos (starEach (e :: es) X.env)).all (fun x => !x.1) && (backToKw cpos (keywordEach [] X.env)).all (fun x => x.1.isSome)
      && decide ((e :: es).length + ([] : List Keyword).length + (if ([] : List Keyword).isEmpty then 0 else 1) < 30)) = true := by rfl)
    (hline : (apos.endLine == cpos.line) = true := by rfl) (hs : starEach (e :: es) X.env = (false, eval e X.env) :: starEach es X.env := by rfl) (hplain : (backTo cpos (starEach es X.env)).any (·.1) = false := by rfl) :
    PE X (.Call (.Attribute o name apos) (e :: es) [] cpos) (tBM K T r to t) := by subst hK; exact pe_bm pa slot hty hm ho ha hbase hfew hline hs hplain
end
end Ml
namespace Ml
open PySem L2
theorem im_of_only {G : Gx} {H : Hp} {a : Addr} {ns : List Int} (hO : Only H) (hS : SqL G.K H a (ns.map V.int)) : Im.im G H (.ref a) (⟨ns⟩ : Script) := by
  refine ⟨a, rfl, ?_⟩
  rcases hS with (h | ⟨o, h⟩) | h
  · rcases hO a with z | ⟨o, xs, z⟩
    · rw [h] at z; cases z
    · rw [h] at z; cases z
  · exact .inl ⟨o, h⟩
  · exact .inr h
end Ml
namespace Ml
open PySem L2
end Ml
namespace Ml
open PySem L2
def fzK (Q : VK) : VK := fun v H => Q v H ∨ ∃ a u, v = .ref a ∧ H a = some u ∧ Mut (some u) ∧ ∀ o, Q v (upd H a (.frz o u))
def tFz (t : TE) : TE := fun σ H Q => t σ H (fzK Q)
theorem pe_fz {X : Cx} {e : Expr} {t : TE} (h : PE X e t) : PE X e (tFz t) := by
  refine ⟨fun pins s σ H Q I hw => ?_⟩
  refine thn (h.run pins s σ H _ I hw) fun v s1 ⟨x, H1, I1, r, q⟩ => ?_
  rcases q with q | ⟨a, u, e, ha, mu, q⟩
  · exact ⟨x, H1, I1, r, q⟩
  · obtain ⟨od, I2⟩ := I1.lock ha mu
    exact ⟨x, _, I2, r, q od⟩
variable {G : Gx}
section
variable {σ : St} {H : Hp} {L : List (Asn G)} {te : TE} {Q : VK} {v : V} {α : Type}
theorem c_fz (h : te σ H (fzK Q)) : tFz te σ H Q := h
theorem fz_no (h : Q v H) : fzK Q v H := .inl h
theorem ev_fz (h : Ev te σ H v) : Ev (tFz te) σ H v := fun Q q => h _ (.inl q)
/-- a locked list: a value -/
instance imList [Im G α] : Im G (List α) := ⟨fun H v xs => ∃ a vs, v = .ref a ∧ (∃ o, H a = some (.frz o (.lst vs))) ∧ imL (G := G) H vs xs,
  fun ⟨a, vs, e, ⟨o, h⟩, m⟩ s => ⟨a, vs, e, ⟨o, s.1 a _ h rfl⟩, m.st s⟩⟩
theorem imPl [Im G α] {a : Addr} {xs : List α} (h : Im.im G H (.ref a) xs) : ∃ vs, SqL G.K H a vs ∧ imL (G := G) H vs xs := by
  obtain ⟨b, vs, e, ⟨o, h⟩, m⟩ := h
  cases e
  exact ⟨vs, .inl (.inr ⟨o, h⟩), m⟩
/-- the i-th thing is dropped, the rest stays while its cell changes -/
theorem Sep.drop1 {a : Addr} {o o' : HO} {M : List (Asn G)} (h : Sep H (cell a o :: M)) (kd : kindOf o' = kindOf o) : Sep (upd H a o') M := by
  obtain ⟨fp, ⟨f1, f2, e, ⟨e1, ho⟩, k⟩, h2, h3⟩ := h
  subst e1; subst e
  have nd : ¬ a ∈ f2 := (List.nodup_cons.mp h2).1
  obtain ⟨u, hu, nu⟩ := h3 a (by simp)
  have eu : u = o := by rw [ho] at hu; cases hu; rfl
  have st : Stab G H (upd H a o') := stab_put hu nu (by rw [eu]; exact kd)
  refine ⟨f2, k.loc (fun b m => upd_ne fun z => nd (z ▸ m)) st, (List.nodup_cons.mp h2).2, fun b m => ?_⟩
  obtain ⟨x, hx, nx⟩ := h3 b (by simp [m])
  exact ⟨x, by rw [upd_ne (fun z => nd (by rw [← z]; exact m))]; exact hx, nx⟩
theorem fz_yes [Im G α] {i : Nat} {a : Addr} {xs : List α} (hS : Sep H L) (e : L[i]? = some (lstA a xs)) (k : ∀ H', Sep H' (imA (.ref a) xs :: L.eraseIdx i) → Q (.ref a) H') : fzK Q (.ref a) H := by
  obtain ⟨vs, m, h1⟩ := hS.openL e
  have h0 := h1.getCell (get_set e)
  refine .inr ⟨a, .lst vs, rfl, h0, True.intro, fun o => k _ ?_⟩
  have h2 := h1.perm (pull_perm (get_set (y := cell (G := G) a (.lst vs)) e))
  have e3 : (L.set i (cell a (.lst vs))).eraseIdx i = L.eraseIdx i := by simp [List.eraseIdx_set_eq]
  rw [e3] at h2
  obtain ⟨fp, ⟨f1, f2, _, ⟨ef, _⟩, _⟩, nd0, nper⟩ := id h2
  have nu : per G (.lst vs) = false := rfl
  have st : Stab G H (upd H a (.frz o (.lst vs))) := stab_put h0 nu rfl
  have h4 := h2.drop1 (o' := .frz o (.lst vs)) rfl
  exact h4.addIm ⟨a, vs, rfl, ⟨o, upd_same⟩, m.st st⟩
end
structure T3 (α β γ : Type) where
  a : α
  b : β
  c : γ
  deriving DecidableEq, Repr
structure T4 (α β γ δ : Type) where
  a : α
  b : β
  c : γ
  d : δ
  deriving DecidableEq, Repr
structure T5 (α β γ δ ε : Type) where
  a : α
  b : β
  c : γ
  d : δ
  e : ε
  deriving DecidableEq, Repr
structure T1 (α : Type) where
  a : α
  deriving DecidableEq, Repr
section
variable {α β γ δ ε : Type} [Im G α] [Im G β] [Im G γ] [Im G δ] [Im G ε] {H H' : Hp} {a : Addr} {u1 u2 u3 u4 u5 : V}
instance imT1 : Im G (T1 α) := ⟨fun H v x => ∃ a u1, v = .ref a ∧ H a = some (.tup [u1]) ∧ Im.im G H u1 x.a,
  fun ⟨a, u1, e, h, i1⟩ s => ⟨a, u1, e, s.1 a _ h rfl, Im.st i1 s⟩⟩
instance imT2 : Im G (α × β) := ⟨fun H v x => ∃ a u1 u2, v = .ref a ∧ H a = some (.tup [u1, u2]) ∧ Im.im G H u1 x.1 ∧ Im.im G H u2 x.2,
  fun ⟨a, u1, u2, e, h, i1, i2⟩ s => ⟨a, u1, u2, e, s.1 a _ h rfl, Im.st i1 s, Im.st i2 s⟩⟩
instance imT3 : Im G (T3 α β γ) := ⟨fun H v x => ∃ a u1 u2 u3, v = .ref a ∧ H a = some (.tup [u1, u2, u3]) ∧ Im.im G H u1 x.a ∧ Im.im G H u2 x.b ∧ Im.im G H u3 x.c,
  fun ⟨a, u1, u2, u3, e, h, i1, i2, i3⟩ s => ⟨a, u1, u2, u3, e, s.1 a _ h rfl, Im.st i1 s, Im.st i2 s, Im.st i3 s⟩⟩
instance imT4 : Im G (T4 α β γ δ) := ⟨fun H v x => ∃ a u1 u2 u3 u4, v = .ref a ∧ H a = some (.tup [u1, u2, u3, u4]) ∧ Im.im G H u1 x.a ∧ Im.im G H u2 x.b ∧ Im.im G H u3 x.c ∧ Im.im G H u4 x.d,
  fun ⟨a, u1, u2, u3, u4, e, h, i1, i2, i3, i4⟩ s => ⟨a, u1, u2, u3, u4, e, s.1 a _ h rfl, Im.st i1 s, Im.st i2 s, Im.st i3 s, Im.st i4 s⟩⟩
instance imT5 : Im G (T5 α β γ δ ε) := ⟨fun H v x => ∃ a u1 u2 u3 u4 u5, v = .ref a ∧ H a = some (.tup [u1, u2, u3, u4, u5]) ∧ Im.im G H u1 x.a ∧ Im.im G H u2 x.b ∧ Im.im G H u3 x.c ∧ Im.im G H u4 x.d ∧ Im.im G H u5 x.e,
  fun ⟨a, u1, u2, u3, u4, u5, e, h, i1, i2, i3, i4, i5⟩ s => ⟨a, u1, u2, u3, u4, u5, e, s.1 a _ h rfl, Im.st i1 s, Im.st i2 s, Im.st i3 s, Im.st i4 s, Im.st i5 s⟩⟩
end
class IsRef (G : Gx) (α : Type) [Im G α] : Prop where
  isref : ∀ {H : Hp} {v : V} {x : α}, Im.im G H v x → ∃ a, v = .ref a
theorem isref {α : Type} [Im G α] [IsRef G α] {H : Hp} {v : V} {x : α} (h : Im.im G H v x) : ∃ a, v = .ref a := IsRef.isref h
section
variable {α β γ δ ε : Type} [Im G α] [Im G β] [Im G γ] [Im G δ] [Im G ε]
instance : IsRef G (List α) := ⟨fun h => by obtain ⟨a, _, e, _⟩ := h; exact ⟨a, e⟩⟩
instance : IsRef G (T1 α) := ⟨fun h => by obtain ⟨a, _, e, _⟩ := h; exact ⟨a, e⟩⟩
instance : IsRef G (α × β) := ⟨fun h => by obtain ⟨a, _, _, e, _⟩ := h; exact ⟨a, e⟩⟩
instance : IsRef G (T3 α β γ) := ⟨fun h => by obtain ⟨a, _, _, _, e, _⟩ := h; exact ⟨a, e⟩⟩
instance : IsRef G (T4 α β γ δ) := ⟨fun h => by obtain ⟨a, _, _, _, _, e, _⟩ := h; exact ⟨a, e⟩⟩
instance : IsRef G (T5 α β γ δ ε) := ⟨fun h => by obtain ⟨a, _, _, _, _, _, e, _⟩ := h; exact ⟨a, e⟩⟩
end
section
variable {σ σ' : St} {H : Hp} {L : List (Asn G)} {D : Ends} {Q : VK} {te ta tb : TE} {α : Type} {K : PySem.W.Frag} {v : V}
/-- a field -/
theorem ev_fld {a C dx : Addr} {fs : List (Str × V)} {f : Str} (ha : Ev ta σ H (.ref a)) (h : H a = some (.ins C dx fs)) (c : Cls K C) (n : NoAttr K C f) (l : fs.lookup f = some v) : Ev (tFld K ta f) σ H v :=
  fun _ q => ha _ ⟨a, C, dx, fs, v, rfl, h, c, n, l, q⟩
end
end Ml
namespace Ml
open PySem L2
inductive Any where
  | str (s : Str) | int (i : Int) | bl (b : Bool) | non | tup (xs : List Any) | lst (xs : List Any) | oth (k : Nat)
section
variable (G : Gx)
mutual
def imAny (H : Hp) : V → Any → Prop
  | v, .str s => v = .str s
  | v, .int i => v = .int i
  | v, .bl b => v = .bl b
  | v, .non => v = .non
  | v, .tup xs => ∃ a vs, v = .ref a ∧ H a = some (.tup vs) ∧ imAnyL H vs xs
  | v, .lst xs => ∃ a vs, v = .ref a ∧ (∃ o, H a = some (.frz o (.lst vs))) ∧ imAnyL H vs xs
  | v, .oth k => ∃ a o, v = .ref a ∧ H a = some o ∧ kindOf o = k ∧ (k = 0 ∨ k = 1)
def imAnyL (H : Hp) : List V → List Any → Prop
  | [], [] => True
  | v :: vs, x :: xs => imAny H v x ∧ imAnyL H vs xs
  | _, _ => False
end
variable {G} {H H' : Hp}
mutual
theorem imAny.st : ∀ {v : V} {x : Any}, imAny H v x → Stab G H H' → imAny H' v x
  | v, .str s, h, _ => by rw [imAny] at h ⊢; exact h
  | v, .int i, h, _ => by rw [imAny] at h ⊢; exact h
  | v, .bl b, h, _ => by rw [imAny] at h ⊢; exact h
  | v, .non, h, _ => by rw [imAny] at h ⊢; exact h
  | v, .tup xs, h, s => by
    rw [imAny] at h ⊢
    obtain ⟨a, vs, e, g, m⟩ := h
    exact ⟨a, vs, e, s.1 a _ g rfl, imAnyL.st m s⟩
  | v, .lst xs, h, s => by
    rw [imAny] at h ⊢
    obtain ⟨a, vs, e, ⟨o, g⟩, m⟩ := h
    exact ⟨a, vs, e, ⟨o, s.1 a _ g rfl⟩, imAnyL.st m s⟩
  | v, .oth k, h, s => by
    rw [imAny] at h ⊢
    obtain ⟨a, o, e, g, q, z⟩ := h
    obtain ⟨o', g', q'⟩ := s.2 a o g
    exact ⟨a, o', e, g', q'.trans q, z⟩
theorem imAnyL.st : ∀ {vs : List V} {xs : List Any}, imAnyL H vs xs → Stab G H H' → imAnyL H' vs xs
  | [], [], h, _ => h
  | v :: vs, x :: xs, h, s => by
    rw [imAnyL] at h ⊢
    exact ⟨imAny.st h.1 s, imAnyL.st h.2 s⟩
  | [], _ :: _, h, _ => by rw [imAnyL] at h; exact h.elim; all_goals simp
  | _ :: _, [], h, _ => by rw [imAnyL] at h; exact h.elim; all_goals simp
end
instance imAnyI : Im G Any := ⟨fun H v x => imAny H v x, fun h s => imAny.st h s⟩
end
variable {G : Gx} {H : Hp} {L : List (Asn G)}
theorem any_str {v : V} {s : Str} : Im.im G H v (Any.str s) ↔ v = .str s := by show imAny H v (.str s) ↔ _; rw [imAny]
theorem any_int {v : V} {s : Int} : Im.im G H v (Any.int s) ↔ v = .int s := by show imAny H v (.int s) ↔ _; rw [imAny]
theorem any_bl {v : V} {s : Bool} : Im.im G H v (Any.bl s) ↔ v = .bl s := by show imAny H v (.bl s) ↔ _; rw [imAny]
theorem any_non {v : V} : Im.im G H v Any.non ↔ v = .non := by show imAny H v .non ↔ _; rw [imAny]
theorem imAnyL_eq : ∀ {vs : List V} {xs : List Any}, imAnyL H vs xs ↔ imL (G := G) H vs xs
  | [], [] => by rw [imAnyL]; exact Iff.rfl
  | v :: vs, x :: xs => by
    rw [imAnyL]
    exact and_congr_right fun _ => imAnyL_eq (vs := vs) (xs := xs)
  | [], _ :: _ => ⟨fun h => by rw [imAnyL] at h; exact h.elim; all_goals simp, fun h => h.elim⟩
  | _ :: _, [] => ⟨fun h => by rw [imAnyL] at h; exact h.elim; all_goals simp, fun h => h.elim⟩
theorem any_tup {v : V} {xs : List Any} : Im.im G H v (Any.tup xs) ↔ ∃ a vs, v = .ref a ∧ H a = some (.tup vs) ∧ imL (G := G) H vs xs := by
  show imAny H v (.tup xs) ↔ _
  rw [imAny]
  exact exists_congr fun a => exists_congr fun vs => and_congr_right fun _ => and_congr_right fun _ => imAnyL_eq
theorem any_lsts {v : V} {xs : List Any} : Im.im G H v (Any.lst xs) ↔ ∃ a vs, v = .ref a ∧ (∃ o, H a = some (.frz o (.lst vs))) ∧ imL (G := G) H vs xs := by
  show imAny H v (.lst xs) ↔ _
  rw [imAny]
  exact exists_congr fun a => exists_congr fun vs => and_congr_right fun _ => and_congr_right fun _ => imAnyL_eq
theorem any_oth {v : V} {k : Nat} : Im.im G H v (Any.oth k) ↔ ∃ a o, v = .ref a ∧ H a = some o ∧ kindOf o = k ∧ (k = 0 ∨ k = 1) := by
  show imAny H v (.oth k) ↔ _
  rw [imAny]
def Any.ty : Any → String
  | .str _ => "str"
  | .int _ => "int"
  | .bl _ => "bool"
  | .non => "NoneType"
  | .tup _ => "tuple"
  | .lst _ => "list"
  | .oth 0 => "list"
  | .oth _ => "dict"
theorem ty_of_kind {K : PySem.W.Frag} {a : Addr} {o : HO} {k : Nat} (h : H a = some o) (e : kindOf o = k) (z : k = 0 ∨ k = 1) : TyX K H (.ref a) (.type (Any.oth k).ty) := by
  rcases z with rfl | rfl
  · cases o with
    | lst xs => exact .base (.lst h)
    | frz o x => cases x with
      | lst xs => exact .base (.frz h)
      | _ => cases e
    | _ => cases e
  · cases o with
    | dK xs => exact .base (.dK h)
    | frz o x => cases x with
      | dK xs => exact .fDict h
      | _ => cases e
    | _ => cases e
theorem ty_any {v : V} {x : Any} (h : Im.im G H v x) : TyX G.K H v (.type x.ty) := by
  cases x with
  | str s => rw [any_str] at h; subst h; exact .base (.str s)
  | int s => rw [any_int] at h; subst h; exact .base (.int s)
  | bl s => rw [any_bl] at h; subst h; exact .base (.bl s)
  | non => rw [any_non] at h; subst h; exact .base .non
  | tup xs => rw [any_tup] at h; obtain ⟨a, vs, rfl, g, _⟩ := h; exact .base (.tup g)
  | lst xs => rw [any_lsts] at h; obtain ⟨a, vs, rfl, ⟨o, g⟩, _⟩ := h; exact .base (.frz g)
  | oth k => rw [any_oth] at h; obtain ⟨a, o, rfl, g, q, z⟩ := h; exact ty_of_kind g q z
/-- isinstance of a plain type -/
def Any.is (x : Any) (t : String) : Bool := x.ty == t || (x.ty == "bool" && t == "int")
theorem any_kit (x : Any) (t : String) (ht : t ∈ ["str", "int", "bool", "tuple", "list", "dict"]) : kitB x.ty t = some (x.is t) := by
  have : ∀ u, u ∈ ["str", "int", "bool", "tuple", "list", "dict", "NoneType"] → ∀ t, t ∈ ["str", "int", "bool", "tuple", "list", "dict"] → kitB u t = some (u == t || (u == "bool" && t == "int")) := by decide +kernel
  refine this _ ?_ t ht
  unfold Any.ty
  split <;> decide
theorem ev_isAny {σ : St} {ta tb : TE} {v : V} {x : Any} {t : String} (ha : Ev ta σ H v) (hb : Ev tb σ H (.ty t)) (h : Im.im G H v x) (ht : t ∈ ["str", "int", "bool", "tuple", "list", "dict"]) : Ev (tCB (rIsi G.K) (tCons ta (tCons tb tNil))) σ H (.bl (x.is t)) :=
  ev_isi ha hb (ty_any h) (any_kit x t ht)
end Ml
namespace Ml
open PySem L2
variable {G : Gx} {H : Hp} {L : List (Asn G)} {ρ : Type} {q : ρ → Prop} {e : Exc → Prop} {Q : VK} {σ : St}
def Any.asStr : Any → R Str
  | .str s => .ok s
  | _ => .bad
theorem wp_asStr {x : Any} {f : Str → R ρ} (h : R.wp (x.asStr.bind f) q e) : ∃ s, x = .str s ∧ R.wp (f s) q e := by
  cases x with
  | str s => exact ⟨s, rfl, h⟩
  | _ => exact h.elim
theorem v_str {v : V} {x : Any} {s : Str} (h : Im.im G H v x) (e : x = .str s) : v = .str s := any_str.mp (e ▸ h)
end Ml
namespace Ml
open PySem L2
variable {G : Gx}
section
variable {α β γ δ ε : Type} [Lay α] [Lay β] [Lay γ] [Lay δ] [Lay ε]
instance layList : Lay (List α) := ⟨layAllB⟩
instance layT1 : Lay (T1 α) := ⟨fun x => Lay.lay x.a⟩
instance layT2 : Lay (α × β) := ⟨fun x => Lay.lay x.1 && Lay.lay x.2⟩
instance layT3 : Lay (T3 α β γ) := ⟨fun x => Lay.lay x.a && (Lay.lay x.b && Lay.lay x.c)⟩
instance layT4 : Lay (T4 α β γ δ) := ⟨fun x => Lay.lay x.a && (Lay.lay x.b && (Lay.lay x.c && Lay.lay x.d))⟩
instance layT5 : Lay (T5 α β γ δ ε) := ⟨fun x => Lay.lay x.a && (Lay.lay x.b && (Lay.lay x.c && (Lay.lay x.d && Lay.lay x.e)))⟩
end
section
variable {α β γ δ ε : Type} [Im G α] [DecidableEq α] [Lay α] [Pd G α] [Im G β] [DecidableEq β] [Lay β] [Pd G β] [Im G γ] [DecidableEq γ] [Lay γ] [Pd G γ] [Im G δ] [DecidableEq δ] [Lay δ] [Pd G δ] [Im G ε] [DecidableEq ε] [Lay ε] [Pd G ε]
instance pdList : Pd G (List α) where
  pd := fun xs => .list (xs.map (Pd.pd G))
  dep := Pd.dep G α + 1
  dp := fun {H v x} h => by
    obtain ⟨a, vs, rfl, ⟨o, g⟩, m⟩ := h
    exact .lst (.inl (.inr ⟨o, g⟩)) (dpAll m)
  lay_ok := fun x h => layAll (G := G) h
  dep_ok := fun x => Nat.succ_le_succ (depAll (G := G) x)
  eqv := fun x y => eqvAll_is x y
theorem canTup (ds : List PyData) : (PyData.tuple ds).canLay0 = PyData.canLayAll0 ds := rfl
theorem canCons (d : PyData) (ds : List PyData) : PyData.canLayAll0 (d :: ds) = (d.canLay0 && PyData.canLayAll0 ds) := rfl
theorem depTup (ds : List PyData) : (PyData.tuple ds).depth = PyData.depthAll ds + 1 := rfl
theorem depCons (d : PyData) (ds : List PyData) : PyData.depthAll (d :: ds) = max d.depth (PyData.depthAll ds) := rfl
theorem depNil : PyData.depthAll [] = 0 := rfl
theorem eqvTup (ds es : List PyData) : PyData.eqv (.tuple ds) (.tuple es) = PyData.eqvAll ds es := rfl
theorem eqvCons (d e : PyData) (ds es : List PyData) : PyData.eqvAll (d :: ds) (e :: es) = (PyData.eqv d e && PyData.eqvAll ds es) := rfl
theorem eqvNil : PyData.eqvAll [] [] = true := rfl
instance pdT1 : Pd G (T1 α) where
  pd := fun x => .tuple [Pd.pd G x.a]
  dep := Pd.dep G α + 1
  dp := fun {H v x} h => by
    obtain ⟨a, u1, rfl, g, i1⟩ := h
    exact .tup (SqT.of g) (.cons (Pd.dp i1) .nil)
  lay_ok := fun x h => by rw [canTup, canCons, Pd.lay_ok x.a h]; rfl
  dep_ok := fun x => by
    rw [depTup, depCons, depNil]
    have := Pd.dep_ok (G := G) x.a
    omega
  eqv := fun x y => by
    rw [eqvTup, eqvCons, eqvNil, Pd.eqv]
    obtain ⟨a⟩ := x; obtain ⟨b⟩ := y
    simp
instance pdT2 : Pd G (α × β) where
  pd := fun x => .tuple [Pd.pd G x.1, Pd.pd G x.2]
  dep := max (Pd.dep G α) (Pd.dep G β) + 1
  dp := fun {H v x} h => by
    obtain ⟨a, u1, u2, rfl, g, i1, i2⟩ := h
    exact .tup (SqT.of g) (.cons (Pd.dp i1) (.cons (Pd.dp i2) .nil))
  lay_ok := fun x h => by
    have h : (Lay.lay x.1 && Lay.lay x.2) = true := h
    rw [Bool.and_eq_true] at h
    rw [canTup, canCons, canCons, Pd.lay_ok x.1 h.1, Pd.lay_ok x.2 h.2]; rfl
  dep_ok := fun x => by
    rw [depTup, depCons, depCons, depNil]
    have := Pd.dep_ok (G := G) x.1
    have := Pd.dep_ok (G := G) x.2
    omega
  eqv := fun x y => by
    rw [eqvTup, eqvCons, eqvCons, eqvNil, Pd.eqv, Pd.eqv]
    obtain ⟨a, b⟩ := x; obtain ⟨c, d⟩ := y
    simp
instance pdT3 : Pd G (T3 α β γ) where
  pd := fun x => .tuple [Pd.pd G x.a, Pd.pd G x.b, Pd.pd G x.c]
  dep := max (Pd.dep G α) (max (Pd.dep G β) (Pd.dep G γ)) + 1
  dp := fun {H v x} h => by
    obtain ⟨a, u1, u2, u3, rfl, g, i1, i2, i3⟩ := h
    exact .tup (SqT.of g) (.cons (Pd.dp i1) (.cons (Pd.dp i2) (.cons (Pd.dp i3) .nil)))
  lay_ok := fun x h => by
    have h : (Lay.lay x.a && (Lay.lay x.b && Lay.lay x.c)) = true := h
    simp only [Bool.and_eq_true] at h
    rw [canTup, canCons, canCons, canCons, Pd.lay_ok x.a h.1, Pd.lay_ok x.b h.2.1, Pd.lay_ok x.c h.2.2]; rfl
  dep_ok := fun x => by
    rw [depTup, depCons, depCons, depCons, depNil]
    have := Pd.dep_ok (G := G) x.a
    have := Pd.dep_ok (G := G) x.b
    have := Pd.dep_ok (G := G) x.c
    omega
  eqv := fun x y => by
    rw [eqvTup, eqvCons, eqvCons, eqvCons, eqvNil, Pd.eqv, Pd.eqv, Pd.eqv]
    obtain ⟨a, b, c⟩ := x; obtain ⟨d, e, f⟩ := y
    simp
instance pdT4 : Pd G (T4 α β γ δ) where
  pd := fun x => .tuple [Pd.pd G x.a, Pd.pd G x.b, Pd.pd G x.c, Pd.pd G x.d]
  dep := max (Pd.dep G α) (max (Pd.dep G β) (max (Pd.dep G γ) (Pd.dep G δ))) + 1
  dp := fun {H v x} h => by
    obtain ⟨a, u1, u2, u3, u4, rfl, g, i1, i2, i3, i4⟩ := h
    exact .tup (SqT.of g) (.cons (Pd.dp i1) (.cons (Pd.dp i2) (.cons (Pd.dp i3) (.cons (Pd.dp i4) .nil))))
  lay_ok := fun x h => by
    have h : (Lay.lay x.a && (Lay.lay x.b && (Lay.lay x.c && Lay.lay x.d))) = true := h
    simp only [Bool.and_eq_true] at h
    rw [canTup, canCons, canCons, canCons, canCons, Pd.lay_ok x.a h.1, Pd.lay_ok x.b h.2.1, Pd.lay_ok x.c h.2.2.1, Pd.lay_ok x.d h.2.2.2]; rfl
  dep_ok := fun x => by
    rw [depTup, depCons, depCons, depCons, depCons, depNil]
    have := Pd.dep_ok (G := G) x.a
    have := Pd.dep_ok (G := G) x.b
    have := Pd.dep_ok (G := G) x.c
    have := Pd.dep_ok (G := G) x.d
    omega
  eqv := fun x y => by
    rw [eqvTup, eqvCons, eqvCons, eqvCons, eqvCons, eqvNil, Pd.eqv, Pd.eqv, Pd.eqv, Pd.eqv]
    obtain ⟨a, b, c, d⟩ := x; obtain ⟨a', b', c', d'⟩ := y
    simp
instance pdT5 : Pd G (T5 α β γ δ ε) where
  pd := fun x => .tuple [Pd.pd G x.a, Pd.pd G x.b, Pd.pd G x.c, Pd.pd G x.d, Pd.pd G x.e]
  dep := max (Pd.dep G α) (max (Pd.dep G β) (max (Pd.dep G γ) (max (Pd.dep G δ) (Pd.dep G ε)))) + 1
  dp := fun {H v x} h => by
    obtain ⟨a, u1, u2, u3, u4, u5, rfl, g, i1, i2, i3, i4, i5⟩ := h
    exact .tup (SqT.of g) (.cons (Pd.dp i1) (.cons (Pd.dp i2) (.cons (Pd.dp i3) (.cons (Pd.dp i4) (.cons (Pd.dp i5) .nil)))))
  lay_ok := fun x h => by
    have h : (Lay.lay x.a && (Lay.lay x.b && (Lay.lay x.c && (Lay.lay x.d && Lay.lay x.e)))) = true := h
    simp only [Bool.and_eq_true] at h
    rw [canTup, canCons, canCons, canCons, canCons, canCons, Pd.lay_ok x.a h.1, Pd.lay_ok x.b h.2.1, Pd.lay_ok x.c h.2.2.1, Pd.lay_ok x.d h.2.2.2.1, Pd.lay_ok x.e h.2.2.2.2]; rfl
  dep_ok := fun x => by
    rw [depTup, depCons, depCons, depCons, depCons, depCons, depNil]
    have := Pd.dep_ok (G := G) x.a
    have := Pd.dep_ok (G := G) x.b
    have := Pd.dep_ok (G := G) x.c
    have := Pd.dep_ok (G := G) x.d
    have := Pd.dep_ok (G := G) x.e
    omega
  eqv := fun x y => by
    rw [eqvTup, eqvCons, eqvCons, eqvCons, eqvCons, eqvCons, eqvNil, Pd.eqv, Pd.eqv, Pd.eqv, Pd.eqv, Pd.eqv]
    obtain ⟨a, b, c, d, e⟩ := x; obtain ⟨a', b', c', d', e'⟩ := y
    simp
end
section
variable {α : Type} [Im G α] [DecidableEq α] [Lay α] [Pd G α] {H : Hp} {L : List (Asn G)} {σ : St} {ta tb : TE} {Q : VK} {v w : V} {x y : α}
theorem shapedP (h : Lay.lay x = true) (d : Pd.dep G α ≤ 64) : SeqAt.shaped (Pd.pd G x) = true := by
  unfold SeqAt.shaped
  rw [Pd.lay_ok x h, decide_eq_true (Nat.le_trans (Pd.dep_ok x) d)]; rfl
/-- the data of a list that one owns -/
theorem dpOwn {i : Nat} {a : Addr} {xs : List α} (hS : Sep H L) (e : L[i]? = some (lstA a xs)) : Dp G.K H (.ref a) (Pd.pd G xs) := by
  obtain ⟨vs, s, m⟩ := hS.sq e
  exact .lst s (dpAll m)
theorem ev_eqP (ha : Ev ta σ H v) (hb : Ev tb σ H w) (d1 : Dp G.K H v (Pd.pd G x)) (d2 : Dp G.K H w (Pd.pd G y)) (l1 : Lay.lay x = true) (l2 : Lay.lay y = true) (d : Pd.dep G α ≤ 64) :
    Ev (tOp (rEqD G.K) ta tb) σ H (.bl (decide (x = y))) := ev_op ha hb fun Q q => by
  refine ⟨_, _, d1, d2, shapedP l1 d, shapedP l2 d, ?_⟩
  rw [Pd.eqv]; exact q
theorem ev_neP (ha : Ev ta σ H v) (hb : Ev tb σ H w) (d1 : Dp G.K H v (Pd.pd G x)) (d2 : Dp G.K H w (Pd.pd G y)) (l1 : Lay.lay x = true) (l2 : Lay.lay y = true) (d : Pd.dep G α ≤ 64) :
    Ev (tOp (rNeD G.K) ta tb) σ H (.bl (!decide (x = y))) := ev_op ha hb fun Q q => by
  refine ⟨_, _, d1, d2, shapedP l1 d, shapedP l2 d, ?_⟩
  rw [Pd.eqv]; exact q
end
mutual
def pdA : Any → PyData
  | .str s => .str s
  | .int i => .int i
  | .bl b => .bool b
  | .non => .none
  | .tup xs => .tuple (pdAL xs)
  | .lst xs => .list (pdAL xs)
  | .oth _ => .none
def pdAL : List Any → List PyData
  | [] => []
  | x :: xs => pdA x :: pdAL xs
end
mutual
def plA : Any → Bool
  | .tup xs => plAL xs
  | .lst xs => plAL xs
  | .oth _ => false
  | _ => true
def plAL : List Any → Bool
  | [] => true
  | x :: xs => plA x && plAL xs
end
section
variable {H : Hp}
mutual
theorem dpA : ∀ {v : V} {x : Any}, imAny H v x → plA x = true → Dp G.K H v (pdA x)
  | v, .str s, h, _ => by rw [imAny] at h; subst h; rw [pdA]; exact .str s
  | v, .int s, h, _ => by rw [imAny] at h; subst h; rw [pdA]; exact .int s
  | v, .bl s, h, _ => by rw [imAny] at h; subst h; rw [pdA]; exact .bl s
  | v, .non, h, _ => by rw [imAny] at h; subst h; rw [pdA]; exact .non
  | v, .tup xs, h, l => by
    rw [imAny] at h; rw [plA] at l; rw [pdA]
    obtain ⟨a, vs, rfl, g, m⟩ := h
    exact .tup (SqT.of g) (dpAL m l)
  | v, .lst xs, h, l => by
    rw [imAny] at h; rw [plA] at l; rw [pdA]
    obtain ⟨a, vs, rfl, ⟨o, g⟩, m⟩ := h
    exact .lst (.inl (.inr ⟨o, g⟩)) (dpAL m l)
  | v, .oth k, h, l => by rw [plA] at l; cases l
theorem dpAL : ∀ {vs : List V} {xs : List Any}, imAnyL H vs xs → plAL xs = true → DpAll G.K H vs (pdAL xs)
  | [], [], h, _ => by rw [pdAL]; exact .nil
  | v :: vs, x :: xs, h, l => by
    rw [imAnyL] at h; rw [plAL, Bool.and_eq_true] at l; rw [pdAL]
    exact .cons (dpA h.1 l.1) (dpAL h.2 l.2)
  | [], _ :: _, h, _ => by rw [imAnyL] at h; exact h.elim; all_goals simp
  | _ :: _, [], h, _ => by rw [imAnyL] at h; exact h.elim; all_goals simp
end
end
/-- x == y of things of any sort -/
def eqA (x y : Any) : R Bool := R.need (plA x = true ∧ plA y = true ∧ SeqAt.shaped (pdA x) = true ∧ SeqAt.shaped (pdA y) = true) (.ok (PyData.eqv (pdA x) (pdA y)))
section
variable {H : Hp} {σ : St} {ta tb : TE} {Q : VK} {v w : V} {x y : Any} {ρ : Type} {q : ρ → Prop} {e : Exc → Prop}
theorem wp_eqA {f : Bool → R ρ} (h : R.wp ((eqA x y).bind f) q e) : ∃ b, (plA x = true ∧ plA y = true ∧ SeqAt.shaped (pdA x) = true ∧ SeqAt.shaped (pdA y) = true ∧ b = PyData.eqv (pdA x) (pdA y)) ∧ R.wp (f b) q e := by
  unfold eqA R.need at h
  by_cases c : plA x = true ∧ plA y = true ∧ SeqAt.shaped (pdA x) = true ∧ SeqAt.shaped (pdA y) = true
  · rw [if_pos c] at h; exact ⟨_, ⟨c.1, c.2.1, c.2.2.1, c.2.2.2, rfl⟩, h⟩
  · rw [if_neg c] at h; exact h.elim
theorem ev_eqA {b : Bool} (ha : Ev ta σ H v) (hb : Ev tb σ H w) (i1 : Im.im G H v x) (i2 : Im.im G H w y) (h : plA x = true ∧ plA y = true ∧ SeqAt.shaped (pdA x) = true ∧ SeqAt.shaped (pdA y) = true ∧ b = PyData.eqv (pdA x) (pdA y)) :
    Ev (tOp (rEqD G.K) ta tb) σ H (.bl b) := ev_op ha hb fun Q q => by
  obtain ⟨h1, h2, h3, h4, rfl⟩ := h
  exact ⟨_, _, dpA i1 h1, dpA i2 h2, h3, h4, q⟩
end
end Ml
namespace L2
open PySem PySem.Spec PyProof.Rows
/-- list + list, either may be locked -/
def rCatR : R2 := fun x y H Q => ∃ l b xs zs, x = .ref l ∧ y = .ref b ∧ Rd H l (.lst xs) ∧ Rd H b (.lst zs) ∧ xs.length + zs.length ≤ sizeLine ∧ ∀ p, H p = none → Q (.ref p) (upd H p (.lst (xs ++ zs)))
theorem op_catR {X : Cx} : OpR X (binaryOp .Add) rCatR := by
  intro pins s σ H x y v u Q I rx ry h
  obtain ⟨l, b, xs, zs, rfl, rfl, hH, hB, hz, q⟩ := h
  cases rx
  cases ry
  obtain ⟨z, its, n, r, e⟩ := hH.ok I.hok
  obtain ⟨z2, its2, n2, r2, e2⟩ := hB.ok I.hok
  have hl := r.length
  have hl2 := r2.length
  refine PySem.P.add_list e e2 ?_ (by rw [List.size_toArray, List.size_toArray]; omega)
  have ea : its.toArray ++ its2.toArray = (its ++ its2).toArray := by simp
  rw [ea]
  exact ⟨.ref _, _, I.lnew (t' := s.toks) (r.append r2) (by rw [List.length_append]; omega), rfl, q _ I.fresh⟩
end L2
namespace Ml
open PySem L2
namespace R
variable {α β ρ : Type} {q : α → Prop} {e : Exc → Prop}
def noexc : R α → R α
  | .ok a => .ok a
  | _ => .bad
theorem wp_noexc {m : R α} {f : α → R β} {q : β → Prop} (h : wp ((noexc m).bind f) q e) : wp m (fun a => wp (f a) q e) (fun _ => False) := by
  cases m with
  | ok a => exact h
  | exc x => exact h.elim
  | bad => exact h.elim
def tryC : R α → (α → R β) → (Exc → R β) → R β
  | .ok a, k, _ => k a
  | .exc x, _, h => h x
  | .bad, _, _ => .bad
theorem wp_tryC {m : R α} {k : α → R β} {h : Exc → R β} {q : β → Prop} (w : wp (tryC m k h) q e) : wp m (fun a => wp (k a) q e) (fun x => wp (h x) q e) := by
  cases m <;> exact w
end R
/-- an except clause: known classes, those that it takes -/
def catchR {β : Type} (all subs : List Nat) (x : Exc) (a b : R β) : R β := if all.contains x.cls then (if subs.contains x.cls then a else b) else .bad
def contF {σ ρ β : Type} (k : σ → R β) (o : ρ → R β) : Fl σ ρ → R β
  | .go s => k s
  | .brk s => k s
  | .out r => o r
/-- an exception as it is wished for -/
def Eok (G : Gx) (x : Exc) (E : XK) (H : Hp) : Prop := E (.ref (G.cl x.cls)) none H
variable {G : Gx}
section
variable {σ σ' : St} {H : Hp} {L L' : List (Asn G)} {D : Ends} {Q : VK} {te ta tb : TE} {α β τ ρ : Type} {v w : V} {q : ρ → Prop} {e : Exc → Prop}
theorem k_catG [Im G α] {a b : Addr} {xs ys : List α} (hS : Sep H L) (h1 : ∃ vs, Rd H a (.lst vs) ∧ imL (G := G) H vs xs) (h2 : ∃ vs, Rd H b (.lst vs) ∧ imL (G := G) H vs ys) (z : xs.length + ys.length ≤ sizeLine)
    (k : ∀ p H', Sep H' (lstA p (xs ++ ys) :: L) → Q (.ref p) H') : rCatR (.ref a) (.ref b) H Q := by
  obtain ⟨vs, r1, m1⟩ := h1
  obtain ⟨ws, r2, m2⟩ := h2
  exact ⟨a, b, vs, ws, rfl, rfl, r1, r2, by rw [m1.len, m2.len]; exact z, fun p hp => k p _ (hS.newL hp (m1.app m2))⟩
theorem k_listG [Im G α] {a : Addr} {xs : List α} (hS : Sep H L) (h : ∃ vs, SqL G.K H a vs ∧ imL (G := G) H vs xs) (k : ∀ p H', Sep H' (lstA p xs :: L) → Q (.ref p) H') : rListSq G.K [.ref a] H Q := by
  obtain ⟨vs, h, m⟩ := h
  exact ⟨a, vs, rfl, .inl h, fun p hp => k p _ (hS.newL hp m)⟩
theorem k_ilG [Im G α] {a : Addr} {xs : List α} {R : It → Hp → Prop} (h : ∃ vs, SqL G.K H a vs ∧ imL (G := G) H vs xs) (k : R (Itl G.K a) H) : ilK G.K R (.ref a) H := by
  obtain ⟨vs, s, _⟩ := h
  exact ⟨a, rfl, ⟨vs, s⟩, k⟩
theorem k_lenG [Im G α] {a : Addr} {xs : List α} (h : ∃ vs, SqL G.K H a vs ∧ imL (G := G) H vs xs) (q : Q (.int xs.length) H) : rLenSq G.K [.ref a] H Q := by
  obtain ⟨vs, s, m⟩ := h
  exact ⟨a, vs, rfl, .inl s, by rw [m.len]; exact q⟩
theorem k_lstRaw {vs : List V} (hS : Sep H L) (z : vs.length ≤ sizeLine) (k : ∀ p H', Sep H' (cell p (.lst vs) :: L) → Q (.ref p) H') : lstK Q vs H := ⟨z, fun p hp => k p _ (hS.new hp rfl)⟩
/-- the rule on values alone -/
theorem ev_op2 {r : R2} {x y : V} (h : Ev (tOp r (tC x) (tC y)) [] H v) (q : Q v H) : r x y H Q := h Q q
theorem imL_strs : ∀ (ys : List Str), imL (G := G) H (ys.map V.str) ys
  | [] => True.intro
  | y :: ys => ⟨rfl, imL_strs ys⟩
section
variable {acc y : Str} {ts : List TE} {te : TE} {P : Str → Hp → Prop}
theorem f_fc (h : Ev te σ H (.str y)) (z : (acc ++ y).length ≤ sizeLine) (k : tJs ts (acc ++ y) σ H P) : tJs (te :: ts) acc σ H P := h _ ⟨y, rfl, z, k⟩
theorem f_fs (h : Ev te σ H (.str y)) (l : y.length ≤ sizeLine) (z : (acc ++ y).length ≤ sizeLine) (k : tJs ts (acc ++ y) σ H P) : tJs (tFmt te :: ts) acc σ H P := h _ (.inl ⟨y, rfl, l, y, rfl, z, k⟩)
theorem f_je (k : P acc H) : tJs [] acc σ H P := k
end
theorem imL.erase [Im G α] : ∀ {vs : List V} {xs : List α} (n : Nat), imL (G := G) H vs xs → imL (G := G) H (vs.eraseIdx n) (xs.eraseIdx n)
  | [], [], n, _ => by simp [imL]
  | v :: vs, x :: xs, 0, h => h.2
  | v :: vs, x :: xs, n + 1, h => ⟨h.1, imL.erase n h.2⟩
  | [], _ :: _, _, h => h.elim
  | _ :: _, [], _, h => h.elim
theorem Sep.newI {C x dx : Addr} (h : Sep H L) (hx : H x = none) (hd : H dx = none) (ne : dx ≠ x) (n : ¬ G.fz C = some 0) : Sep (upd (upd H dx (.own x)) x (.ins C dx [])) (cell x (.ins C dx []) :: L) := by
  have h1 := h.more (same_new (o := HO.own x) hd)
  refine h1.new (o := .ins C dx []) (by rw [upd_ne (Ne.symm ne)]; exact hx) ?_
  show decide (G.fz C = some 0) = false
  exact decide_eq_false n
theorem c_sfld {K : PySem.W.Frag} {f : Str} (h : tb σ H fun y H1 => ta σ H1 fun x H2 => ∃ a C dx fs, x = .ref a ∧ H2 a = some (.ins C dx fs) ∧ Cls K C ∧ NoAttr K C f ∧ fs.length < 1000 ∧ D.nx σ (upd H2 a (.ins C dx (putF f y fs)))) : sFld K ta tb f D σ H := h
theorem k_sfld {K : PySem.W.Frag} {i : Nat} {a C dx : Addr} {fs fs' : List (Str × V)} {f : Str} {y : V} (hS : Sep H L) (e : L[i]? = some (cell a (.ins C dx fs))) (c : Cls K C) (n : NoAttr K C f) (ef : putF f y fs = fs') (hl : fs.length < 1000)
    (np : per G (.ins C dx fs') = false) (eL : L.set i (cell a (.ins C dx fs')) = L') (k : ∀ H', Sep H' L' → D.nx σ H') :
    ∃ a' C' dx' fs'', V.ref a = .ref a' ∧ H a' = some (.ins C' dx' fs'') ∧ Cls K C' ∧ NoAttr K C' f ∧ fs''.length < 1000 ∧ D.nx σ (upd H a' (.ins C' dx' (putF f y fs''))) := by
  refine ⟨a, C, dx, fs, rfl, hS.getCell e, c, n, hl, ?_⟩
  rw [ef]
  refine k _ ?_
  subst eL
  exact hS.put e np rfl
theorem c_callSD {sp : Sp} {dvs : List V} {E : St → XK} {t : TA} (h : t σ H fun vs H1 => sp (vs ++ dvs) H1 Q (E σ)) : tCallSD sp dvs E t σ H Q := h
theorem c_meth {C : Addr} {m : Str} {sp : Sp} {dvs : List V} {E : XK} {t : TA} (h : ta σ H fun x H1 => ∃ a dx fs, x = .ref a ∧ H1 a = some (.ins C dx fs) ∧ fs.lookup m = none ∧ t σ H1 fun vs H2 => sp (x :: (vs ++ dvs)) H2 Q E) : tMeth C m sp dvs E ta t σ H Q := h
theorem c_make {C : Addr} {sp : Sp} {dvs : List V} {E : XK} {t : TA} (h : t σ H fun vs H1 => ∀ x dx, H1 x = none → H1 dx = none → dx ≠ x → sp (.ref x :: (vs ++ dvs)) (upd (upd H1 dx (.own x)) x (.ins C dx [])) (fun v H2 => v = .non ∧ Q (.ref x) H2) E) : tMake C sp dvs E t σ H Q := h
theorem c_retN (h : D.rt .non H) : tRetN D σ H := h
theorem k_forF {J : It} {g : TG} {tb : TS} {im : Hp → V → α → Prop} {xs : List α} {f : τ → α → R (Fl τ ρ)} {β : Type} {rest : τ → R β} {o : ρ → R β} {q : β → Prop} {e : Exc → Prop} {s : τ} (I : τ → L2.St → Hp → Prop)
    (w : ∀ s, Wk J (I s) im xs) (h0 : I s σ H) (hm : R.wp ((forF f xs s).bind (contF rest o)) q e)
    (turn : ∀ (s : τ) (x : α) (v : V) (σ : L2.St) (H : Hp) (q' : Fl τ ρ → Prop) (N B : L2.St → Hp → Prop), I s σ H → im H v x → R.wp (f s x) q' e → (∀ s' σ' H', q' (.go s') → I s' σ' H' → N σ' H') → (∀ s' σ' H', q' (.brk s') → I s' σ' H' → B σ' H') → (∀ r, q' (.out r) → R.wp (o r) q e) →
      g v σ H fun σ2 H2 => tb (loopD D N B) σ2 H2)
    (done : ∀ s σ H, R.wp (rest s) q e → I s σ H → D.nx σ H) : forK g tb D σ J H :=
  for_walkF (D := D) (I := I) (k := fun r => R.wp (contF rest o r) q e) w h0 (R.wp_bind hm) (fun s x v σ H q' N B hI hv hw h1 h2 h3 => turn s x v σ H q' N B hI hv hw h1 h2 h3) (fun s σ H h hI => done s σ H h hI)
end
end Ml
namespace L2
open PySem PySem.Spec PyProof.Rows
/-- isinstance(e, c), e a pinned exception -/
def rIsEB (K : PySem.W.Frag) (D a : Addr) : List V → Hp → VK → Prop := fun xs H Q => ∃ (c : V) (cv : Value) (b : Bool), xs = [.ref a, c] ∧ ClsV c cv ∧ PySem.W.kitOne K (.ref D) cv = some b ∧ Q (.bl b) H
theorem call_isP {X : Cx} (K : PySem.W.Frag) {D : Addr} {p : Addr × Obj} (hp : p ∈ X.pn) (C : ExcC K D) (hz : Zc (.ref D) none p.2) (hf : ∃ vs, p.2.data = .fields vs) (hK : X.K = K := by rfl) : CallR X (.builtin "isinstance") (rIsEB K D p.1) := by
  subst hK
  intro pins s σ H xs us Q I r h
  obtain ⟨c, cv, b, rfl, hcv, e, q⟩ := h
  cases r with
  | cons rx rr =>
    cases rr with
    | cons rt rr =>
      cases rr
      cases rx
      have ec := hcv.eq rt
      subst ec
      have hget := (I.pin p (List.mem_append_left _ hp)).1
      obtain ⟨vs, hv⟩ := hf
      have J : PySem.W.InstAt s.heap p.1 p.2 D none := by
        obtain ⟨pa, ⟨oc, od, oda, osl⟩⟩ := p
        obtain ⟨h1, h2⟩ := hz
        dsimp only at h1 h2 hv hget
        subst h1 h2 hv
        exact ⟨hget, rfl, rfl, trivial⟩
      exact PySem.W.kia_one (PySem.W.handS_kitx_exc C.hg C.hk C.hs C.hd C.ha C.hn C.ht C.hm) I.kIn J e (fun z => nomatch z) fun tk => ⟨.bl b, H, I.kept (t' := tk) fun _ _ z => z, rfl, q⟩
/-- xs.count(x), over data -/
def rCountD (K : PySem.W.Frag) : V → List V → Hp → VK → Prop := fun x xs H Q => ∃ (a : Addr) (y : V) (d : PyData) (ds : List PyData), x = V.ref a ∧ xs = [y] ∧ Dp K H (V.ref a) (.list ds) ∧ Dp K H y d ∧
  SeqAt.shaped (.list ds) = true ∧ SeqAt.shaped d = true ∧ Q (.int ((ds.countP fun y => PyData.eqv y d : Nat) : Int)) H
theorem mt_countD {X : Cx} (hu : X.A.units + 65 < cLine) : MtR X "list.count" (rCountD X.K) := by
  intro pins s σ H x xs v us Q I rx rxs h
  obtain ⟨a, y, d, ds, rfl, rfl, hl, hy, sl, sd, q⟩ := h
  cases rx
  cases rxs with
  | cons ry rt =>
    rename_i uy ut
    cases rt
    obtain ⟨bs, r1⟩ := Dp.reads I d y uy hy ry
    have hxs : PyData.canLayAll0 ds = true := SeqAt.canLay_of_shaped sl
    have hroom : X.A.units + 1 + min (PyData.depthAll ds) d.depth < cLine := room_in_shaped sd hu
    cases hl with
    | lst hs ha =>
      obtain ⟨its, rv, hL⟩ := I.list hs
      obtain ⟨as, h4⟩ := Dp.readsAll I ds _ its ha rv
      exact PySem.SeqAt.count_list_data hL.1.isList h4 r1 (PyData.plainAll_of_canLay0 _ hxs) (PyData.plain_of_canLay0 _ (SeqAt.canLay_of_shaped sd)) hroom ⟨.int ((ds.countP fun y => PyData.eqv y d : Nat) : Int), H, I.tok _, ⟨_, rfl⟩, q⟩
end L2
namespace Ml
open PySem PySem.Spec PyProof.Rows L2
variable {G : Gx}
theorem mt_countK {X : Cx} (K : PySem.W.Frag) (hu : X.A.units + 65 < cLine) (hK : X.K = K := by rfl) : MtR X "list.count" (rCountD K) := by subst hK; exact mt_countD hu
theorem huH {k : Nat} {A : Around} (r : L2H.RoomH k A) : A.units + 65 < cLine := by have := r.un; omega
theorem hotRoom {j k : Nat} {A : Around} {v : Option Value} (r : Room k A) (h : j ≤ k) : L2H.RoomH j (A.mark v) := ⟨(r.mono h).dp, (r.mono h).un⟩
section
variable {H : Hp} {σ σ' : L2.St} {D : Ends}
theorem w_asE {K : PySem.W.Frag} {c : Value} {i : Nat} {ts : Addr → Value → Option Addr → TS} {Wout : WX} {all subs : List Nat} {x : Exc} {β : Type} {A B : R β} {q : β → Prop} {e : Exc → Prop}
    (ex : all.contains x.cls = true → PySem.W.exmOne K (.ref (G.cl x.cls)) c = some (subs.contains x.cls)) (hm : R.wp (catchR all subs x A B) q e)
    (h1 : all.contains x.cls = true → R.wp A q e → ∀ a, H a = none → ts a (.ref (G.cl x.cls)) none { nx := fun σ' H' => D.nx (σ'.set i none) H', rt := D.rt, bk := fun σ' H' => D.bk (σ'.set i none) H', ct := fun σ' H' => D.ct (σ'.set i none) H' } (σ.set i (some (.ref a))) H)
    (h2 : R.wp B q e → Wout (.ref (G.cl x.cls)) none σ H) : Eok G x (WE (wAs K c i ts Wout D) σ) H := by
  unfold catchR at hm
  by_cases c1 : all.contains x.cls = true
  · rw [if_pos c1] at hm
    refine ⟨_, ex c1, fun z => ?_, fun z => ?_⟩
    · rw [if_pos z] at hm; exact h1 c1 hm
    · rw [z, if_neg Bool.false_ne_true] at hm; exact h2 hm
  · rw [if_neg c1] at hm; exact hm.elim
end
section
variable {α : Type} [Im G α] [DecidableEq α] [Lay α] [Pd G α] {H : Hp} {σ : L2.St} {Q : VK} {v w : V} {x y : α}
theorem countP_pd {xs : List α} {x : α} : (xs.map (Pd.pd G)).countP (fun y => PyData.eqv y (Pd.pd G x)) = xs.countP (fun y => decide (y = x)) := by
  rw [List.countP_map]
  congr 1
  funext y
  show PyData.eqv (Pd.pd G y) (Pd.pd G x) = _
  rw [Pd.eqv]
theorem k_count {a : Addr} {xs : List α} {x : α} (d1 : Dp G.K H (.ref a) (Pd.pd G xs)) (d2 : Dp G.K H w (Pd.pd G x)) (l1 : Lay.lay xs = true) (l2 : Lay.lay x = true) (d : Pd.dep G (List α) ≤ 64) (d0 : Pd.dep G α ≤ 64)
    (q : Q (.int ((xs.countP fun y => decide (y = x) : Nat) : Int)) H) : rCountD G.K (.ref a) [w] H Q :=
  ⟨a, w, _, _, rfl, rfl, d1, d2, shapedP (x := xs) l1 d, shapedP l2 d0, by rw [countP_pd]; exact q⟩
end
end Ml
namespace Ml
open PySem L2
section
variable {α β σ ρ : Type}
theorem forR_ok {f : σ → α → R σ} (I : List α → σ → Prop) : ∀ {xs : List α} {s : σ} (pre : List α), I pre s → (∀ p x q s, pre ++ xs = p ++ x :: q → I p s → ∃ s', f s x = .ok s' ∧ I (p ++ [x]) s') → ∃ s', forR f xs s = .ok s' ∧ I (pre ++ xs) s'
  | [], s, pre, h0, _ => ⟨s, rfl, by rw [List.append_nil]; exact h0⟩
  | x :: xs, s, pre, h0, hs => by
    obtain ⟨s1, e1, h1⟩ := hs pre x xs s rfl h0
    obtain ⟨s2, e2, h2⟩ := forR_ok I (xs := xs) (s := s1) (pre ++ [x]) h1 fun p y q s e => hs p y q s (by rw [← e]; simp)
    refine ⟨s2, ?_, by rw [List.append_assoc] at h2; exact h2⟩
    show (f s x).bind _ = _
    rw [e1, R.bind_ok]; exact e2
theorem forR_inv {f : σ → α → R σ} {xs : List α} {s : σ} (I : List α → σ → Prop) (h0 : I [] s) (hs : ∀ p x q s, xs = p ++ x :: q → I p s → ∃ s', f s x = .ok s' ∧ I (p ++ [x]) s') : ∃ s', forR f xs s = .ok s' ∧ I xs s' := by
  obtain ⟨s', h1, h2⟩ := forR_ok I (xs := xs) (s := s) [] h0 fun p x q s e => hs p x q s (by simpa using e)
  exact ⟨s', h1, by simpa using h2⟩
theorem forF_inv {f : σ → α → R (Fl σ ρ)} (I : List α → σ → Prop) : ∀ {xs : List α} {s : σ} (pre : List α), I pre s → (∀ p x q s, pre ++ xs = p ++ x :: q → I p s → ∃ s', f s x = .ok (.go s') ∧ I (p ++ [x]) s') → ∃ s', forF f xs s = .ok (.go s') ∧ I (pre ++ xs) s'
  | [], s, pre, h0, _ => ⟨s, rfl, by rw [List.append_nil]; exact h0⟩
  | x :: xs, s, pre, h0, hs => by
    obtain ⟨s1, e1, h1⟩ := hs pre x xs s rfl h0
    obtain ⟨s2, e2, h2⟩ := forF_inv I (xs := xs) (s := s1) (pre ++ [x]) h1 fun p y q s e => hs p y q s (by rw [← e]; simp)
    refine ⟨s2, ?_, by rw [List.append_assoc] at h2; exact h2⟩
    show (f s x).bind _ = _
    rw [e1, R.bind_ok]; exact e2
/-- the loop goes on to its end -/
theorem forF_keep {f : σ → α → R (Fl σ ρ)} {xs : List α} {s : σ} (I : σ → Prop) (h0 : I s) (hs : ∀ x s, x ∈ xs → I s → ∃ s', f s x = .ok (.go s') ∧ I s') : ∃ s', forF f xs s = .ok (.go s') ∧ I s' := by
  obtain ⟨s', h1, h2⟩ := forF_inv (fun _ s => I s) (xs := xs) (s := s) [] h0 fun p x q s e h => hs x s (by rw [List.nil_append] at e; rw [e]; simp) h
  exact ⟨s', h1, h2⟩
theorem compR_map {f : Unit → α → R (Unit × Option β)} {g : α → β} {xs : List α} (h : ∀ x, x ∈ xs → f () x = .ok ((), some (g x))) : compR f xs () = .ok ((), xs.map g) := by
  induction xs with
  | nil => rfl
  | cons x xs ih =>
    show (f () x).bind _ = _
    rw [h x (by simp), R.bind_ok, ih fun y hy => h y (by simp [hy])]
    rfl
theorem compR_filterMap {f : Unit → α → R (Unit × Option β)} {g : α → Option β} {xs : List α} (h : ∀ x, x ∈ xs → f () x = .ok ((), g x)) : compR f xs () = .ok ((), xs.filterMap g) := by
  induction xs with
  | nil => rfl
  | cons x xs ih =>
    show (f () x).bind _ = _
    rw [h x (by simp), R.bind_ok, ih fun y hy => h y (by simp [hy])]
    cases e : g x with
    | none => simp [e]
    | some y => simp [e]
theorem compR_all {f : Unit → α → R (Unit × Option β)} {xs : List α} (P : β → Prop) (h : ∀ x, x ∈ xs → ∃ y, f () x = .ok ((), some y) ∧ P y) : ∃ ys, compR f xs () = .ok ((), ys) ∧ ys.length = xs.length ∧ ∀ y, y ∈ ys → P y := by
  induction xs with
  | nil => exact ⟨[], rfl, rfl, by simp⟩
  | cons x xs ih =>
    obtain ⟨y, e, p⟩ := h x (by simp)
    obtain ⟨ys, e2, l, q⟩ := ih fun z hz => h z (by simp [hz])
    refine ⟨y :: ys, ?_, by simp [l], fun z hz => ?_⟩
    · show (f () x).bind _ = _
      rw [e, R.bind_ok, e2]; rfl
    · rcases List.mem_cons.mp hz with rfl | hz
      · exact p
      · exact q z hz
theorem idxR_mem {xs : List α} {i : Int} (h0 : 0 ≤ i) (h1 : i < xs.length) : ∃ x, idxR xs i = .ok x ∧ x ∈ xs ∧ xs[i.toNat]? = some x := by
  obtain ⟨x, h, _⟩ := atI_ok h0 h1
  exact ⟨x, idxR_ok h0 h, List.mem_of_getElem? h, h⟩
theorem rngL_mem {lo x : Int} {n : Nat} (h : x ∈ rngL lo n) : lo ≤ x ∧ x < lo + n := by
  unfold rngL at h
  obtain ⟨i, hi, rfl⟩ := List.mem_map.mp h
  have := List.mem_range.mp hi
  omega
end
theorem len_app (a b : Str) : (a ++ b).length = a.length + b.length := by
  show (a.cps ++ b.cps).size = a.cps.size + b.cps.size
  rw [Array.size_append]
theorem tl_app (a b : Str) : (a ++ b).cps.toList = a.cps.toList ++ b.cps.toList := by
  show (a.cps ++ b.cps).toList = _
  rw [Array.toList_append]
theorem len_tl (x : Str) : x.length = x.cps.toList.length := by simp [Str.length]
theorem str_ext {x y : Str} (h : x.cps.toList = y.cps.toList) : x = y := Str.ext' (Array.toList_inj.mp h)
/-- all signs below 128 -/
def Asc (x : Str) : Prop := ∀ c, c ∈ x.cps.toList → c < 128
theorem Asc.app {a b : Str} (ha : Asc a) (hb : Asc b) : Asc (a ++ b) := fun c hc => by
  rw [tl_app] at hc
  rcases List.mem_append.mp hc with h | h
  · exact ha c h
  · exact hb c h
theorem Asc.lit {x : Str} (h : x.cps.toList.all (· < 128) = true) : Asc x := fun c hc => by
  have := List.all_eq_true.mp h c hc
  simpa using this
theorem Asc.lay {x : Str} (h : Asc x) : (Lay.lay x : Bool) = true := by
  show PyData.strOk x = true
  unfold PyData.strOk
  rw [← Array.all_toList]
  exact List.all_eq_true.mpr fun c hc => decide_eq_true (Nat.lt_trans (h c hc) (by decide))
theorem len_sg (c : Nat) : (sg c).length = 1 := rfl
end Ml
namespace Ml
open PySem L2
def Ok {α : Type} (m : R α) (P : α → Prop) : Prop := ∃ a, m = .ok a ∧ P a
namespace Ok
variable {α β σ ρ : Type} {P : ρ → Prop}
theorem ret {a : ρ} (h : P a) : Ok (.ok a) P := ⟨a, rfl, h⟩
theorem bind {m : R α} {f : α → R ρ} {Q : α → Prop} (h : Ok m Q) (k : ∀ a, Q a → Ok (f a) P) : Ok (m.bind f) P := by
  obtain ⟨a, e, q⟩ := h
  rw [e, R.bind_ok]; exact k a q
theorem bindE {m : R α} {f : α → R ρ} {a : α} (h : m = .ok a) (k : Ok (f a) P) : Ok (m.bind f) P := by
  rw [h, R.bind_ok]; exact k
theorem lets {a : α} {f : α → R ρ} (k : Ok (f a) P) : Ok ((R.ok a).bind f) P := k
theorem name {a : α} {f : α → R ρ} (k : ∀ y, y = a → Ok (f y) P) : Ok ((R.ok a).bind f) P := k a rfl
theorem need {p : Prop} [Decidable p] {m : R ρ} (h : p) (k : Ok m P) : Ok (R.need p m) P := by rw [R.need_pos h]; exact k
theorem ite {c : Prop} [Decidable c] {a b : R ρ} (h1 : c → Ok a P) (h2 : ¬ c → Ok b P) : Ok (if c then a else b) P := by
  by_cases h : c
  · rw [if_pos h]; exact h1 h
  · rw [if_neg h]; exact h2 h
theorem ifT {c : Prop} [Decidable c] {a b : R ρ} (h : c) (k : Ok a P) : Ok (if c then a else b) P := by rw [if_pos h]; exact k
theorem ifF {c : Prop} [Decidable c] {a b : R ρ} (h : ¬ c) (k : Ok b P) : Ok (if c then a else b) P := by rw [if_neg h]; exact k
theorem mono {Q : ρ → Prop} {m : R ρ} (h : Ok m Q) (k : ∀ a, Q a → P a) : Ok m P := by
  obtain ⟨a, e, q⟩ := h
  exact ⟨a, e, k a q⟩
theorem eq {m : R ρ} {v : ρ} (h : Ok m (· = v)) : m = .ok v := by
  obtain ⟨a, e, q⟩ := h
  rw [e, q]
theorem idx {xs : List α} {i : Int} {f : α → R ρ} (h0 : 0 ≤ i) (h1 : i < xs.length) (k : ∀ x, x ∈ xs → xs[i.toNat]? = some x → Ok (f x) P) : Ok ((idxR xs i).bind f) P := by
  obtain ⟨x, e, m, g⟩ := idxR_mem h0 h1
  rw [e, R.bind_ok]; exact k x m g
theorem forI {f : σ → α → R σ} {xs : List α} {s : σ} {rest : σ → R ρ} (I : List α → σ → Prop) (h0 : I [] s) (hs : ∀ p x q s, xs = p ++ x :: q → I p s → Ok (f s x) (I (p ++ [x]))) (k : ∀ s, I xs s → Ok (rest s) P) : Ok ((forR f xs s).bind rest) P :=
  bind (forR_inv I h0 hs) k
theorem forFK {τ : Type} {f : σ → α → R (Fl σ τ)} {xs : List α} {s : σ} {rest : Fl σ τ → R ρ} (I : σ → Prop) (h0 : I s) (hs : ∀ x s, x ∈ xs → I s → Ok (f s x) (fun r => ∃ s', r = .go s' ∧ I s')) (k : ∀ s, I s → Ok (rest (.go s)) P) : Ok ((forF f xs s).bind rest) P := by
  obtain ⟨s', e, h⟩ := forF_keep (f := f) (xs := xs) I h0 fun x s hx hI => by
    obtain ⟨r, e, s', rfl, h⟩ := hs x s hx hI
    exact ⟨s', e, h⟩
  exact bindE e (k s' h)
theorem forFI {τ : Type} {f : σ → α → R (Fl σ τ)} {xs : List α} {s : σ} {rest : Fl σ τ → R ρ} (I : List α → σ → Prop) (h0 : I [] s) (hs : ∀ p x q s, xs = p ++ x :: q → I p s → Ok (f s x) (fun r => ∃ s', r = .go s' ∧ I (p ++ [x]) s')) (k : ∀ s, I xs s → Ok (rest (.go s)) P) : Ok ((forF f xs s).bind rest) P := by
  obtain ⟨s', e, h⟩ := forF_inv (f := f) (xs := xs) I [] h0 fun p x q s hx hI => by
    obtain ⟨r, e, s', rfl, h⟩ := hs p x q s (by simpa using hx) hI
    exact ⟨s', e, h⟩
  exact bindE e (k s' (by simpa using h))
/-- a comprehension whose items all have Q -/
theorem comp {f : Unit → α → R (Unit × Option β)} {xs : List α} {rest : Unit × List β → R ρ} (Q : β → Prop) (h : ∀ x, x ∈ xs → Ok (f () x) (fun r => ∃ y, r.2 = some y ∧ Q y)) (k : ∀ ys, ys.length = xs.length → (∀ y, y ∈ ys → Q y) → Ok (rest ((), ys)) P) : Ok ((compR f xs ()).bind rest) P := by
  obtain ⟨ys, e, l, q⟩ := compR_all (f := f) (xs := xs) Q fun x hx => by
    obtain ⟨r, e, y, e2, hy⟩ := h x hx
    exact ⟨y, by rw [e, ← e2], hy⟩
  exact bindE e (k ys l q)
/-- .. whose items are told -/
theorem compM {f : Unit → α → R (Unit × Option β)} {xs : List α} {rest : Unit × List β → R ρ} (g : α → β) (h : ∀ x, x ∈ xs → Ok (f () x) (fun r => r.2 = some (g x))) (k : Ok (rest ((), xs.map g)) P) : Ok ((compR f xs ()).bind rest) P := by
  refine bindE (compR_map (g := g) fun x hx => ?_) k
  obtain ⟨r, e, e2⟩ := h x hx
  rw [e, ← e2]
theorem compF {f : Unit → α → R (Unit × Option β)} {xs : List α} {rest : Unit × List β → R ρ} (g : α → Option β) (h : ∀ x, x ∈ xs → Ok (f () x) (fun r => r.2 = g x)) (k : Ok (rest ((), xs.filterMap g)) P) : Ok ((compR f xs ()).bind rest) P := by
  refine bindE (compR_filterMap (g := g) fun x hx => ?_) k
  obtain ⟨r, e, e2⟩ := h x hx
  rw [e, ← e2]
end Ok
theorem pre_lt {α : Type} {xs p q : List α} {x : α} (e : xs = p ++ x :: q) : p.length < xs.length := by
  rw [e, List.length_append, List.length_cons]; omega
theorem lt_line {n m : Nat} (h : n ≤ m) (hm : m < 16777216) : n < sizeLine := Nat.lt_of_le_of_lt h hm
theorem le_line {n : Nat} (h : n ≤ 16777216) : n ≤ sizeLine := h
end Ml
namespace Ml
open PySem PySem.Spec PyProof.Rows L2
variable {G : Gx}
/-- a text, n times -/
def repS (a : Str) (n : Nat) : Str := ⟨(List.replicate n a.cps).foldl (· ++ ·) #[]⟩
theorem rep_tl (a : Str) (n : Nat) : (repS a n).cps.toList = (List.replicate n a.cps.toList).flatten := by
  have g : ∀ (n : Nat) (z : Array Nat), ((List.replicate n a.cps).foldl (· ++ ·) z).toList = z.toList ++ (List.replicate n a.cps.toList).flatten := by
    intro n
    induction n with
    | zero => intro z; simp
    | succ n ih => intro z; simp [List.replicate_succ, ih]
  show ((List.replicate n a.cps).foldl (· ++ ·) #[]).toList = _
  rw [g]; simp
theorem rep_len (a : Str) (n : Nat) : (repS a n).length = a.length * n := by
  rw [len_tl, rep_tl, len_tl]; simp [Nat.mul_comm]
def rRepS : R2 := fun x y H Q => ∃ (a : Str) (n : Int), x = .str a ∧ y = .int n ∧ -(2 ^ 62) ≤ n ∧ a.length * n.toNat ≤ sizeLine ∧ n < 2 ^ 62 ∧ Q (.str (repS a n.toNat)) H
theorem op_repS {X : Cx} : OpR X (binaryOp .Mult) rRepS := by
  intro pins s σ H x y v u Q I rx ry h
  obtain ⟨a, n, rfl, rfl, h1, h2, h3, q⟩ := h
  obtain ⟨t, rfl⟩ := rx
  obtain ⟨t2, rfl⟩ := ry
  refine PySem.P.mul_str (by rw [decide_eq_false (by omega), decide_eq_false (by omega)]; rfl) (fun z1 z2 => ?_) (fun z1 z2 => ?_) ?_
  · have hn : 0 < n := by omega
    intro z
    have h4 : (a.length : Int) * n ≤ 2 ^ 63 - 1 := by
      have e : ((a.length * n.toNat : Nat) : Int) = (a.length : Int) * n := by
        rw [Int.natCast_mul, Int.toNat_of_nonneg (by omega)]
      have := sizeLine_eq
      omega
    have := (Int.le_ediv_iff_mul_le hn).mpr h4
    omega
  · exact decide_eq_false (Nat.not_lt.mpr h2)
  · by_cases z : n < 1
    · rw [if_pos z]
      have e : n.toNat = 0 := by omega
      rw [e] at q
      exact ⟨by decide, ⟨.str Str.empty, H, I.tok _, ⟨_, rfl⟩, q⟩⟩
    · rw [if_neg z]
      by_cases c : (n == 1 || a.length == 0) = true
      · rw [if_pos c]
        have e : repS a n.toNat = a := by
          apply str_ext
          rw [rep_tl]
          rw [Bool.or_eq_true] at c
          rcases c with c | c
          · have : n = 1 := by simpa using c
            subst this; simp
          · have : a.length = 0 := by simpa using c
            have : a.cps.toList = [] := List.eq_nil_of_length_eq_zero (by rw [← len_tl]; exact this)
            rw [this]; simp
        rw [e] at q
        exact ⟨.str a, H, I, ⟨_, rfl⟩, q⟩
      · rw [if_neg c]
        exact ⟨by show (repS a n.toNat).length ≤ sizeLine; rw [rep_len]; exact h2, ⟨.str (repS a n.toNat), H, I.tok _, ⟨_, rfl⟩, q⟩⟩
theorem ev_repS {σ : L2.St} {H : Hp} {ta tb : TE} {a : Str} {n : Int} (ha : Ev ta σ H (.str a)) (hb : Ev tb σ H (.int n)) (h : a.length * n.toNat ≤ sizeLine ∧ -(2 ^ 62) ≤ n ∧ n < 2 ^ 62) : Ev (tOp rRepS ta tb) σ H (.str (repS a n.toNat)) :=
  ev_op ha hb fun Q q => ⟨a, n, rfl, rfl, h.2.1, h.1, h.2.2, q⟩
end Ml
namespace PySem.W
open PySem PySem.Spec PySem.Calls PyProof.Rows
theorem kit_own {K : Frag} {i j : Addr} {b : Bool} (hdct : hasDictIn K j = true) (ht : typeIn K (.ref j) = some (.type "type")) (h : subIn K (.ref i) (.ref j) = some b) (hn : b = true ∨ ¬ i = j) : kitOne K (.ref i) (.ref j) = some b := by
  obtain ⟨cd, hc, _⟩ := any_some hdct
  have e2 : ((clsIn K j).isSome && typeIn K (.ref j) == some (.type "type")) = true := by rw [hc, ht] <;> rfl
  have e3 : kitCls K (.ref i) (.ref j) = some b := by
    show (if ((clsIn K j).isSome && typeIn K (.ref j) == some (.type "type")) = true then subIn K (.ref i) (.ref j) else none) = some b
    rw [if_pos e2]; exact h
  unfold kitOne
  split
  · next q =>
    rcases hn with rfl | hn
    · rfl
    · have : Value.ref i = Value.ref j := eq_of_beq q
      exact absurd (by injection this) hn
  · exact e3
theorem kit_val {K : Frag} {i : Addr} {b : Bool} (h : subIn K (.ref i) (.type "ValueError") = some b) : kitOne K (.ref i) (.type "ValueError") = some b := by
  unfold kitOne
  split
  · next q =>
    have : Value.ref i = Value.type "ValueError" := eq_of_beq q
    cases this
  · show (if kitMeta "ValueError" = true then subIn K (.ref i) (.type "ValueError") else none) = some b
    rw [if_pos (by decide +kernel)]; exact h
end PySem.W
namespace Ml
open PySem PySem.Spec PyProof.Rows L2
variable {G : Gx}
inductive StV where
  | i (n : Int) | s (x : Script)
def stIm (G : Gx) (H : Hp) (v : V) : StV → Prop
  | .i n => v = .int n
  | .s s => Im.im G H v s
theorem stIm_st {H H' : Hp} {v : V} {x : StV} (h : stIm G H v x) (st : Stab G H H') : stIm G H' v x := by
  cases x with
  | i n => exact h
  | s s =>
    have h : Im.im G H v s := h
    exact (Im.st h st : Im.im G H' v s)
instance stvI : Im G StV := ⟨stIm G, fun h s => stIm_st h s⟩
end Ml
namespace L2
open PySem PySem.Spec PyProof.Rows
end L2
namespace Ml
open PySem PySem.Spec PyProof.Rows L2
variable {G : Gx} {H : Hp} {L : List (Asn G)} {Q : VK}
theorem imL_str : ∀ {vs : List V} {xs : List Str}, imL (G := G) H vs xs → imL (G := G) H vs (xs.map Any.str)
  | [], [], _ => True.intro
  | v :: vs, x :: xs, h => ⟨any_str.mpr h.1, imL_str h.2⟩
theorem any_lstS {v : V} {xs : List Str} (h : Im.im G H v xs) : Im.im G H v (Any.lst (xs.map Any.str)) := by
  obtain ⟨a, vs, e, g, m⟩ := h
  exact any_lsts.mpr ⟨a, vs, e, g, imL_str m⟩
end Ml
namespace Ml
open PySem PySem.Spec PyProof.Rows L2
variable {G : Gx} {κ β : Type} [Kx κ] [DecidableEq κ] [Im G β] {H : Hp} {L L' : List (Asn G)} {σ : L2.St} {Q : VK} {td ty tx : TE} {k : κ} {a : Addr} {xs : List (κ × β)} {i : Nat}
/-- d[k], k there -/
theorem ev_dget {v : V} {y : β} (hS : Sep H L) (e : L[i]? = some (dictA a xs)) (hd : Ev td σ H (.ref a)) (hy : Ev ty σ H (kV (Kx.key k))) (g : DGet H a (kV (Kx.key k)) (some v)) : Ev (tDGet td ty) σ H v :=
  fun Q q => hd _ (hy _ ⟨a, v, rfl, g, q⟩)
theorem dget_some {y : β} (hS : Sep H L) (e : L[i]? = some (dictA a xs)) (h : dget xs k = some y) : ∃ v, DGet H a (kV (Kx.key k)) (some v) ∧ Im.im G H v y := by
  obtain ⟨r, g, h1, _⟩ := dget_at hS e (k := k) h
  obtain ⟨v, rfl, m⟩ := h1 y rfl
  exact ⟨v, g, m⟩
/-- what d[k] wants: that k is there -/
def dgetR (xs : List (κ × β)) (k : κ) : R β := match dget xs k with
  | some y => .ok y
  | none => .bad
theorem wp_dget {ρ : Type} {q : ρ → Prop} {e : Exc → Prop} {f : β → R ρ} (h : R.wp ((dgetR xs k).bind f) q e) : ∃ y, dget xs k = some y ∧ R.wp (f y) q e := by
  unfold dgetR at h
  cases c : dget xs k with
  | none => rw [c] at h; exact h.elim
  | some y => rw [c] at h; exact ⟨y, rfl, h⟩
/-- d[k] = v -/
theorem k_setD {v : V} {y : β} {P : Hp → Prop} (hS : Sep H L) (e : L[i]? = some (dictA a xs)) (hv : Im.im G H v y) (hl : xs.length < sizeLine) (e2 : L.set i (dictA a (dput xs k y)) = L') (q : ∀ H', Sep H' L' → P H') : rSetD (.ref a) (kV (Kx.key k)) v H P := by
  obtain ⟨ps, h, m⟩ := hS.dict e
  refine ⟨a, _, rfl, .inl ⟨ps, Kx.key k, h, rfl, by rw [m.len]; exact hl, rfl⟩, q _ ?_⟩
  subst e2
  exact hS.putD e (m.put hv)
/-- len(d) -/
theorem ev_lenD {ta : TE} (hS : Sep H L) (e : L[i]? = some (dictA a xs)) (ha : Ev ta σ H (.ref a)) : Ev (tCB (fun xs H Q => ∃ a kvs, xs = [V.ref a] ∧ H a = some (.dK kvs) ∧ Q (.int (kvs : List (Key × V)).length) H) (tCons ta tNil)) σ H (.int xs.length) := by
  obtain ⟨ps, hp, m⟩ := hS.dict e
  exact ev_cb (ea_cons ha ea_nil) fun _ q => ⟨a, ps, rfl, hp, by rw [m.len]; exact q⟩
end Ml
namespace Ml
open PySem PySem.Spec PyProof.Rows L2
variable {G : Gx} {β : Type} {H : Hp} {M : List (Asn G)}
def elemsE (E : Addr → β → Asn G) (l : List (Addr × β)) : List (Asn G) := l.map fun q => E q.1 q.2
def listE (E : Addr → β → Asn G) (a : Addr) (xs : List β) : Asn G := exA fun (ps : List Addr) => andA (ps.length = xs.length) (star (cell a (.lst (ps.map V.ref)) :: elemsE E (ps.zip xs)))
/-- all but the j-th -/
def listH (E : Addr → β → Asn G) (a : Addr) (ps : List Addr) (xs : List β) (j : Nat) : Asn G := star (cell a (.lst (ps.map V.ref)) :: elemsE E ((ps.zip xs).eraseIdx j))
theorem erase_map {α γ : Type} (f : α → γ) : ∀ (l : List α) (j : Nat), (l.map f).eraseIdx j = (l.eraseIdx j).map f
  | [], j => by simp
  | x :: l, 0 => rfl
  | x :: l, j + 1 => by simp only [List.map_cons, List.eraseIdx_cons_succ]; rw [erase_map f l j]
theorem perm_out {α : Type} : ∀ {l : List α} {j : Nat} {x : α}, l[j]? = some x → (x :: l.eraseIdx j).Perm l
  | [], j, x, h => by cases h
  | y :: l, 0, x, h => by
    have : y = x := by simpa using h
    subst this; exact .refl _
  | y :: l, j + 1, x, h => by
    have h2 : l[j]? = some x := by simpa using h
    exact (List.Perm.swap y x _).trans ((perm_out h2).cons y)
theorem focusE {E : Addr → β → Asn G} {a : Addr} {xs : List β} {j : Nat} {x : β} (h : Sep H (listE E a xs :: M)) (hj : xs[j]? = some x) : ∃ ps p, ps.length = xs.length ∧ ps[j]? = some p ∧ Sep H (E p x :: listH E a ps xs j :: M) := by
  obtain ⟨ps, h⟩ := Sep.ex h
  obtain ⟨hl, h⟩ := Sep.and h
  have hlt : j < xs.length := (List.getElem?_eq_some_iff.mp hj).1
  have hp : ps[j]? = some ps[j] := List.getElem?_eq_getElem (by omega)
  refine ⟨ps, ps[j], hl, hp, ?_⟩
  have h := Sep.star1 h
  have hz : (ps.zip xs)[j]? = some (ps[j], x) := by
    rw [List.getElem?_zip_eq_some]; exact ⟨hp, hj⟩
  have hz2 : (elemsE E (ps.zip xs))[j]? = some (E ps[j] x) := by unfold elemsE; rw [List.getElem?_map, hz]; rfl
  have e : (elemsE E (ps.zip xs)).eraseIdx j = elemsE E ((ps.zip xs).eraseIdx j) := by unfold elemsE; rw [erase_map]
  have P := perm_out hz2
  rw [e] at P
  have h2 : Sep H (E ps[j] x :: ((cell a (.lst (ps.map V.ref)) :: elemsE E ((ps.zip xs).eraseIdx j)) ++ M)) := by
    refine h.perm ?_
    have := (P.symm.cons (cell (G := G) a (.lst (ps.map V.ref)))).append_right M
    exact this.trans (by exact List.Perm.swap _ _ _)
  have h3 : Sep H ((cell a (.lst (ps.map V.ref)) :: elemsE E ((ps.zip xs).eraseIdx j)) ++ (E ps[j] x :: M)) := h2.perm (List.perm_middle.symm)
  exact (Sep.unstar1 h3).perm (List.Perm.swap _ _ _)
theorem unfocusE {E : Addr → β → Asn G} {a : Addr} {xs : List β} {ps : List Addr} {j : Nat} {p : Addr} {y : β} (hl : ps.length = xs.length) (hp : ps[j]? = some p) (h : Sep H (E p y :: listH E a ps xs j :: M)) : Sep H (listE E a (xs.set j y) :: M) := by
  refine Sep.exI ps (Sep.andI (by rw [List.length_set]; exact hl) (Sep.unstar1 ?_))
  have hlt : j < ps.length := (List.getElem?_eq_some_iff.mp hp).1
  have hz : (ps.zip (xs.set j y))[j]? = some (p, y) := by
    rw [List.getElem?_zip_eq_some]; exact ⟨hp, by rw [List.getElem?_set_self (by omega)]⟩
  have hz2 : (elemsE E (ps.zip (xs.set j y)))[j]? = some (E p y) := by unfold elemsE; rw [List.getElem?_map, hz]; rfl
  have e0 : (ps.zip (xs.set j y)).eraseIdx j = (ps.zip xs).eraseIdx j := by
    clear h hz hz2
    induction ps generalizing xs j with
    | nil => cases hp
    | cons q ps ih =>
      cases xs with
      | nil => cases hl
      | cons x xs =>
        cases j with
        | zero => rfl
        | succ j =>
          simp only [List.set_cons_succ, List.zip_cons_cons, List.eraseIdx_cons_succ]
          rw [ih (by simpa using hl) (by simpa using hp) (by simpa using hlt)]
  have e : (elemsE E (ps.zip (xs.set j y))).eraseIdx j = elemsE E ((ps.zip xs).eraseIdx j) := by unfold elemsE; rw [erase_map, e0]
  have P := perm_out hz2
  rw [e] at P
  have h1 : Sep H ((cell a (.lst (ps.map V.ref)) :: elemsE E ((ps.zip xs).eraseIdx j)) ++ (E p y :: M)) := Sep.star1 (h.perm (List.Perm.swap _ _ _))
  have h2 : Sep H (E p y :: ((cell a (.lst (ps.map V.ref)) :: elemsE E ((ps.zip xs).eraseIdx j)) ++ M)) := h1.perm List.perm_middle
  refine h2.perm ?_
  have := (P.cons (cell (G := G) a (.lst (ps.map V.ref)))).append_right M
  exact (List.Perm.swap _ _ _).trans this
end Ml
namespace Ml
open PySem PySem.Spec PyProof.Rows L2
variable {G : Gx} {κ β : Type} [Kx κ] [DecidableEq κ] {H : Hp} {M : List (Asn G)}
def refsD (kvs : List (κ × β)) (ps : List Addr) : List (Key × V) := List.zipWith (fun kv p => (Kx.key kv.1, V.ref p)) kvs ps
def dictE (E : Addr → β → Asn G) (a : Addr) (kvs : List (κ × β)) : Asn G := exA fun (ps : List Addr) => andA (ps.length = kvs.length ∧ (kvs.map (·.1)).Nodup) (star (cell a (.dK (refsD kvs ps)) :: elemsE E (ps.zip (kvs.map (·.2)))))
theorem refs_val {kvs : List (κ × β)} {ps : List Addr} {j : Nat} {k : κ} {y : β} {p : Addr} (hl : ps.length = kvs.length) (hn : (kvs.map (·.1)).Nodup) (hj : kvs[j]? = some (k, y)) (hp : ps[j]? = some p) : valV (refsD kvs ps) (Kx.key k) = some (.ref p) := by
  induction kvs generalizing ps j with
  | nil => cases hj
  | cons kv kvs ih =>
    cases ps with
    | nil => cases hl
    | cons q ps =>
      cases j with
      | zero =>
        have h1 : kv = (k, y) := by simpa using hj
        have h2 : q = p := by simpa using hp
        subst h1 h2
        show valV ((Kx.key k, V.ref q) :: refsD kvs ps) (Kx.key k) = _
        unfold valV
        simp
      | succ j =>
        have hj' : kvs[j]? = some (k, y) := by simpa using hj
        have hp' : ps[j]? = some p := by simpa using hp
        rw [List.map_cons, List.nodup_cons] at hn
        have hk : ¬ kv.1 = k := fun e => hn.1 (List.mem_map.mpr ⟨(k, y), List.mem_of_getElem? hj', e.symm⟩)
        have := ih (ps := ps) (j := j) (by simpa using hl) hn.2 hj' hp'
        show valV ((Kx.key kv.1, V.ref q) :: refsD kvs ps) (Kx.key k) = _
        unfold valV at this ⊢
        have hk2 : ¬ Kx.key kv.1 = Kx.key k := fun e => hk (Kx.inj e)
        simpa [hk2] using this
theorem zip_hole {ps : List Addr} {xs : List β} {j : Nat} {z : β} (hl : ps.length = xs.length) : (ps.zip (xs.set j z)).eraseIdx j = (ps.zip xs).eraseIdx j := by
  induction ps generalizing xs j with
  | nil => simp
  | cons q ps ih =>
    cases xs with
    | nil => cases hl
    | cons x xs =>
      cases j with
      | zero => rfl
      | succ j =>
        simp only [List.set_cons_succ, List.zip_cons_cons, List.eraseIdx_cons_succ]
        rw [ih (by simpa using hl)]
theorem put_at {kvs : List (κ × β)} {j : Nat} {k : κ} {y z : β} (hn : (kvs.map (·.1)).Nodup) (hj : kvs[j]? = some (k, y)) : dput kvs k z = kvs.set j (k, z) := by
  have hany : (kvs.any fun kv => decide (kv.1 = k)) = true := List.any_eq_true.mpr ⟨(k, y), List.mem_of_getElem? hj, by simp⟩
  unfold dput
  rw [if_pos hany]
  clear hany
  induction kvs generalizing j with
  | nil => cases hj
  | cons kv kvs ih =>
    rw [List.map_cons, List.nodup_cons] at hn
    cases j with
    | zero =>
      have h1 : kv = (k, y) := by simpa using hj
      subst h1
      have : kvs.map (fun kv => if kv.1 = k then (kv.1, z) else kv) = kvs := by
        have : ∀ q, q ∈ kvs → (if q.1 = k then (q.1, z) else q) = q := fun q hq => by
          rw [if_neg]
          intro e
          exact hn.1 (List.mem_map.mpr ⟨q, hq, e⟩)
        conv => rhs; rw [← List.map_id kvs]
        exact List.map_congr_left this
      simp [this]
    | succ j =>
      have hj' : kvs[j]? = some (k, y) := by simpa using hj
      have hk : ¬ kv.1 = k := fun e => hn.1 (List.mem_map.mpr ⟨(k, y), List.mem_of_getElem? hj', e.symm⟩)
      rw [List.map_cons, if_neg hk, List.set_cons_succ, ih hn.2 hj']
end Ml
namespace Ml
open PySem PySem.Spec PyProof.Rows L2
variable {G : Gx} {κ β : Type} [Kx κ] [DecidableEq κ] {H : Hp} {M : List (Asn G)}
theorem refs_new {y : β} {kvs : List (κ × β)} {ps : List Addr} {k : κ} {p : Addr} (hl : ps.length = kvs.length) (hk : ¬ k ∈ kvs.map (·.1)) : putK (refsD kvs ps) (Kx.key k) (.ref p) = refsD (kvs ++ [(k, y)]) (ps ++ [p]) := by
  have h1 : (refsD kvs ps).any (fun kv => decide (kv.1 = Kx.key k)) = false := by
    rw [Bool.eq_false_iff]
    intro z
    obtain ⟨q, hq, e⟩ := List.any_eq_true.mp z
    have e := of_decide_eq_true e
    unfold refsD at hq
    induction kvs generalizing ps with
    | nil => simp at hq
    | cons kv kvs ih =>
      cases ps with
      | nil => cases hl
      | cons r ps =>
        rw [List.zipWith_cons_cons] at hq
        rcases List.mem_cons.mp hq with rfl | hq
        · exact hk (by rw [List.map_cons]; exact List.mem_cons.mpr (.inl (Kx.inj e).symm))
        · exact ih (ps := ps) (by simpa using hl) (fun m => hk (by rw [List.map_cons]; exact List.mem_cons_of_mem _ m)) (by
            refine List.any_eq_true.mpr ⟨q, hq, by simpa using e⟩) hq
  unfold putK
  rw [h1]
  unfold refsD
  rw [List.zipWith_append hl.symm]
  rfl
theorem refs_len {kvs : List (κ × β)} {ps : List Addr} (hl : ps.length = kvs.length) : (refsD kvs ps).length = kvs.length := by
  unfold refsD
  rw [List.length_zipWith]; omega
/-- d[k] = v, v an own thing, k new -/
theorem k_newE {E : Addr → β → Asn G} {a : Addr} {kvs : List (κ × β)} {k : κ} {p : Addr} {y : β} {P : Hp → Prop} (h : Sep H (dictE E a kvs :: E p y :: M)) (hk : ¬ k ∈ kvs.map (·.1)) (hz : kvs.length < sizeLine)
    (q : ∀ H', Sep H' (dictE E a (kvs ++ [(k, y)]) :: M) → P H') : rSetD (.ref a) (kV (Kx.key k)) (.ref p) H P := by
  obtain ⟨ps, h⟩ := Sep.ex h
  obtain ⟨⟨hl, hn⟩, h⟩ := Sep.and h
  have h := Sep.star1 h
  have hc : H a = some (.dK (refsD kvs ps)) := h.getCell (i := 0) rfl
  refine ⟨a, _, rfl, .inl ⟨refsD kvs ps, Kx.key k, hc, rfl, by rw [refs_len hl]; exact hz, rfl⟩, q _ ?_⟩
  have h2 := h.put (i := 0) (a := a) (o := .dK (refsD kvs ps)) (o' := .dK (putK (refsD kvs ps) (Kx.key k) (.ref p))) rfl rfl rfl
  refine Sep.exI (ps ++ [p]) (Sep.andI ⟨by rw [List.length_append, List.length_append, hl]; rfl, ?_⟩ (Sep.unstar1 ?_))
  · rw [List.map_append, List.nodup_append]
    refine ⟨hn, by simp, fun x hx z hz => ?_⟩
    rw [List.map_singleton, List.mem_singleton] at hz
    intro e
    have hz : z = k := hz
    exact hk (by rw [← hz, ← e]; exact hx)
  · have e1 : elemsE E ((ps ++ [p]).zip ((kvs ++ [(k, y)]).map (·.2))) = elemsE E (ps.zip (kvs.map (·.2))) ++ [E p y] := by
      unfold elemsE
      rw [List.map_append, List.zip_append (by rw [List.length_map]; exact hl), List.map_append]
      rfl
    rw [e1, ← refs_new (y := y) hl hk]
    have : ((cell a (.dK (putK (refsD kvs ps) (Kx.key k) (.ref p))) :: elemsE E (ps.zip (kvs.map (·.2)))) ++ (E p y :: M)) = ((cell a (.dK (putK (refsD kvs ps) (Kx.key k) (.ref p))) :: (elemsE E (ps.zip (kvs.map (·.2))) ++ [E p y])) ++ M) := by simp
    rw [← this]
    exact h2
end Ml
namespace PySem.SeqAt
open AutoSeq1 (wpAny_loadPart')
open MeetsSeq MeetsSeq2 MeetsSeq3
section
variable {prog : Program} {w : World} {A : Around} {s : Shared} {E : Value → Shared → Prop}
def DictAt (s : Shared) (d : Addr) : Prop := ∃ dd es ep sl, s.heap.get? d = some ⟨.type "dict", dd, .dict es ep, sl⟩
theorem DictAt.ty {d : Addr} (h : DictAt s d) : s.TypeIs (.ref d) "dict" := by obtain ⟨dd, es, ep, sl, h⟩ := h; exact ⟨_, h, rfl⟩
end
end PySem.SeqAt
namespace L2
open PySem PySem.Spec PyProof.Rows
/-- isinstance(e, c), e the exception that the suite holds -/
def rIsEd (K : PySem.W.Frag) (cls : Value) (d : Option Addr) (a : Addr) : List V → Hp → VK → Prop := fun xs H Q => ∃ D, cls = .ref D ∧ d = none ∧ ExcC K D ∧ rIsEB K D a xs H Q
theorem call_isEd {X : Cx} (K : PySem.W.Frag) {a : Addr} {cls : Value} {d : Option Addr} {oe : Obj} (hp : (a, oe) ∈ X.pn) (hz : Zc cls d oe) (hf : ∃ vs, oe.data = .fields vs) (hK : X.K = K := by rfl) : CallR X (.builtin "isinstance") (rIsEd K cls d a) := by
  intro pins s σ H xs us Q I r h
  obtain ⟨D, rfl, rfl, C, h⟩ := h
  exact call_isP K hp C hz hf hK pins s σ H xs us Q I r h
end L2
namespace Ml
open PySem PySem.Spec PyProof.Rows L2
variable {G : Gx} {H : Hp} {L : List (Asn G)} {Q : VK}
theorem ev_isXd {a : Addr} {σ : L2.St} {D : Addr} {ta tb : TE} {c : V} {cv : Value} {b : Bool} (ha : Ev ta σ H (.ref a)) (hb : Ev tb σ H c) (hc : ClsV c cv) (C : ExcC G.K D) (e : PySem.W.kitOne G.K (.ref D) cv = some b) :
    Ev (tCB (rIsEd G.K (.ref D) none a) (tCons ta (tCons tb tNil))) σ H (.bl b) := ev_cb (ea_cons ha (ea_cons hb ea_nil)) fun _ q => ⟨D, rfl, rfl, C, c, cv, b, rfl, hc, e, q⟩
theorem R.need_rev {α : Type} {p : Prop} {inst : Decidable p} {k : R α} {q : α → Prop} {e : Exc → Prop} {Z : Prop} (f : p → k.wp q e → Z) (h : (@R.need α p inst k).wp q e) : Z := f (R.wp_need h).1 (R.wp_need h).2
end Ml
namespace Ml
open PySem PySem.Spec PyProof.Rows
def leT (a b : Str) : Bool := !decide (b.cps.toList < a.cps.toList)
theorem leT_iff {a b : Str} : leT a b = true ↔ a.cps.toList ≤ b.cps.toList := by
  unfold leT
  rw [Bool.not_eq_true', decide_eq_false_iff_not]
  exact List.not_lt
theorem leT_tr (a b c : Str) (x : leT a b = true) (y : leT b c = true) : leT a c = true := leT_iff.mpr (List.le_trans (leT_iff.mp x) (leT_iff.mp y))
theorem leT_tot (a b : Str) : (leT a b || leT b a) = true := by
  rw [Bool.or_eq_true]
  exact (List.le_total a.cps.toList b.cps.toList).imp leT_iff.mpr leT_iff.mpr
theorem leT_anti {a b : Str} (x : leT a b = true) (y : leT b a = true) : a = b := by
  have e := List.le_antisymm (leT_iff.mp x) (leT_iff.mp y)
  obtain ⟨⟨xs⟩⟩ := a
  obtain ⟨⟨ys⟩⟩ := b
  cases e
  rfl
def sortT (xs : List Str) : List Str := xs.mergeSort leT
theorem sortT_perm (xs : List Str) : (sortT xs).Perm xs := List.mergeSort_perm xs leT
theorem sortT_up (xs : List Str) : (sortT xs).Pairwise (fun a b => leT a b = true) := List.pairwise_mergeSort leT_tr leT_tot xs
theorem up_one : ∀ {xs ys : List Str}, xs.Pairwise (fun a b => leT a b = true) → ys.Pairwise (fun a b => leT a b = true) → xs.Perm ys → xs = ys
  | [], ys, _, _, p => p.nil_eq
  | x :: r, [], _, _, p => absurd p.length_eq (by simp)
  | x :: r, y :: t, ux, uy, p => by
    have ex : x = y := by
      by_cases z : x = y
      · exact z
      · have mx : x ∈ t := (List.mem_cons.mp (p.mem_iff.mp List.mem_cons_self)).resolve_left z
        have my : y ∈ r := (List.mem_cons.mp (p.mem_iff.mpr List.mem_cons_self)).resolve_left (fun q => z q.symm)
        exact leT_anti (List.rel_of_pairwise_cons ux my) (List.rel_of_pairwise_cons uy mx)
    subst ex
    rw [up_one (List.pairwise_cons.mp ux).2 (List.pairwise_cons.mp uy).2 (p.cons_inv)]
theorem rising_leT : ∀ {p : Str} {xs : List Str}, risingS p xs = true → (p :: xs).Pairwise (fun a b => leT a b = true)
  | p, [], _ => List.pairwise_singleton _ _
  | p, x :: r, h => by
    have h' : (!ltCps x.cps.toList p.cps.toList && risingS x r) = true := h
    rw [Bool.and_eq_true, ltCps_eq] at h'
    have t := rising_leT h'.2
    have px : leT p x = true := h'.1
    refine List.pairwise_cons.mpr ⟨fun y hy => ?_, t⟩
    rcases List.mem_cons.mp hy with e | e
    · rw [e]; exact px
    · exact leT_tr _ _ _ px (List.rel_of_pairwise_cons t e)
theorem sorted_leT : ∀ {xs : List Str}, sortedS xs = true → xs.Pairwise (fun a b => leT a b = true)
  | [], _ => List.Pairwise.nil
  | _ :: _, h => rising_leT h
theorem sortT_of {xs ys : List Str} (p : ys.Perm xs) (h : ys.Pairwise (fun a b => leT a b = true)) : ys = sortT xs := up_one h (sortT_up xs) (p.trans (sortT_perm xs).symm)
theorem sortT_congr {xs ys : List Str} (p : xs.Perm ys) : sortT xs = sortT ys := sortT_of ((sortT_perm xs).trans p) (sortT_up xs)
def onceL : List Str → List Str
  | [] => []
  | x :: r => if x ∈ r then onceL r else x :: onceL r
theorem mem_onceL {x : Str} : ∀ {xs : List Str}, x ∈ onceL xs ↔ x ∈ xs
  | [] => Iff.rfl
  | y :: r => by
    unfold onceL
    split
    · rename_i c
      rw [mem_onceL, List.mem_cons]
      exact ⟨.inr, fun h => h.elim (fun e => e ▸ c) id⟩
    · rw [List.mem_cons, List.mem_cons, mem_onceL]
theorem nodup_onceL : ∀ {xs : List Str}, (onceL xs).Nodup
  | [] => List.nodup_nil
  | y :: r => by
    unfold onceL
    split
    · exact nodup_onceL
    · rename_i c
      exact List.nodup_cons.mpr ⟨fun h => c (mem_onceL.mp h), nodup_onceL⟩
theorem perm_of_len : ∀ {xs ys : List Str}, xs.Nodup → (∀ x, x ∈ xs → x ∈ ys) → ys.length ≤ xs.length → ys.Perm xs
  | [], ys, _, _, l => by
    have e : ys = [] := List.length_eq_zero_iff.mp (Nat.le_zero.mp l)
    rw [e]
  | x :: r, ys, d, m, l => by
    obtain ⟨d1, d2⟩ := List.nodup_cons.mp d
    have hx := m x List.mem_cons_self
    have pe := List.perm_cons_erase hx
    refine pe.trans (List.Perm.cons x (perm_of_len d2 (fun y hy => ?_) ?_))
    · rcases List.mem_cons.mp (pe.mem_iff.mp (m y (List.mem_cons_of_mem _ hy))) with e | e
      · rw [e] at hy; exact absurd hy d1
      · exact e
    · have q := pe.length_eq
      simp only [List.length_cons] at q l
      omega
theorem nodup_len : ∀ {xs ys : List Str}, xs.Nodup → (∀ x, x ∈ xs → x ∈ ys) → xs.length ≤ ys.length
  | [], _, _, _ => Nat.zero_le _
  | x :: r, ys, d, m => by
    obtain ⟨d1, d2⟩ := List.nodup_cons.mp d
    have pe := List.perm_cons_erase (m x List.mem_cons_self)
    have q := pe.length_eq
    have t : r.length ≤ (ys.erase x).length := nodup_len d2 fun y hy => by
      rcases List.mem_cons.mp (pe.mem_iff.mp (m y (List.mem_cons_of_mem _ hy))) with e | e
      · rw [e] at hy; exact absurd hy d1
      · exact e
    simp only [List.length_cons] at q ⊢
    omega
theorem perm_same {xs ys : List Str} (d : xs.Nodup) (e : ys.Nodup) (m : ∀ x, x ∈ xs ↔ x ∈ ys) : xs.Perm ys := perm_of_len e (fun x h => (m x).mpr h) (nodup_len d fun x h => (m x).mp h)
/-- sorted(set(xs)) -/
def ssetT (xs : List Str) : List Str := sortT (onceL xs)
theorem mem_ssetT {x : Str} {xs : List Str} : x ∈ ssetT xs ↔ x ∈ xs := (sortT_perm _).mem_iff.trans mem_onceL
theorem ssetT_nodup (xs : List Str) : (ssetT xs).Nodup := (sortT_perm _).nodup_iff.mpr nodup_onceL
theorem ssetT_up (xs : List Str) : (ssetT xs).Pairwise (fun a b => leT a b = true) := sortT_up _
theorem ssetT_is {xs ys : List Str} (d : ys.Nodup) (u : ys.Pairwise (fun a b => leT a b = true)) (m : ∀ x, x ∈ ys ↔ x ∈ xs) : ys = ssetT xs :=
  up_one u (ssetT_up xs) (perm_same d (ssetT_nodup xs) fun x => (m x).trans mem_ssetT.symm)
end Ml
namespace L2
open PySem PySem.Spec PyProof.Rows PySem.Froz Ml
def OrdOk (w : World) (D : SD) : Prop := Ris D.2.2.place.toList ∧ (w.params.followText "set-order" = true ∨ D.2.2.led = true)
theorem ord_tail {w : World} {ep : Nat} {es : Array (Int × Value)} {t : SetTable} {b : Bool} (r : Ris t.place.toList) (l : w.params.followText "set-order" = true ∨ t.led = true) : OrdOk w (tailTx ep es t b) := by
  unfold tailTx
  split
  · exact ⟨relayAll_ris t es _, l.imp id fun z => by rw [relayAll_led]; exact z⟩
  · exact ⟨r, l⟩
theorem ord_add {w : World} {D : SD} {h : Int} {v : Value} (o : OrdOk w D) : OrdOk w (addTx h v D) := by
  obtain ⟨es, ep, t⟩ := D
  have r := layNew_ris t es h v o.1
  have l : w.params.followText "set-order" = true ∨ (layNew t es h v).2.1.led = true := o.2.imp id fun z => by rw [layNew_led]; exact z
  unfold addTx
  dsimp only
  split
  · exact ord_tail r l
  · exact ord_tail r l
structure SX (P : Program) (w : World) (D : SD) (l : List Str) : Prop where
  ok : TxOk P w D l
  nd : l.Nodup
  od : OrdOk w D
section
variable {P : Program} {w : World} {A : Around} {E : Value → Shared → Prop} {s : Shared}
theorem add_had {a : Addr} {T : String} {D : SD} {l : List Str} {k : Str} {u : Tok} {Q : Bool → Shared → Prop} (ho : s.heap.get? a = some (sObj T D)) (F : TxOk P w D l) (hk : k ∈ l) (hb : l.length < scanBound)
    (h : Q false s) : wpAny (model P w) A (setAddHashed a (.str k u) (hashStr w k)) Q E s := by
  obtain ⟨es, ep, t⟩ := D
  have few : es.size < scanBound := by rw [show es.size = l.length from F.sz]; exact hb
  unfold setAddHashed setAddHashedIn
  refine wpAny_holding (wpAny_bind (wpAny_setState_of ho rfl F.fit ?_))
  dsimp only
  rw [byScan_of rfl few F.el]
  simp only [↓reduceIte]
  unfold setAddByScan
  refine wpAny_bind (wpAny_bind (wpAny_rule (wpAny_bind (wpAny_setScan_of (knd := strKind P w) (k := k) (is_str k u) ho rfl F.fit F.el ?_))))
  cases hr : List.findIdx? (fun e => (strKind P w).is k e.2) es.toList with
  | none =>
    obtain ⟨e, he, z⟩ := (F.mem k).mp hk
    have c := List.findIdx?_eq_none_iff.mp hr e he
    rw [z] at c
    cases c
  | some j =>
    dsimp only
    exact wpAny_pure (wpAny_pure h)
/-- one text more, had or new -/
theorem add_any {a : Addr} {T : String} {D : SD} {l : List Str} {k : Str} {u : Tok} {Q : Bool → Shared → Prop} (ho : s.heap.get? a = some (sObj T D)) (F : SX P w D l) (hb : l.length + 1 < scanBound)
    (h : ∀ b h' D' l', (∀ x, x ∈ l' ↔ x ∈ l ∨ x = k) → l'.length ≤ l.length + 1 → SX P w D' l' → h'.get? a = some (sObj T D') → (∀ c o, c ≠ a → s.heap.get? c = some o → h'.get? c = some o) → Q b { s with heap := h' }) :
    wpAny (model P w) A (setAddHashed a (.str k u) (hashStr w k)) Q E s := by
  by_cases c : k ∈ l
  · exact add_had ho F.ok c (Nat.lt_of_succ_lt hb) (h false s.heap D l (fun x => ⟨.inl, fun z => z.elim id fun e => e ▸ c⟩) (Nat.le_succ _) F ho fun _ _ _ e => e)
  · refine add_x ho F.ok c hb (h true _ _ (k :: l) (fun x => List.mem_cons.trans Or.comm) (Nat.le_refl _) ⟨add_ok u F.ok, List.nodup_cons.mpr ⟨c, F.nd⟩, ord_add F.od⟩ (get_upd _ ho rfl) fun d o hd e => ?_)
    exact (PySem.Heap.get?_update_of_ne _ (Ne.symm hd) e)
theorem set_fill {I : Addr} {fp wr : List Addr} {GG : Array GenState → Array GenState → Prop} {n : Nat} {Pv : Nat → Value → Prop} {St : Nat → Shared → Prop} {R : Result → Shared → Prop}
    (W : WalksS P w A.in1 I fp wr GG n Pv St) (S : Addr) (out : S ∉ fp) (xs : List Str) (hn : n = xs.length) (few : xs.length + 1 < scanBound) (val : ∀ i v, Pv i v → ∃ x t, xs[i]? = some x ∧ v = .str x t) :
    ∀ (k i : Nat) (s : Shared), n - i = k → i ≤ n → St i s → (∃ D l, l.length ≤ i ∧ (∀ x, x ∈ l ↔ x ∈ xs.take i) ∧ SX P w D l ∧ s.heap.get? S = some (sObj "set" D)) →
      (∀ s' D l, Moved (S :: wr) GG s s' → (∀ x, x ∈ l ↔ x ∈ xs) → l.length ≤ n → SX P w D l → s'.heap.get? S = some (sObj "set" D) → R (.ok (.ret .none)) s') →
      codeAny (model P w) A (.builtin "set.update.loop" ⟨[.ref S, .ref I], []⟩) R s := by
  have nw : S ∉ wr := fun h => out (W.sub _ h)
  have sub : ∀ b ∈ wr, b ∈ S :: wr := fun b hb => List.mem_cons_of_mem _ hb
  intro k
  induction k with
  | zero =>
    intro i s hk hi st ⟨D, l, hl, hm, F, ho⟩ fin
    have hin : i = n := by omega
    subst hin
    rw [List.take_of_length_le (by omega)] at hm
    refine codeAny_builtin PyProof.Rows.F.entry_set_update_loop ?_
    rw [Around.under_plainId PyProof.Rows.F.plain_set_update_loop _]
    show wpAny _ A.in1 (pyNext (.ref I) >>= _) _ _ s
    refine wpAny_bind (W.done s _ _ st fun s' mv => ?_)
    exact wpAny_pure (fin s' D l (mv.mono sub) hm hl F (mv.heap S _ nw ho))
  | succ k ih =>
    intro i s hk hi st ⟨D, l, hl, hm, F, ho⟩ fin
    have lt : i < n := by omega
    refine codeAny_builtin PyProof.Rows.F.entry_set_update_loop ?_
    rw [Around.under_plainId PyProof.Rows.F.plain_set_update_loop _]
    show wpAny _ A.in1 (pyNext (.ref I) >>= _) _ _ s
    refine wpAny_bind (W.item i s _ _ lt st fun v s' pv st' mv => ?_)
    obtain ⟨z, t, hz, rfl⟩ := val i v pv
    show wpAny _ A.in1 (holding [Value.str z t] (setAdd S (.str z t)) >>= _) _ _ s'
    refine wpAny_bind (wpAny_holding ?_)
    unfold setAdd
    refine wpAny_holding ?_
    refine wpAny_bind ((strKind P w).pyHash (k := z) (is_str z t) ?_)
    refine add_any (s := { s' with toks := s'.toks + 1 }) (mv.heap S _ nw ho) F (by omega) fun b h' D' l' hm' hl' F' ho' same => ?_
    have hm2 : ∀ x, x ∈ l' ↔ x ∈ xs.take (i + 1) := fun x => by
      rw [hm' x, hm x, List.take_add_one, hz]
      simp [List.mem_append]
    refine wpAny_pure ⟨plainId_quiet PyProof.Rows.F.plain_set_update_loop _, ih (i + 1) _ (by omega) lt (W.frame _ s' _ _ st' (Nat.le_succ _) fun b hb o e => ?_) ⟨D', l', by omega, hm2, F', ho'⟩ fun s'' D2 l2 mv2 h1 h2 h3 h4 => ?_⟩
    · exact same b o (fun q => out (q ▸ hb)) e
    · exact fin s'' D2 l2 (Moved.trans W.gtrans ((mv.mono sub).then_heap (Nat.le_succ _) fun b o hb e => same b o (fun q => hb (by rw [q]; exact List.mem_cons_self)) e) mv2) h1 h2 h3 h4
theorem sx_new {led : Bool} (hl : w.params.followText "set-order" = true ∨ led = true) : SX P w (#[], 0, .fresh 0 0 led) [] := ⟨TxOk.nil (by rfl), List.nodup_nil, List.Pairwise.nil, hl⟩
def newSet (w : World) : Obj := { cls := .type "set", dict := none, data := .set #[] 0 (.fresh 0 0 (!w.params.followText "set-order")) }
set_option maxRecDepth 100000 in
theorem set_of_list {l : Addr} {items : Array Value} (xs : List Str) {Q : Value → Shared → Prop} (calm : A.handled = none) (hl : s.heap.IsList l items) (hit : StrsAre items.toList xs) (few : xs.length + 1 < scanBound)
    (fin : ∀ (h' : Heap) (tk : Nat) (D : SD) (m : List Str), SX P w D m → (∀ x, x ∈ m ↔ x ∈ xs) → m.length ≤ xs.length → h'.get? s.heap.objs.size = some (sObj "set" D) → (∀ b o, s.heap.get? b = some o → h'.get? b = some o) → Q (.ref s.heap.objs.size) { s with heap := h', toks := tk }) :
    wpAny (model P w) A (call (.type "set") [.ref l]) Q E s := by
  have isz : items.size = xs.length := by rw [← StrsAre.len_eq hit, Array.length_toList]
  obtain ⟨hd, tl, m_⟩ := PySem.F.called_set.mro
  have m1 := PySem.F.called_set.made
  have m2 := PySem.F.called_set.sub
  refine wpAny_call (codeAny_of_tree ?_)
  show wpAny _ _ (callAny (.type "set") _) _ _ _
  refine wpAny_pure ⟨Code.quiet_builtin _ (by decide +kernel), codeAny_builtin PySem.F.entry_type_call ?_⟩
  rw [Around.under_plain (weight_type_call_type "set" [.ref l] []) rfl]
  have n1 := PySem.F.called_set.notType
  have n2 := PySem.F.called_set.canCreate
  have n3 := PySem.F.typeCall_set_1 (.ref l)
  repeat (any_goals (first | assumption | wp_step))

  refine codeAny_mono (code_set_led1 (.ref l) (E := E) (Q₁ := fun x s₁ => x = .ref s.heap.objs.size ∧ s₁ = { s with heap := s.heap.push (newSet w) }) ⟨rfl, rfl⟩) fun r s₁ hr => ?_
  cases r with
  | error e => exact hr
  | ok fl =>
    cases fl with
    | ret obj =>
      obtain ⟨rfl, rfl⟩ := hr
      have gS : (s.heap.push (newSet w)).get? s.heap.objs.size = some (newSet w) := Heap.get?_push_size _ rfl
      have tS : Shared.TypeIs { s with heap := s.heap.push (newSet w) } (.ref s.heap.objs.size) "set" := ⟨_, gS, rfl⟩
      have i1 := PySem.F.called_set.init.lookup
      have i2 := PySem.F.called_set.init.bind (.ref s.heap.objs.size)
      repeat (any_goals (first | assumption | wp_step))

      refine codeAny_mono (codeAny_call_builtin (R := wants (fun r s₂ => r = .none ∧ ∃ h' tk D m, s₂ = { s with heap := h', toks := tk } ∧ SX P w D m ∧ (∀ x, x ∈ m ↔ x ∈ xs) ∧ m.length ≤ xs.length ∧
          h'.get? s.heap.objs.size = some (sObj "set" D) ∧ (∀ b o, s.heap.get? b = some o → h'.get? b = some o)) E) PySem.F.called_set.init.plain PySem.F.entry_set_init (check_set_init_1 tS ?_)) fun r₂ s₂ hr₂ => ?_
      · obtain ⟨ol, ho, hc, nl, hd⟩ := hl
        obtain ⟨cl_, dc_, dt_, sl_⟩ := ol
        simp only at hc hd
        subst hc; subst hd
        have ho' : (s.heap.push (newSet w)).get? l = some { cls := .type "list", dict := dc_, data := .seq items nl, slots := sl_ } := Heap.get?_push_of_some _ ho
        have s1 := PySem.F.sub_list_set
        have s2 := PySem.F.sub_list_frozenset
        have s3 : (Value.type "list" == Value.type "dict") = false := by decide
        have il : (s.heap.push (newSet w)).IsList l items := ⟨_, ho', rfl, nl, rfl⟩
        unfold Builtin.«set.__init__» noKeywords Builtin.Frozenset.updateFrom
        generalize hPI : pyIter = PI
        wp_walk
        subst hPI

        refine wpAny_pyIter_list il ?_
        refine wpAny_bind (wpAny_runValue ?_)
        have lS : l < s.heap.objs.size := Heap.lt_size ho
        have c3 : A.in1.in1.in1.handled = none := by simp [calm]
        have nI : l ≠ (s.heap.push (newSet w)).objs.size := by
          rw [Heap.size_push]; exact Nat.ne_of_lt (Nat.lt_succ_of_lt lS)
        have nS : s.heap.objs.size ∉ [(s.heap.push (newSet w)).objs.size, l] := by
          rw [Heap.size_push]; simp only [List.mem_cons, List.mem_singleton, List.not_mem_nil, or_false, not_or]
          exact ⟨Nat.ne_of_lt (Nat.lt_succ_self _), Nat.ne_of_gt lS⟩
        have val : ∀ (i : Nat) (v : Value), items[i]? = some v → ∃ x t, xs[i]? = some x ∧ v = .str x t := fun i v hv => by
          have hi : i < xs.length := by rw [← isz]; exact (Array.getElem?_eq_some_iff.mp hv).1
          obtain ⟨t, e⟩ := SS.strs_at hit i v (by rw [Array.getElem?_toList]; exact hv)
          refine ⟨xs[i], t, List.getElem?_eq_getElem hi, ?_⟩
          rw [e, List.getD_eq_getElem?_getD, List.getElem?_eq_getElem hi] <;> rfl
        refine set_fill ((Walks.list c3 _ l nI items).toS) s.heap.objs.size nS xs isz few val (items.size - 0) 0 _ (by omega) (Nat.zero_le _) ⟨⟨_, Heap.get?_push_size _ rfl, rfl, rfl⟩, (il.push _)⟩ ?at0 ?end0
        case at0 =>
          have g0 : ((s.heap.push (newSet w)).push { cls := .type "list_iterator", data := .fields #[.ref l, .int 0 0] }).get? s.heap.objs.size = some (newSet w) := Heap.get?_push_of_some _ gS
          refine ⟨(#[], 0, .fresh 0 0 (!w.params.followText "set-order")), [], Nat.le_refl 0, fun x => by simp, sx_new ?_, g0⟩
          cases w.params.followText "set-order"
          · exact .inr rfl
          · exact .inl rfl
        case end0 =>
          intro s' D m mv hm hlen F hS
          obtain ⟨h', g', d', tk', os'⟩ := s'
          have eg : g' = s.gens := mv.gens
          have ed : d' = s.drawn := mv.drawn
          have eo : os' = s.os := mv.os
          subst eg; subst ed; subst eo
          show wpAny _ _ _ _ _ _
          refine wpAny_pure ?_
          show wpAny _ _ (ret Value.none) _ _ _
          refine wpAny_pure ⟨rfl, h', tk', D, m, rfl, F, hm, by rw [← isz]; exact hlen, hS, fun b o e => ?_⟩
          have b0 : b < s.heap.objs.size := Heap.lt_size e
          have b2 : b ≠ (s.heap.push (newSet w)).objs.size := by
            rw [Heap.size_push]; exact Nat.ne_of_lt (Nat.lt_succ_of_lt b0)
          exact mv.heap b o (by simp only [List.mem_cons, List.mem_singleton, List.not_mem_nil, or_false, not_or]; exact ⟨Nat.ne_of_lt b0, b2⟩) (Heap.get?_push_of_some _ (Heap.get?_push_of_some _ e))
      · cases r₂ with
        | error e => exact hr₂
        | ok fl₂ =>
          cases fl₂ with
          | ret r =>
            obtain ⟨rfl, h', tk, D, m, rfl, F, hm, hlen, hS, hk⟩ := hr₂
            repeat (any_goals (first | assumption | wp_step))
            exact fin _ _ D m F hm hlen hS hk
          | _ => exact hr₂.elim
    | _ => exact hr.elim
set_option maxRecDepth 100000 in
theorem set_of_tuple {l : Addr} {items : Array Value} (xs : List Str) {Q : Value → Shared → Prop} (calm : A.handled = none) (hl : s.heap.IsTuple l items) (hit : StrsAre items.toList xs) (few : xs.length + 1 < scanBound)
    (fin : ∀ (h' : Heap) (tk : Nat) (D : SD) (m : List Str), SX P w D m → (∀ x, x ∈ m ↔ x ∈ xs) → m.length ≤ xs.length → h'.get? s.heap.objs.size = some (sObj "set" D) → (∀ b o, s.heap.get? b = some o → h'.get? b = some o) → Q (.ref s.heap.objs.size) { s with heap := h', toks := tk }) :
    wpAny (model P w) A (call (.type "set") [.ref l]) Q E s := by
  have isz : items.size = xs.length := by rw [← StrsAre.len_eq hit, Array.length_toList]
  obtain ⟨hd, tl, m_⟩ := PySem.F.called_set.mro
  have m1 := PySem.F.called_set.made
  have m2 := PySem.F.called_set.sub
  refine wpAny_call (codeAny_of_tree ?_)
  show wpAny _ _ (callAny (.type "set") _) _ _ _
  refine wpAny_pure ⟨Code.quiet_builtin _ (by decide +kernel), codeAny_builtin PySem.F.entry_type_call ?_⟩
  rw [Around.under_plain (weight_type_call_type "set" [.ref l] []) rfl]
  have n1 := PySem.F.called_set.notType
  have n2 := PySem.F.called_set.canCreate
  have n3 := PySem.F.typeCall_set_1 (.ref l)
  repeat (any_goals (first | assumption | wp_step))

  refine codeAny_mono (code_set_led1 (.ref l) (E := E) (Q₁ := fun x s₁ => x = .ref s.heap.objs.size ∧ s₁ = { s with heap := s.heap.push (newSet w) }) ⟨rfl, rfl⟩) fun r s₁ hr => ?_
  cases r with
  | error e => exact hr
  | ok fl =>
    cases fl with
    | ret obj =>
      obtain ⟨rfl, rfl⟩ := hr
      have gS : (s.heap.push (newSet w)).get? s.heap.objs.size = some (newSet w) := Heap.get?_push_size _ rfl
      have tS : Shared.TypeIs { s with heap := s.heap.push (newSet w) } (.ref s.heap.objs.size) "set" := ⟨_, gS, rfl⟩
      have i1 := PySem.F.called_set.init.lookup
      have i2 := PySem.F.called_set.init.bind (.ref s.heap.objs.size)
      repeat (any_goals (first | assumption | wp_step))

      refine codeAny_mono (codeAny_call_builtin (R := wants (fun r s₂ => r = .none ∧ ∃ h' tk D m, s₂ = { s with heap := h', toks := tk } ∧ SX P w D m ∧ (∀ x, x ∈ m ↔ x ∈ xs) ∧ m.length ≤ xs.length ∧
          h'.get? s.heap.objs.size = some (sObj "set" D) ∧ (∀ b o, s.heap.get? b = some o → h'.get? b = some o)) E) PySem.F.called_set.init.plain PySem.F.entry_set_init (check_set_init_1 tS ?_)) fun r₂ s₂ hr₂ => ?_
      · obtain ⟨ol, ho, hc, nl, hd⟩ := hl
        obtain ⟨cl_, dc_, dt_, sl_⟩ := ol
        simp only at hc hd
        subst hc; subst hd
        have ho' : (s.heap.push (newSet w)).get? l = some { cls := .type "tuple", dict := dc_, data := .seq items nl, slots := sl_ } := Heap.get?_push_of_some _ ho
        have s1 := PySem.F.sub_tuple_set
        have s2 := PySem.F.sub_tuple_frozenset
        have s3 : (Value.type "tuple" == Value.type "dict") = false := by decide
        have il : (s.heap.push (newSet w)).IsTuple l items := ⟨_, ho', rfl, nl, rfl⟩
        unfold Builtin.«set.__init__» noKeywords Builtin.Frozenset.updateFrom
        generalize hPI : pyIter = PI
        wp_walk
        subst hPI

        refine wpAny_pyIter_tuple il ?_
        refine wpAny_bind (wpAny_runValue ?_)
        have lS : l < s.heap.objs.size := Heap.lt_size ho
        have c3 : A.in1.in1.in1.handled = none := by simp [calm]
        have nI : l ≠ (s.heap.push (newSet w)).objs.size := by
          rw [Heap.size_push]; exact Nat.ne_of_lt (Nat.lt_succ_of_lt lS)
        have nS : s.heap.objs.size ∉ [(s.heap.push (newSet w)).objs.size, l] := by
          rw [Heap.size_push]; simp only [List.mem_cons, List.mem_singleton, List.not_mem_nil, or_false, not_or]
          exact ⟨Nat.ne_of_lt (Nat.lt_succ_self _), Nat.ne_of_gt lS⟩
        have val : ∀ (i : Nat) (v : Value), items[i]? = some v → ∃ x t, xs[i]? = some x ∧ v = .str x t := fun i v hv => by
          have hi : i < xs.length := by rw [← isz]; exact (Array.getElem?_eq_some_iff.mp hv).1
          obtain ⟨t, e⟩ := SS.strs_at hit i v (by rw [Array.getElem?_toList]; exact hv)
          refine ⟨xs[i], t, List.getElem?_eq_getElem hi, ?_⟩
          rw [e, List.getD_eq_getElem?_getD, List.getElem?_eq_getElem hi] <;> rfl
        refine set_fill ((Walks.tuple c3 _ l nI items).toS) s.heap.objs.size nS xs isz few val (items.size - 0) 0 _ (by omega) (Nat.zero_le _) ⟨⟨_, Heap.get?_push_size _ rfl, rfl, rfl⟩, (il.push _)⟩ ?at0 ?end0
        case at0 =>
          have g0 : ((s.heap.push (newSet w)).push { cls := .type "tuple_iterator", data := .fields #[.ref l, .int 0 0] }).get? s.heap.objs.size = some (newSet w) := Heap.get?_push_of_some _ gS
          refine ⟨(#[], 0, .fresh 0 0 (!w.params.followText "set-order")), [], Nat.le_refl 0, fun x => by simp, sx_new ?_, g0⟩
          cases w.params.followText "set-order"
          · exact .inr rfl
          · exact .inl rfl
        case end0 =>
          intro s' D m mv hm hlen F hS
          obtain ⟨h', g', d', tk', os'⟩ := s'
          have eg : g' = s.gens := mv.gens
          have ed : d' = s.drawn := mv.drawn
          have eo : os' = s.os := mv.os
          subst eg; subst ed; subst eo
          show wpAny _ _ _ _ _ _
          refine wpAny_pure ?_
          show wpAny _ _ (ret Value.none) _ _ _
          refine wpAny_pure ⟨rfl, h', tk', D, m, rfl, F, hm, by rw [← isz]; exact hlen, hS, fun b o e => ?_⟩
          have b0 : b < s.heap.objs.size := Heap.lt_size e
          have b2 : b ≠ (s.heap.push (newSet w)).objs.size := by
            rw [Heap.size_push]; exact Nat.ne_of_lt (Nat.lt_succ_of_lt b0)
          exact mv.heap b o (by simp only [List.mem_cons, List.mem_singleton, List.not_mem_nil, or_false, not_or]; exact ⟨Nat.ne_of_lt b0, b2⟩) (Heap.get?_push_of_some _ (Heap.get?_push_of_some _ e))
      · cases r₂ with
        | error e => exact hr₂
        | ok fl₂ =>
          cases fl₂ with
          | ret r =>
            obtain ⟨rfl, h', tk, D, m, rfl, F, hm, hlen, hS, hk⟩ := hr₂
            repeat (any_goals (first | assumption | wp_step))
            exact fin _ _ D m F hm hlen hS hk
          | _ => exact hr₂.elim
    | _ => exact hr.elim
theorem elems_strs {l : List (Int × Value)} (g : ElemsOf (strKind P w) l) : ∀ v ∈ l.map (·.2), ∃ k t, v = Value.str k t := fun v hv => by
  obtain ⟨e, he, rfl⟩ := List.mem_map.mp hv
  obtain ⟨⟨k, h1, _⟩, _⟩ := g e he
  obtain ⟨t, ev⟩ := Value.isStrOf_shape (x := k) (v := e.2) h1
  exact ⟨k, t, ev⟩
theorem strs_all : ∀ {vs : List Value}, (∀ v ∈ vs, ∃ k t, v = Value.str k t) → ∃ ks, StrsAre vs ks
  | [], _ => ⟨[], .nil⟩
  | v :: r, h => by
    obtain ⟨k, t, rfl⟩ := h v List.mem_cons_self
    obtain ⟨ks, hk⟩ := strs_all (vs := r) fun u hu => h u (List.mem_cons_of_mem _ hu)
    exact ⟨k :: ks, .cons k t hk⟩
theorem mem_strs {k : Str} : ∀ {vs : List Value} {ks : List Str}, StrsAre vs ks → (k ∈ ks ↔ ∃ t, Value.str k t ∈ vs)
  | _, _, .nil => ⟨fun h => (by cases h), fun ⟨_, h⟩ => (by cases h)⟩
  | _, _, .cons x t h => by
    rw [List.mem_cons, mem_strs h]
    constructor
    · rintro (e | ⟨u, e⟩)
      · exact ⟨t, by rw [e]; exact List.mem_cons_self⟩
      · exact ⟨u, List.mem_cons_of_mem _ e⟩
    · rintro ⟨u, e⟩
      rcases List.mem_cons.mp e with e | e
      · injection e with e1 e2
        exact .inl e1
      · exact .inr ⟨u, e⟩
/-- sorted of a set of fewer than 64 texts -/
theorem sorted_of_set {a : Addr} {D : SD} {l : List Str} {Q : Value → Shared → Prop} (ho : s.heap.get? a = some (sObj "set" D)) (F : SX P w D l) (calm : A.handled = none) (few : l.length < 64)
    (fin : ∀ s' p (out : Array Value) (c : Nat), (∀ b o, s.heap.get? b = some o → s'.heap.get? b = some o) → s'.gens = s.gens → s'.os = s.os → s.heap.objs.size ≤ p →
      s'.heap.get? p = some (seqObj "list" out c) → StrsAre out.toList (sortT l) → Q (.ref p) s') :
    wpAny (model P w) A (call (.builtin "sorted") [.ref a]) Q E s := by
  obtain ⟨es, ep, t⟩ := D
  have sz : es.size = l.length := F.ok.sz
  refine Calls.call_function_entry kind_sorted plain_sorted entry_sorted (args_sorted1 _) ?_
  unfold Builtin.«sorted»
  refine wpAny_bind (m := checkCount "sorted" 1 1 _) (wpAny_pure ?_)
  refine wpAny_bind (collect_set (A := A.in1) calm ⟨_, ho, rfl, rfl⟩ F.ok.fit (by rw [sz]; unfold scanBound; omega) F.od.1 F.od.2 fun s1 vs k1 hz g1 o1 pm => ?_)
  have vl : vs.length = l.length := by rw [pm.length_eq, List.length_map, Array.length_toList]; exact sz
  obtain ⟨ks, hS⟩ := strs_all (vs := vs) fun v hv => elems_strs F.ok.el v (pm.mem_iff.mp hv)
  have kl : ks.length = l.length := by rw [← StrsAre.len_eq hS]; exact vl
  have kp : ks.Perm l := by
    refine perm_of_len F.nd (fun x hx => ?_) (Nat.le_of_eq kl)
    obtain ⟨e, he, z⟩ := (F.ok.mem x).mp hx
    obtain ⟨t', ev⟩ := Value.isStrOf_shape (x := x) (v := e.2) z
    exact (mem_strs hS).mpr ⟨t', pm.mem_iff.mpr (List.mem_map.mpr ⟨e, he, ev⟩)⟩
  refine wpAny_bind (wpAny_newList ?_ (by rw [vl, sizeLine_eq]; omega))
  have oL : (s1.heap.push (seqObj "list" vs.toArray 0)).get? s1.heap.objs.size = some (seqObj "list" vs.toArray 0) := Heap.get?_push_size _ rfl
  refine wpAny_bind (wpAny_holding (wpAny_call_entry slot_list_sort ⟨_, oL, rfl⟩ entry_list_sort
    (list_sort_treeK strKind_oneLt oL hS.keysOf (fun v₁ v₂ rest e => keyKind_strs (by rw [← e]; exact hS)) (by rw [vl]; exact few) fun st' hp hs => ⟨_, rfl, ?_⟩) (args_list_sort _)))
  obtain ⟨ys, g2, g3, g4⟩ := sorted_out_str hS hp hs
  have ey : ys = sortT l := sortT_of (g3.trans kp) (sorted_leT g4)
  rw [ey] at g2
  obtain ⟨c, hc⟩ := sortedHeap_at (vs := vs) (out := (arrOf st').map (·.2)) oL
  refine wpAny_pure ⟨_, rfl, fin _ s1.heap.objs.size _ c (fun b u e => ?_) g1 o1 hz hc g2⟩
  have q := k1 b u e
  have lt := Heap.lt_size q
  show (sortedHeap (s1.heap.push (seqObj "list" vs.toArray 0)) s1.heap.objs.size vs _).get? b = some u
  rw [sortedHeap_old (Nat.ne_of_lt lt) (by rw [size_push']; exact Nat.lt_succ_of_lt lt)]
  exact Heap.get?_push_of_some _ q
end
/-- sorted(set(a)), a a list or a tuple of fewer than 64 texts -/
def rSortSet (K : PySem.W.Frag) : V → Hp → VK → Prop := fun x H Q => ∃ l, ∃ xs : List Str, x = .ref l ∧ (SqL K H l (xs.map V.str) ∨ SqT K H l (xs.map V.str)) ∧ xs.length < 64 ∧ ∀ p, H p = none → Q (.ref p) (upd H p (.lst ((ssetT xs).map V.str)))
def tSortSet (K : PySem.W.Frag) (ta : TE) : TE := fun σ H Q => ta σ H fun x H1 => rSortSet K x H1 Q
section
variable {X : Cx}
theorem pe_sortSet {a : Expr} {ta : TE} {p p2 q pos : Pos} (calm : X.calm = true) (hg : Gl X "sorted") (hm : X.mg "sorted" = none) (hg2 : Gl X "set") (hm2 : X.mg "set" = none) (ha : PE X a ta)
    (na : starEach [a] X.env = (false, eval a X.env) :: starEach [] X.env := by rfl) : PE X (.Call (.Name "sorted" p) [.Call (.Name "set" p2) [a] [] q] [] pos) (tSortSet X.K ta) := by
  have bs : bootBuiltins "set" = some (.type "set") := by decide +kernel
  have bo : bootBuiltins "sorted" = some (.builtin "sorted") := by decide +kernel
  refine ⟨fun pins s σ H Q I h => ?_⟩
  refine Call_ (ld_blt I hg hm bo ?_)
  refine PyProof.Rows.callWith_builtin1 (PyProof.Rows.args_cons ?_ rfl) rfl rfl
  refine Call_ (ld_blt I hg2 hm2 bs ?_)
  refine PyProof.Rows.callWith_type1 (PyProof.Rows.args_cons (thn (ha.run pins s σ H _ I h) fun v s1 ⟨x, H1, I1, r1, q1⟩ => PyProof.Rows.args_nil ?_) na) na rfl
  obtain ⟨l, xs, rfl, hq, few, q1⟩ := q1
  cases r1
  have fin : ∀ (h' : Heap) (tk : Nat) (D : SD) (m : List Str), SX X.prog X.w D m → (∀ x, x ∈ m ↔ x ∈ xs) → m.length ≤ xs.length → h'.get? s1.heap.objs.size = some (sObj "set" D) →
      (∀ b o, s1.heap.get? b = some o → h'.get? b = some o) →
      wpAny (model X.prog X.w) X.A (spliced (backTo pos (starEach [] X.env))) (fun vs s₂ => wpAny (model X.prog X.w) X.A (call (.builtin "sorted") (Value.ref s1.heap.objs.size :: vs)) (EP X pins σ Q) X.xe s₂) X.xe { s1 with heap := h', toks := tk } := fun h' tk D m F mem ml hS same => by
    refine PyProof.Rows.args_nil ?_
    have I2 : Inv X pins σ H1 { s1 with heap := h', toks := tk } := I1.kept same
    refine sorted_of_set (s := { s1 with heap := h', toks := tk }) hS F (I1.ok.hd calm) (by omega) fun s' p out c k g o hz hp hs => ?_
    have em : sortT m = ssetT xs := sortT_congr (perm_same F.nd nodup_onceL fun x => (mem x).trans mem_onceL.symm)
    rw [em] at hs
    have fresh : H1 p = none := I2.hok.fresh hz
    have len : ((ssetT xs).map V.str).length ≤ sizeLine := by
      have z : (ssetT xs).length = m.length := by rw [← em]; exact (sortT_perm m).length_eq
      rw [List.length_map, z, sizeLine_eq]
      omega
    have J : Inv X pins σ (upd H1 p (.lst ((ssetT xs).map V.str))) { ({ s1 with heap := h', toks := tk } : Shared) with heap := s'.heap, gens := s'.gens, drawn := s'.drawn, toks := s'.toks } :=
      I2.call (ch := []) (Un.laid k hz fresh) (I2.hok.laid k hz ⟨len, out.toList, c, vals_of_strs hs, hp⟩) (by rw [g]; exact I2.bare) (fun _ z => nomatch z)
    have e : s' = { ({ s1 with heap := h', toks := tk } : Shared) with heap := s'.heap, gens := s'.gens, drawn := s'.drawn, toks := s'.toks } := by
      cases s'
      cases s1
      cases o
      rfl
    rw [e]
    exact ⟨.ref p, _, J, rfl, q1 p fresh⟩
  rcases hq with hq | hq
  · obtain ⟨its, r, pl, hz⟩ := I1.list hq
    exact set_of_list xs (I1.ok.hd calm) pl.isList (by simpa using strsAre_of r) (by unfold scanBound; omega) fin
  · obtain ⟨its, r, pl, hz⟩ := I1.tuple hq
    exact set_of_tuple xs (I1.ok.hd calm) pl (by simpa using strsAre_of r) (by unfold scanBound; omega) fin
end
end L2
namespace L2
open PySem PySem.Spec PyProof.Rows Ml
section
variable {X : Cx}
theorem pe_sortSetK {a : Expr} {ta : TE} {p p2 q pos : Pos} (K : PySem.W.Frag) (calm : X.calm = true) (hg : Gl X "sorted") (hm : X.mg "sorted" = none) (hg2 : Gl X "set") (hm2 : X.mg "set" = none) (ha : PE X a ta) (hK : X.K = K := by rfl)
    (na : starEach [a] X.env = (false, eval a X.env) :: starEach [] X.env := by rfl) : PE X (.Call (.Name "sorted" p) [.Call (.Name "set" p2) [a] [] q] [] pos) (tSortSet K ta) := by
  subst hK
  exact pe_sortSet calm hg hm hg2 hm2 ha na
theorem sortedSK (K : PySem.W.Frag) (hK : X.K = K := by rfl) : CallR X (.builtin "sorted") (rSortedS K) := by subst hK; exact cr_sortedS
end
end L2
namespace Ml
open PySem PySem.Spec PyProof.Rows L2
variable {G : Gx} {σ : L2.St} {H : Hp} {L : List (Asn G)} {Q : VK} {te : TE} {D : Ends}
def sortSetK (K : PySem.W.Frag) (Q : VK) : VK := fun x H1 => rSortSet K x H1 Q
theorem c_sortSet {K : PySem.W.Frag} (h : te σ H (sortSetK K Q)) : tSortSet K te σ H Q := h
theorem k_sortSet {a : Addr} {xs : List Str} (hS : Sep H L) (hq : SqL G.K H a (xs.map (Fv.enc G)) ∨ SqT G.K H a (xs.map (Fv.enc G))) (few : xs.length < 64) (k : ∀ p H', Sep H' (lstA p (ssetT xs) :: L) → Q (.ref p) H') : sortSetK G.K Q (.ref a) H :=
  ⟨a, xs, rfl, hq, few, fun p hp => k p _ (hS.newL hp (imL_strs _))⟩
theorem imL_ofStr : ∀ {vs : List V} {ss : List Str}, imL (G := G) H vs (ss.map Any.str) → vs = ss.map V.str
  | [], [], _ => rfl
  | v :: vs, s :: ss, h => by rw [any_str.mp h.1, imL_ofStr h.2]; rfl
theorem strs_at {v : V} {x : Any} {ss : List Str} (h : Im.im G H v x) (e : x = .lst (ss.map Any.str) ∨ x = .tup (ss.map Any.str)) : ∃ a, v = .ref a ∧ (SqL G.K H a (ss.map (Fv.enc G)) ∨ SqT G.K H a (ss.map (Fv.enc G))) := by
  rcases e with e | e
  · subst e
    obtain ⟨a, vs, rfl, ⟨o, ho⟩, m⟩ := any_lsts.mp h
    rw [imL_ofStr m] at ho
    exact ⟨a, rfl, .inl (.inl (.inr ⟨o, ho⟩))⟩
  · subst e
    obtain ⟨a, vs, rfl, ho, m⟩ := any_tup.mp h
    rw [imL_ofStr m] at ho
    exact ⟨a, rfl, .inr (.inl (.inl ho))⟩
theorem k_sorted {a : Addr} {xs : List Str} (hS : Sep H L) (hq : SqL G.K H a (xs.map (Fv.enc G))) (few : xs.length < 64) (k : ∀ p H', Sep H' (lstA p (sortT xs) :: L) → Q (.ref p) H') : rSortedS G.K [.ref a] H Q :=
  ⟨a, xs, rfl, hq, few, fun ys p pm up hp => by rw [sortT_of pm (sorted_leT up)]; exact k p _ (hS.newL hp (imL_strs _))⟩
theorem Sep.rdL {α : Type} [Im G α] {i : Nat} {a : Addr} {xs : List α} (hS : Sep H L) (e : L[i]? = some (lstA a xs)) : ∃ vs, Rd H a (.lst vs) ∧ imL (G := G) H vs xs := by
  obtain ⟨vs, h, m⟩ := hS.lst e
  exact ⟨vs, .inl h, m⟩
end Ml
namespace L2
open PySem PySem.Spec PyProof.Rows PySem.W
end L2
namespace Ml
open PySem PySem.Spec PyProof.Rows L2
variable {G : Gx} {σ : L2.St} {H H' : Hp} {L L' : List (Asn G)} {Q : VK} {te td ty : TE} {D : Ends}
structure Kt where
  l : List Str
  deriving DecidableEq
def Kt.ks (k : Kt) : List Key := k.l.map Sum.inr
theorem inr_inj : ∀ {xs ys : List Str}, xs.map (Sum.inr : Str → Key) = ys.map Sum.inr → xs = ys
  | [], [], _ => rfl
  | [], _ :: _, h => by cases h
  | _ :: _, [], h => by cases h
  | x :: xs, y :: ys, h => by
    simp only [List.map_cons, List.cons.injEq] at h
    rw [Sum.inr.inj h.1, inr_inj h.2]
theorem Kt.inj {a b : Kt} (h : a.ks = b.ks) : a = b := by
  obtain ⟨xs⟩ := a
  obtain ⟨ys⟩ := b
  have : xs = ys := inr_inj h
  rw [this]
instance imKt : Im G Kt := ⟨fun H v x => ∃ a, v = .ref a ∧ H a = some (.tup (x.l.map V.str)), fun ⟨a, e, h⟩ s => ⟨a, e, s.1 a _ h rfl⟩⟩
instance : IsRef G Kt := ⟨fun h => by obtain ⟨a, e, _⟩ := h; exact ⟨a, e⟩⟩
instance : Lay Kt := ⟨fun x => layAllB x.l⟩
theorem dpStrs {K : PySem.W.Frag} : ∀ xs : List Str, DpAll K H (xs.map V.str) (xs.map PyData.str)
  | [] => .nil
  | x :: r => .cons (.str x) (dpStrs r)
theorem depStrs : ∀ xs : List Str, PyData.depthAll (xs.map PyData.str) = 0
  | [] => rfl
  | x :: r => by
    show max (PyData.depth (.str x)) (PyData.depthAll (r.map PyData.str)) = 0
    rw [depStrs r]; rfl
def pdKt (k : Kt) : PyData := .tuple (k.l.map PyData.str)
theorem canStrs : ∀ xs : List Str, layAllB xs = true → PyData.canLayAll0 (xs.map PyData.str) = true
  | [], _ => rfl
  | x :: r, h => by
    have h : (Lay.lay x && layAllB r) = true := h
    rw [Bool.and_eq_true] at h
    show ((PyData.str x).canLay0 && PyData.canLayAll0 (r.map PyData.str)) = true
    rw [canStrs r h.2, show (PyData.str x).canLay0 = true from h.1]; rfl
theorem eqvStrs : ∀ xs ys : List Str, PyData.eqvAll (xs.map PyData.str) (ys.map PyData.str) = decide (xs = ys)
  | [], [] => rfl
  | [], _ :: _ => rfl
  | _ :: _, [] => rfl
  | x :: xs, y :: ys => by
    show (PyData.eqv (.str x) (.str y) && PyData.eqvAll (xs.map PyData.str) (ys.map PyData.str)) = _
    rw [eqvStrs xs ys, show PyData.eqv (.str x) (.str y) = decide (x = y) from str_beq x y]
    simp
instance pdKtI : Pd G Kt where
  pd := pdKt
  dep := 1
  dp := fun {H v x} h => by
    obtain ⟨a, rfl, g⟩ := h
    exact .tup (SqT.of g) (dpStrs x.l)
  lay_ok := fun x h => canStrs x.l h
  dep_ok := fun x => by
    show PyData.depthAll (x.l.map PyData.str) + 1 ≤ 1
    rw [depStrs]
    exact Nat.le_refl _
  eqv := fun x y => by
    show PyData.eqvAll (x.l.map PyData.str) (y.l.map PyData.str) = _
    rw [eqvStrs]
    obtain ⟨a⟩ := x; obtain ⟨b⟩ := y
    simp
end Ml
namespace Ml
open PySem PySem.Spec PyProof.Rows L2
variable {G : Gx}
section
variable {β : Type} [Im G β]
def imDT (H : Hp) : List (List Key × V) → List (Kt × β) → Prop
  | [], [] => True
  | p :: ps, q :: qs => (p.1 = q.1.ks ∧ Im.im G H p.2 q.2 ∧ ∃ b, H b = some (.tup (q.1.ks.map kV))) ∧ imDT H ps qs
  | _, _ => False
variable {H H' : Hp}
theorem imDT.st : ∀ {ps : List (List Key × V)} {qs : List (Kt × β)}, imDT (G := G) H ps qs → Stab G H H' → imDT (G := G) H' ps qs
  | [], [], _, _ => True.intro
  | _ :: _, _ :: _, h, s => ⟨⟨h.1.1, Im.st h.1.2.1 s, by obtain ⟨b, e⟩ := h.1.2.2; exact ⟨b, s.1 b _ e rfl⟩⟩, imDT.st h.2 s⟩
  | [], _ :: _, h, _ => h
  | _ :: _, [], h, _ => h
theorem imDT.len : ∀ {ps : List (List Key × V)} {qs : List (Kt × β)}, imDT (G := G) H ps qs → ps.length = qs.length
  | [], [], _ => rfl
  | _ :: _, _ :: _, h => by rw [List.length_cons, List.length_cons, imDT.len h.2]
  | [], _ :: _, h => h.elim
  | _ :: _, [], h => h.elim
theorem kt_dec (a b : Kt) : decide (a.ks = b.ks) = decide (a = b) := by
  by_cases h : a = b
  · subst h; simp
  · have : ¬ a.ks = b.ks := fun e => h (Kt.inj e)
    simp [h, this]
theorem imDT.val : ∀ {ps : List (List Key × V)} {qs : List (Kt × β)} (k : Kt), imDT (G := G) H ps qs → (∀ y, dget qs k = some y → ∃ v, valV ps k.ks = some v ∧ Im.im G H v y) ∧ (dget qs k = none → valV ps k.ks = none)
  | [], [], _, _ => ⟨fun y e => (by cases (show (none : Option β) = some y from e)), fun _ => rfl⟩
  | p :: ps, q :: qs, k, ⟨⟨e1, e2, _⟩, h⟩ => by
    have ih := imDT.val k h
    by_cases c : q.1 = k
    · have c1 : p.1 = k.ks := by rw [e1, c]
      have d : dget (q :: qs) k = some q.2 := by simp [dget, List.find?_cons, c]
      rw [d, valV_pos c1]
      exact ⟨fun y e => ⟨p.2, rfl, by cases e; exact e2⟩, fun e => by cases e⟩
    · have c1 : ¬ p.1 = k.ks := fun z => c (Kt.inj (e1.symm.trans z))
      have d : dget (q :: qs) k = dget qs k := by simp [dget, List.find?_cons, c]
      rw [d, valV_neg c1]
      exact ih
  | [], _ :: _, _, h => h.elim
  | _ :: _, [], _, h => h.elim
theorem imDT.any : ∀ {ps : List (List Key × V)} {qs : List (Kt × β)} (k : Kt), imDT (G := G) H ps qs → (ps.any fun kv => decide (kv.1 = k.ks)) = qs.any fun kv => decide (kv.1 = k)
  | [], [], _, _ => rfl
  | p :: ps, q :: qs, k, ⟨⟨e1, _⟩, h⟩ => by
    rw [List.any_cons, List.any_cons, imDT.any k h, e1, kt_dec]
  | [], _ :: _, _, h => h.elim
  | _ :: _, [], _, h => h.elim
theorem imDT.app : ∀ {ps rs : List (List Key × V)} {qs ts : List (Kt × β)}, imDT (G := G) H ps qs → imDT (G := G) H rs ts → imDT (G := G) H (ps ++ rs) (qs ++ ts)
  | [], _, [], _, _, h => h
  | _ :: _, _, _ :: _, _, h, k => ⟨h.1, imDT.app h.2 k⟩
  | [], _, _ :: _, _, h, _ => h.elim
  | _ :: _, _, [], _, h, _ => h.elim
theorem imDT.rep : ∀ {ps : List (List Key × V)} {qs : List (Kt × β)} {k : Kt} {v : V} {y : β}, imDT (G := G) H ps qs → Im.im G H v y →
    imDT (G := G) H (ps.map fun kv => if kv.1 = k.ks then (kv.1, v) else kv) (qs.map fun kv => if kv.1 = k then (kv.1, y) else kv)
  | [], [], _, _, _, _, _ => True.intro
  | p :: ps, q :: qs, k, v, y, ⟨⟨e1, e2, e3⟩, h⟩, hv => by
    refine ⟨?_, imDT.rep h hv⟩
    dsimp only
    by_cases c : q.1 = k
    · have c1 : p.1 = k.ks := by rw [e1, c]
      rw [if_pos c, if_pos c1]; exact ⟨e1, hv, e3⟩
    · have c1 : ¬ p.1 = k.ks := fun z => c (Kt.inj (e1.symm.trans z))
      rw [if_neg c, if_neg c1]; exact ⟨e1, e2, e3⟩
  | [], _ :: _, _, _, _, h, _ => h.elim
  | _ :: _, [], _, _, _, h, _ => h.elim
theorem imDT.put {ps : List (List Key × V)} {qs : List (Kt × β)} {k : Kt} {v : V} {y : β} (h : imDT (G := G) H ps qs) (hv : Im.im G H v y) (hb : ∃ b, H b = some (.tup (k.ks.map kV))) : imDT (G := G) H (putK ps k.ks v) (dput qs k y) := by
  unfold putK dput
  rw [h.any k]
  split
  · exact h.rep hv
  · exact h.app (rs := [(k.ks, v)]) (ts := [(k, y)]) ⟨⟨rfl, hv, hb⟩, True.intro⟩
theorem imDT.at : ∀ {ps : List (List Key × V)} {qs : List (Kt × β)} {j : Nat} {k : List Key} {v : V} {x : Kt}, imDT (G := G) H ps qs → ps[j]? = some (k, v) → (qs.map (·.1))[j]? = some x → k = x.ks
  | p :: _, q :: _, 0, k, v, x, h, e1, e2 => by
    have e1 : p = (k, v) := by simpa using e1
    have e2 : q.1 = x := by simpa using e2
    have := h.1.1
    rw [e1, e2] at this
    exact this
  | _ :: ps, _ :: qs, j + 1, k, v, x, h, e1, e2 => imDT.at (ps := ps) (qs := qs) (j := j) h.2 (by simpa using e1) (by simpa using e2)
  | [], _, _, _, _, _, _, e1, _ => by simp at e1
  | _ :: _, [], _, _, _, _, h, _, _ => h.elim
variable {L L' : List (Asn G)} {σ : L2.St} {Q : VK} {te td ty tx : TE} {k : Kt} {a b : Addr} {xs : List (Kt × β)} {i : Nat}
def dgetK2 (x : V) (Q : VK) : VK := fun y H2 => ∃ a v, x = .ref a ∧ DGet H2 a y (some v) ∧ Q v H2
def dgetK (ty : TE) (σ : L2.St) (Q : VK) : VK := fun x H1 => ty σ H1 (dgetK2 x Q)
theorem c_dget (h : td σ H (dgetK ty σ Q)) : tDGet td ty σ H Q := h
theorem k_dget1 {x : V} (h : ty σ H (dgetK2 x Q)) : dgetK ty σ Q x H := h
end
end Ml
namespace Ml
open PySem PySem.Spec PyProof.Rows L2
variable {G : Gx} {σ : L2.St} {H : Hp} {M L : List (Asn G)} {Q : VK}
def bind2 {α β ρ : Type} (m : R (α × β)) (f : α → β → R ρ) : R ρ := m.bind fun t => f t.1 t.2
theorem bind2_wp {α β ρ : Type} {m : R (α × β)} {f : α → β → R ρ} {q : ρ → Prop} {e : Exc → Prop} (h : R.wp (bind2 m f) q e) : R.wp (m.bind fun t => f t.1 t.2) q e := h
theorem Ok.bind2 {α β ρ : Type} {m : R (α × β)} {f : α → β → R ρ} {P : ρ → Prop} {Z : α × β → Prop} (h : Ok m Z) (k : ∀ a b, Z (a, b) → Ok (f a b) P) : Ok (Ml.bind2 m f) P := .bind h fun r hr => k r.1 r.2 hr
section
variable {u : TT} {P : Bool → Hp → Prop} {τ ρ : Type} {A : R (τ × Bool)} {s0 : τ} {rest : τ → Bool → R ρ} {q : ρ → Prop} {e : Exc → Prop} {a : Bool}
theorem andK_T (N : τ → List (Asn G)) (hm : R.wp (bind2 (if a = true then A else .ok (s0, false)) rest) q e) (hS : Sep H (N s0))
    (h1 : a = true → ∀ q' : τ × Bool → Prop, R.wp A q' e → (∀ s b H', q' (s, b) → Sep H' (N s) → P b H') → u σ H P) (k : ∀ s b H', R.wp (rest s b) q e → Sep H' (N s) → P b H') : andK u σ P a H := by
  have hm' := R.wp_bind (bind2_wp hm)
  cases a with
  | true => exact h1 rfl _ hm' fun s b H' h hS => k s b H' h hS
  | false => exact k s0 false H hm' hS
end
section
variable {β : Type}
def ixJ (xs : List β) (i : Int) : R (Nat × β) := match ixN xs.length i with
  | some j => match xs[j]? with
    | some x => .ok (j, x)
    | none => .bad
  | none => .bad
theorem wp_ixJ {ρ : Type} {xs : List β} {i : Int} {f : Nat → β → R ρ} {q : ρ → Prop} {e : Exc → Prop} (h : R.wp (bind2 (ixJ xs i) f) q e) : ∃ j x, (ixN xs.length i = some j ∧ xs[j]? = some x) ∧ R.wp (f j x) q e := by
  unfold ixJ bind2 at h
  cases c : ixN xs.length i with
  | none => rw [c] at h; exact h.elim
  | some j =>
    rw [c] at h
    cases d : xs[j]? with
    | none => simp only [d] at h; exact h.elim
    | some x => simp only [d] at h; exact ⟨j, x, ⟨rfl, d⟩, h⟩
theorem ixK {E : Addr → β → Asn G} {a : Addr} {xs : List β} {i : Int} {j : Nat} {x : β} (hS : Sep H (listE E a xs :: M)) (h : ixN xs.length i = some j ∧ xs[j]? = some x)
    (k : ∀ ps p, ps.length = xs.length → ps[j]? = some p → Sep H (E p x :: listH E a ps xs j :: M) → Q (.ref p) H) : rIxL G.K (.ref a) (.int i) H Q := by
  obtain ⟨ps, p, hl, hp, hS⟩ := focusE hS h.2
  have h2 : Sep H (listH E a ps xs j :: E p x :: M) := hS.perm (List.Perm.swap _ _ _)
  have hc : H a = some (.lst (ps.map V.ref)) := (Sep.star1 h2).getCell (i := 0) rfl
  refine ⟨a, ps.map V.ref, i, .ref p, rfl, rfl, .inl (.inl hc), ?_, k ps p hl hp hS⟩
  unfold atI
  rw [List.length_map, hl, h.1]
  show (ps.map V.ref)[j]? = _
  rw [List.getElem?_map, hp]
  rfl
theorem set_same {xs : List β} {j : Nat} {x : β} (h : xs[j]? = some x) : xs.set j x = xs := by
  obtain ⟨h1, h2⟩ := List.getElem?_eq_some_iff.mp h
  rw [← h2]
  exact List.set_getElem_self h1
theorem unfocus0 {E : Addr → β → Asn G} {a : Addr} {xs : List β} {ps : List Addr} {j : Nat} {p : Addr} {x : β} (hl : ps.length = xs.length) (hp : ps[j]? = some p) (hx : xs[j]? = some x) (h : Sep H (E p x :: listH E a ps xs j :: M)) : Sep H (listE E a xs :: M) := by
  have := unfocusE hl hp h
  rw [set_same hx] at this
  exact this
theorem packE {E : Addr → β → Asn G} {a : Addr} {xs : List β} (ps : List Addr) (hl : ps.length = xs.length) (h : Sep H ((cell a (.lst (ps.map V.ref)) :: elemsE E (ps.zip xs)) ++ M)) : Sep H (listE E a xs :: M) :=
  Sep.exI ps (Sep.andI hl (Sep.unstar1 h))
end
end Ml
namespace L2
open PySem PySem.Spec PyProof.Rows
end L2
namespace Ml
open PySem PySem.Spec PyProof.Rows L2
variable {G : Gx}
section
variable {κ β : Type} [Kx κ] [DecidableEq κ] {H : Hp} {M L : List (Asn G)} {σ : L2.St} {Q : VK} {td ty : TE} {k : κ} {a : Addr} {kvs : List (κ × β)} {E : Addr → β → Asn G}
theorem dget_idx {κ β : Type} [DecidableEq κ] {k : κ} {kvs : List (κ × β)} {y : β} (h : dget kvs k = some y) : ∃ j : Nat, kvs[j]? = some (k, y) := by
  unfold dget at h
  obtain ⟨p, hp, e⟩ := Option.map_eq_some_iff.mp h
  have h1 := List.find?_some hp
  have h1 : p.1 = k := of_decide_eq_true h1
  obtain ⟨j, hj⟩ := List.getElem?_of_mem (List.mem_of_find?_eq_some hp)
  refine ⟨j, ?_⟩
  rw [hj, ← h1, ← e]
/-- the cell of a dict of own things -/
theorem cellE (h : Sep H (dictE E a kvs :: M)) : ∃ ps : List Addr, (ps.length = kvs.length ∧ (kvs.map (·.1)).Nodup) ∧ H a = some (.dK (refsD kvs ps)) ∧ Sep H ((cell a (.dK (refsD kvs ps)) :: elemsE E (ps.zip (kvs.map (·.2)))) ++ M) := by
  obtain ⟨ps, h⟩ := Sep.ex h
  obtain ⟨hl, h⟩ := Sep.and h
  have h := Sep.star1 h
  exact ⟨ps, hl, h.getCell (i := 0) rfl, h⟩
theorem refs_keys : ∀ {kvs : List (κ × β)} {ps : List Addr}, ps.length = kvs.length → (refsD kvs ps).map (·.1) = kvs.map fun q => Kx.key q.1
  | [], [], _ => rfl
  | kv :: kvs, p :: ps, h => by
    unfold refsD
    rw [List.zipWith_cons_cons, List.map_cons, List.map_cons]
    have := refs_keys (kvs := kvs) (ps := ps) (by simpa using h)
    unfold refsD at this
    rw [this]
  | [], _ :: _, h => by cases h
  | _ :: _, [], h => by cases h
def setE (kvs : List (κ × β)) (k : κ) (z : β) : List (κ × β) := if dhas kvs k = true then kvs else kvs ++ [(k, z)]
theorem dhas_no {κ β : Type} [DecidableEq κ] {k : κ} {kvs : List (κ × β)} (h : dget kvs k = none) : ¬ k ∈ kvs.map (·.1) := fun m => by
  obtain ⟨p, hp, e⟩ := List.mem_map.mp m
  unfold dget at h
  have h := Option.map_eq_none_iff.mp h
  have := List.find?_eq_none.mp h p hp
  exact this (decide_eq_true e)
end
end Ml
namespace L2
open PySem PySem.Spec PyProof.Rows
def Dsp (P : Program) (w : World) (K : PySem.W.Frag) (mg : Str → Option Value) (base : Heap) (CX : CXT) (k : Nat) (fam : Nat → Bool) (cl : Nat → Addr) (m : Str) (ps : List Str) (sp : Nat → Sp) : Prop :=
  ∀ i, fam i = true → ∃ f fd, Cls K (cl i) ∧ Meth K (cl i) m f ∧ Binds K fd ps [] ∧ FnOk P w K mg base CX k f fd ps (sp i)
theorem Dsp.mono {P : Program} {w : World} {K : PySem.W.Frag} {mg : Str → Option Value} {base : Heap} {CX : CXT} {j k : Nat} {fam : Nat → Bool} {cl : Nat → Addr} {m : Str} {ps : List Str} {sp : Nat → Sp} (D : Dsp P w K mg base CX j fam cl m ps sp) (h : j ≤ k) : Dsp P w K mg base CX k fam cl m ps sp := fun i hi => by
  obtain ⟨f, fd, a, b, c, F⟩ := D i hi
  exact ⟨f, fd, a, b, c, F.mono h⟩
end L2
namespace L2
open PySem PySem.Spec PyProof.Rows
end L2
namespace Ml
open PySem PySem.Spec PyProof.Rows L2
end Ml
namespace Ml
open PySem PySem.Spec PyProof.Rows L2
variable {G : Gx} {σ : L2.St} {H : Hp} {L L' : List (Asn G)} {Q : VK} {te : TE} {D : Ends}
section
variable {τ ρ : Type}
def whileN : Nat → (τ → Bool) → (τ → R τ) → τ → R τ
  | 0, _, _, _ => .bad
  | n + 1, c, f, s => if c s = true then (f s).bind (whileN n c f) else .ok s
theorem k_whileN {n : Nat} {c : τ → Bool} {f : τ → R τ} {s : τ} {rest : τ → R ρ} {q : ρ → Prop} {e : Exc → Prop} {tc : TT} {tb : TS} (I : τ → L2.St → Hp → Prop) (h0 : I s σ H) (hm : R.wp ((whileN n c f s).bind rest) q e)
    (test : ∀ s σ H, I s σ H → Et tc σ H (c s))
    (turn : ∀ s σ H (q' : τ → Prop) (N : L2.St → Hp → Prop), I s σ H → R.wp (f s) q' e → (∀ s' σ' H', q' s' → I s' σ' H' → N σ' H') → tb (loopD D N D.nx) σ H)
    (done : ∀ s σ H, R.wp (rest s) q e → I s σ H → D.nx σ H) : tWhile tc tb D σ H := by
  refine ⟨fun m σ H => ∃ s, I s σ H ∧ R.wp (whileN m c f s) (fun s => R.wp (rest s) q e) e, ⟨n, s, h0, R.wp_bind hm⟩, ?_⟩
  rintro m σ H ⟨s, hI, hw⟩
  cases m with
  | zero => exact hw.elim
  | succ m =>
    refine test s σ H hI _ ?_
    unfold whileN at hw
    cases h : c s with
    | false =>
      rw [h, if_neg Bool.false_ne_true] at hw
      rw [if_neg Bool.false_ne_true]
      exact done s σ H hw hI
    | true =>
      rw [h, if_pos rfl] at hw
      rw [if_pos rfl]
      exact ⟨fun σ' H' => ∃ s', I s' σ' H' ∧ R.wp (whileN m c f s') (fun s => R.wp (rest s) q e) e, fun σ' H' z => ⟨m, Nat.lt_succ_self _, z⟩,
        turn s σ H _ _ hI (R.wp_bind hw) fun s' σ' H' h1 h2 => ⟨s', h2, h1⟩⟩
end
theorem R.wp_ifY {α : Type} {c : Prop} [Decidable c] {a b : R α} {q : α → Prop} {e : Exc → Prop} (h : R.wp (if c then a else b) q e) (x : c) : R.wp a q e := (R.wp_if h).1 x
theorem R.wp_ifN {α : Type} {c : Prop} [Decidable c] {a b : R α} {q : α → Prop} {e : Exc → Prop} (h : R.wp (if c then a else b) q e) (x : ¬ c) : R.wp b q e := (R.wp_if h).2 x
section
variable {κ β : Type} [DecidableEq κ] [Kx κ] [Im G β]
def dispEnd (p : Addr) (Q : VK) : List (V × V) → Hp → Prop := fun ps H2 => H2 p = some (.dK []) ∧ ∃ kvs : List (Key × V), ps = kvs.map (fun kv => (kV kv.1, kv.2)) ∧ kvs.length ≤ 15 ∧ Q (.ref p) (upd H2 p (.dK (mergeK [] kvs)))
def dispK (trs : List (TE × TE)) (σ : L2.St) (H : Hp) (Q : VK) : Prop := ∀ p, H p = none → tPairs trs σ (upd H p (.dK [])) (dispEnd p Q)
theorem c_disp {trs : List (TE × TE)} (h : dispK trs σ H Q) : tDisp trs σ H Q := h
def prK2 (x : V) (r : List (TE × TE)) (σ : L2.St) (Z : List (V × V) → Hp → Prop) : VK := fun y H2 => tPairs r σ H2 fun ps H3 => Z ((x, y) :: ps) H3
def prK1 (tv : TE) (r : List (TE × TE)) (σ : L2.St) (Z : List (V × V) → Hp → Prop) : VK := fun x H1 => tv σ H1 (prK2 x r σ Z)
theorem pr_cons {tk tv : TE} {r : List (TE × TE)} {Z : List (V × V) → Hp → Prop} (h : tk σ H (prK1 tv r σ Z)) : tPairs ((tk, tv) :: r) σ H Z := h
theorem pr_1 {tv : TE} {r : List (TE × TE)} {Z : List (V × V) → Hp → Prop} {x : V} (h : tv σ H (prK2 x r σ Z)) : prK1 tv r σ Z x H := h
theorem pr_2 {r : List (TE × TE)} {Z : List (V × V) → Hp → Prop} {x y : V} (h : tPairs r σ H fun ps H3 => Z ((x, y) :: ps) H3) : prK2 x r σ Z y H := h
theorem pr_nil {Z : List (V × V) → Hp → Prop} (h : Z [] H) : tPairs [] σ H Z := h
theorem k_disp {trs : List (TE × TE)} (hS : Sep H L) (k : ∀ p H', Sep H' (dictA p ([] : List (κ × β)) :: L) → tPairs trs σ H' (dispEnd p Q)) : dispK trs σ H Q := fun p np => k p _ (hS.newD np)
def mergeD (kvs more : List (κ × β)) : List (κ × β) := more.foldl (fun acc kv => dput acc kv.1 kv.2) kvs
theorem imD.merge : ∀ {ps : List (Key × V)} {qs : List (κ × β)} {as : List (Key × V)} {bs : List (κ × β)}, imD (G := G) H ps qs → imD (G := G) H as bs → imD (G := G) H (mergeK as ps) (mergeD bs qs)
  | [], [], _, _, _, h => h
  | p :: ps, q :: qs, as, bs, ⟨⟨e1, e2⟩, h⟩, k => by
    show imD H (mergeK (putK as p.1 p.2) ps) (mergeD (dput bs q.1 q.2) qs)
    rw [e1]
    exact imD.merge h (k.put e2)
  | [], _ :: _, _, _, h, _ => h.elim
  | _ :: _, [], _, _, h, _ => h.elim
theorem k_dispEnd {i : Nat} {p : Addr} {ps : List (V × V)} {kvs : List (Key × V)} {qs : List (κ × β)} (hS : Sep H L) (e : L[i]? = some (dictA p ([] : List (κ × β)))) (ep : ps = kvs.map fun kv => (kV kv.1, kv.2)) (m : imD (G := G) H kvs qs) (few : kvs.length ≤ 15)
    (e2 : L.set i (dictA p (mergeD [] qs)) = L') (k : ∀ H', Sep H' L' → Q (.ref p) H') : dispEnd p Q ps H := by
  obtain ⟨us, h0, mu⟩ := hS.dict e
  have eu : us = [] := List.length_eq_zero_iff.mp (mu.len)
  subst eu
  refine ⟨h0, kvs, ep, few, k _ ?_⟩
  subst e2
  exact hS.putD e (m.merge (as := []) (bs := []) True.intro)
end
end Ml
namespace Ml
open PySem PySem.Spec PyProof.Rows L2
end Ml
namespace Ml
open PySem PySem.Spec PyProof.Rows L2
end Ml
namespace Ml
open PySem L2
end Ml
namespace Ml
open PySem PySem.Spec PyProof.Rows L2
end Ml
namespace L2
open PySem PySem.Spec PyProof.Rows
end L2
namespace Ml
open PySem PySem.Spec PyProof.Rows L2
end Ml
namespace Ml
open PySem L2
end Ml
namespace L2
open PySem PySem.Spec PyProof.Rows
end L2
namespace Ml
open PySem L2
end Ml
namespace L2
open PySem PySem.Spec PyProof.Rows
end L2
namespace Ml
open PySem L2
end Ml
namespace Ml
open PySem L2
def repL {α : Type} (xs : List α) (n : Nat) : List α := (List.replicate n xs).flatten
section
variable {G : Gx} {H : Hp} {L : List (Asn G)} {Q : VK} {α : Type} [Im G α]
theorem imL_app2 : ∀ {us vs : List V} {xs ys : List α}, imL (G := G) H us xs → imL (G := G) H vs ys → imL (G := G) H (us ++ vs) (xs ++ ys)
  | [], _, [], _, _, h => h
  | _ :: _, _, _ :: _, _, h, k => ⟨h.1, imL_app2 h.2 k⟩
theorem imL_rep {vs : List V} {xs : List α} (h : imL (G := G) H vs xs) : ∀ n : Nat, imL (G := G) H (List.replicate n vs).flatten (repL xs n)
  | 0 => True.intro
  | n + 1 => by
    unfold repL
    rw [List.replicate_succ, List.flatten_cons, List.replicate_succ, List.flatten_cons]
    exact imL_app2 h (imL_rep h n)
theorem k_rep {i : Nat} {a : Addr} {xs : List α} {k : Int} (hS : Sep H L) (e : L[i]? = some (lstA a xs)) (h1 : -(2 ^ 62) ≤ k ∧ k < 2 ^ 62) (hz : xs.length * k.toNat ≤ sizeLine) (kk : ∀ p H', Sep H' (lstA p (repL xs k.toNat) :: L) → Q (.ref p) H') : rRep (.ref a) (.int k) H Q := by
  obtain ⟨vs, h, m⟩ := hS.lst e
  exact ⟨a, k, vs, rfl, rfl, h, by omega, by omega, by rw [m.len]; exact hz, fun p hp => kk p _ (hS.newL hp (imL_rep m _))⟩
end
end Ml
namespace L2
open PySem PySem.Spec PyProof.Rows
end L2
namespace Ml
open PySem L2
end Ml
namespace Ml
open PySem L2
end Ml
namespace Ml
open PySem PySem.Spec PyProof.Rows L2
end Ml
namespace Ml
open PySem PySem.Spec PyProof.Rows L2
/-- a tuple, its values told -/
structure TupV where
  vs : List V
section
variable {G : Gx} {α β : Type} {H : Hp} {L M : List (Asn G)} {Q : VK} {p : Addr}
instance imTupV : Im G TupV := ⟨fun H v x => ∃ a, v = .ref a ∧ H a = some (.tup x.vs), fun ⟨a, e, h⟩ s => ⟨a, e, s.1 a _ h rfl⟩⟩
variable [Im G α] [Im G β]
end
end Ml
namespace Ml
open PySem PySem.Spec PyProof.Rows L2
end Ml
namespace Ml
open PySem L2
/-- a field, within a comprehension: its fragment told -/
theorem pe_fldK {X : Cx} {e : Expr} {f : Str} {pos : Pos} {ta : TE} (K : PySem.W.Frag) (he : PE X e ta) (hb : attributeBase e f X.env (eval e X.env) = eval e X.env := by rfl) (hK : X.K = K := by rfl) : PE X (.Attribute e f pos) (tFld K ta f) := by
  subst hK; exact pe_fld he hb
end Ml
namespace Ml
open PySem PySem.Spec PyProof.Rows L2
variable {G : Gx}
section
variable {κ β : Type} [DecidableEq κ] [Kx κ] [Im G β] {H : Hp} {L L' : List (Asn G)} {σ : L2.St} {Q : VK} {te td ty tx : TE} {k : κ} {a : Addr} {xs : List (κ × β)} {i : Nat}
def get2K (ty tx : TE) (σ : L2.St) (Q : VK) : VK := fun x H1 => ∃ a, x = .ref a ∧ IsD H1 a ∧ ty σ H1 fun y H2 => tx σ H2 fun z H3 => ∃ o, DGet H3 a y o ∧ Q (o.getD z) H3
def get2K2 (a : Addr) (tx : TE) (σ : L2.St) (Q : VK) : VK := fun y H2 => tx σ H2 fun z H3 => ∃ o, DGet H3 a y o ∧ Q (o.getD z) H3
def get2K3 (a : Addr) (y : V) (Q : VK) : VK := fun z H3 => ∃ o, DGet H3 a y o ∧ Q (o.getD z) H3
theorem c_dget2 (h : td σ H (get2K ty tx σ Q)) : tDGet2 td ty tx σ H Q := h
theorem k_get2a (d : IsD H a) (h : ty σ H (get2K2 a tx σ Q)) : get2K ty tx σ Q (.ref a) H := ⟨a, rfl, d, h⟩
theorem k_get2b {y : V} (h : tx σ H (get2K3 a y Q)) : get2K2 a tx σ Q y H := h
def pop1K (ty : TE) (σ : L2.St) (Q : VK) : VK := fun x H1 => ∃ a, x = .ref a ∧ IsD H1 a ∧ ty σ H1 fun y H2 => ∃ kvs k v, H2 a = some (.dK kvs) ∧ y = kV k ∧ valV kvs k = some v ∧ Q v (upd H2 a (.dK (dropK kvs k)))
def pop1K2 (a : Addr) (Q : VK) : VK := fun y H2 => ∃ kvs k v, H2 a = some (.dK kvs) ∧ y = kV k ∧ valV kvs k = some v ∧ Q v (upd H2 a (.dK (dropK kvs k)))
theorem c_dpop1 (h : td σ H (pop1K ty σ Q)) : tDPop1 td ty σ H Q := h
theorem k_pop1a (d : IsD H a) (h : ty σ H (pop1K2 a Q)) : pop1K ty σ Q (.ref a) H := ⟨a, rfl, d, h⟩
theorem k_pop1A {y : β} (hS : Sep H L) (e : L[i]? = some (dictA a xs)) (h : dget xs k = some y) (e2 : L.set i (dictA a (ddrop xs k)) = L') (q : ∀ v H', Sep H' (imA v y :: L') → Q v H') : pop1K2 a Q (kV (Kx.key k)) H := by
  obtain ⟨ps, hp, m⟩ := hS.dict e
  obtain ⟨v, hv, hm⟩ := (m.val k).1 y h
  refine ⟨ps, Kx.key k, v, hp, rfl, hv, q v _ ?_⟩
  subst e2
  have h1 := (hS.addIm hm).putD (i := i + 1) (a := a) (xs := xs) (ys := ddrop xs k) (ps := dropK ps (Kx.key k)) (by simpa using e) (m.drop k)
  simpa using h1
def setdK (ty tx : TE) (σ : L2.St) (Q : VK) : VK := fun x H1 => ∃ a, x = .ref a ∧ IsD H1 a ∧ ty σ H1 fun y H2 => tx σ H2 fun z H3 => ∃ (kvs : List (Key × V)) (k : Key), H3 a = some (.dK kvs) ∧ y = kV k ∧ kvs.length < sizeLine ∧
  (∀ v, valV kvs k = some v → Q v H3) ∧ (valV kvs k = none → Q z (upd H3 a (.dK (putK kvs k z))))
def setdK2 (a : Addr) (tx : TE) (σ : L2.St) (Q : VK) : VK := fun y H2 => tx σ H2 fun z H3 => ∃ (kvs : List (Key × V)) (k : Key), H3 a = some (.dK kvs) ∧ y = kV k ∧ kvs.length < sizeLine ∧
  (∀ v, valV kvs k = some v → Q v H3) ∧ (valV kvs k = none → Q z (upd H3 a (.dK (putK kvs k z))))
def setdK3 (a : Addr) (y : V) (Q : VK) : VK := fun z H3 => ∃ (kvs : List (Key × V)) (k : Key), H3 a = some (.dK kvs) ∧ y = kV k ∧ kvs.length < sizeLine ∧
  (∀ v, valV kvs k = some v → Q v H3) ∧ (valV kvs k = none → Q z (upd H3 a (.dK (putK kvs k z))))
theorem c_dsetd (h : td σ H (setdK ty tx σ Q)) : tDSetd td ty tx σ H Q := h
theorem k_setda (d : IsD H a) (h : ty σ H (setdK2 a tx σ Q)) : setdK ty tx σ Q (.ref a) H := ⟨a, rfl, d, h⟩
theorem k_setdb {y : V} (h : tx σ H (setdK3 a y Q)) : setdK2 a tx σ Q y H := h
end
section
variable {κ β : Type} [DecidableEq κ] [Kx κ] {H : Hp} {M : List (Asn G)} {σ : L2.St} {Q : VK} {te td ty tx : TE} {k : κ} {a : Addr} {kvs : List (κ × β)} {E : Addr → β → Asn G}
/-- the dict's own cell (locked or not), and all it holds -/
def dictX (u : HO → HO) (E : Addr → β → Asn G) (a : Addr) (ps : List Addr) (kvs : List (κ × β)) : Asn G := star (cell a (u (.dK (refsD kvs ps))) :: elemsE E (ps.zip (kvs.map (·.2))))
def dictXH (u : HO → HO) (E : Addr → β → Asn G) (a : Addr) (ps : List Addr) (kvs : List (κ × β)) (j : Nat) : Asn G := star (cell a (u (.dK (refsD kvs ps))) :: elemsE E ((ps.zip (kvs.map (·.2))).eraseIdx j))
theorem refs_get {ps : List Addr} {j : Nat} {y : β} (hl : ps.length = kvs.length) (hn : (kvs.map (·.1)).Nodup) (hj : kvs[j]? = some (k, y)) : ∃ p, ps[j]? = some p ∧ valV (refsD kvs ps) (Kx.key k) = some (.ref p) := by
  have hlt : j < kvs.length := (List.getElem?_eq_some_iff.mp hj).1
  have hp : ps[j]? = some ps[j] := List.getElem?_eq_getElem (by omega)
  exact ⟨ps[j], hp, refs_val hl hn hj hp⟩
theorem refs_none {ps : List Addr} (hl : ps.length = kvs.length) (h : dget kvs k = none) : valV (refsD kvs ps) (Kx.key k) = none := by
  induction kvs generalizing ps with
  | nil => cases ps <;> rfl
  | cons kv r ih =>
    cases ps with
    | nil => rfl
    | cons p ps =>
      have hk : ¬ kv.1 = k := fun e => by
        unfold dget at h
        rw [List.find?_cons_of_pos (by simpa using e)] at h
        cases h
      have h2 : dget r k = none := by
        unfold dget at h ⊢
        rw [List.find?_cons_of_neg (by simpa using hk)] at h
        exact h
      have hk2 : ¬ Kx.key kv.1 = Kx.key k := fun e => hk (Kx.inj e)
      show valV ((Kx.key kv.1, V.ref p) :: refsD r ps) (Kx.key k) = none
      rw [valV_neg hk2]
      exact ih (by simpa using hl) h2
theorem dictE_X (h : Sep H (dictE E a kvs :: M)) : ∃ ps, (ps.length = kvs.length ∧ (kvs.map (·.1)).Nodup) ∧ Sep H (dictX id E a ps kvs :: M) := by
  obtain ⟨ps, h⟩ := Sep.ex h
  obtain ⟨hl, h⟩ := Sep.and h
  exact ⟨ps, hl, h⟩
theorem dictX_E {ps : List Addr} (hl : ps.length = kvs.length ∧ (kvs.map (·.1)).Nodup) (h : Sep H (dictX id E a ps kvs :: M)) : Sep H (dictE E a kvs :: M) := Sep.exI ps (Sep.andI hl h)
theorem dictX_cell {u : HO → HO} {ps : List Addr} (h : Sep H (dictX u E a ps kvs :: M)) : H a = some (u (.dK (refsD kvs ps))) := (Sep.star1 h).getCell (i := 0) rfl
theorem dictE_cell (h : Sep H (dictE E a kvs :: M)) : ∃ ps, (ps.length = kvs.length ∧ (kvs.map (·.1)).Nodup) ∧ H a = some (.dK (refsD kvs ps)) := by
  obtain ⟨ps, hl, h⟩ := dictE_X h
  exact ⟨ps, hl, dictX_cell h⟩
theorem isD_E (h : Sep H (dictE E a kvs :: M)) : IsD H a := by
  obtain ⟨ps, _, hc⟩ := dictE_cell h
  exact .inl ⟨_, .inl hc⟩
theorem outX {u : HO → HO} {ps : List Addr} {j : Nat} {y : β} {p : Addr} (h : Sep H (dictX u E a ps kvs :: M)) (hj : kvs[j]? = some (k, y)) (hp : ps[j]? = some p) : Sep H (E p y :: dictXH u E a ps kvs j :: M) := by
  have h := Sep.star1 h
  have hz : (ps.zip (kvs.map (·.2)))[j]? = some (p, y) := by
    rw [List.getElem?_zip_eq_some]; exact ⟨hp, by rw [List.getElem?_map, hj]; rfl⟩
  have hz2 : (elemsE E (ps.zip (kvs.map (·.2))))[j]? = some (E p y) := by unfold elemsE; rw [List.getElem?_map, hz]; rfl
  have e : (elemsE E (ps.zip (kvs.map (·.2)))).eraseIdx j = elemsE E ((ps.zip (kvs.map (·.2))).eraseIdx j) := by unfold elemsE; rw [erase_map]
  have P := perm_out hz2
  rw [e] at P
  have h2 : Sep H (E p y :: ((cell a (u (.dK (refsD kvs ps))) :: elemsE E ((ps.zip (kvs.map (·.2))).eraseIdx j)) ++ M)) := by
    refine h.perm ?_
    have := (P.symm.cons (cell (G := G) a (u (.dK (refsD kvs ps))))).append_right M
    exact this.trans (by exact List.Perm.swap _ _ _)
  have h3 : Sep H ((cell a (u (.dK (refsD kvs ps))) :: elemsE E ((ps.zip (kvs.map (·.2))).eraseIdx j)) ++ (E p y :: M)) := h2.perm (List.perm_middle.symm)
  exact (Sep.unstar1 h3).perm (List.Perm.swap _ _ _)
theorem set_keys {j : Nat} {y z : β} (hj : kvs[j]? = some (k, y)) : (kvs.set j (k, z)).map (·.1) = kvs.map (·.1) := by
  have hlt : j < kvs.length := (List.getElem?_eq_some_iff.mp hj).1
  have hget : kvs[j] = (k, y) := by rw [List.getElem?_eq_getElem hlt] at hj; exact Option.some.inj hj
  rw [List.map_set]
  have : (kvs.map (·.1))[j]'(by simpa using hlt) = k := by rw [List.getElem_map, hget]
  rw [← this]
  exact List.set_getElem_self _
theorem refs_same : ∀ {l l' : List (κ × β)} {qs : List Addr}, l.map (·.1) = l'.map (·.1) → refsD l qs = refsD l' qs
  | [], [], _, _ => rfl
  | x :: l, y :: l', [], _ => rfl
  | x :: l, y :: l', q :: qs, h => by
    rw [List.map_cons, List.map_cons] at h
    injection h with h1 h2
    show (Kx.key x.1, V.ref q) :: refsD l qs = (Kx.key y.1, V.ref q) :: refsD l' qs
    rw [h1, refs_same h2]
  | [], _ :: _, _, h => by simp at h
  | _ :: _, [], _, h => by simp at h
theorem inX {u : HO → HO} {ps : List Addr} {j : Nat} {y z : β} {p : Addr} (hl : ps.length = kvs.length ∧ (kvs.map (·.1)).Nodup) (hj : kvs[j]? = some (k, y)) (hp : ps[j]? = some p) (h : Sep H (E p z :: dictXH u E a ps kvs j :: M)) : Sep H (dictX u E a ps (dput kvs k z) :: M) := by
  rw [put_at hl.2 hj]
  have hlt : j < kvs.length := (List.getElem?_eq_some_iff.mp hj).1
  have er : refsD (kvs.set j (k, z)) ps = refsD kvs ps := refs_same (set_keys hj)
  have ez : (kvs.set j (k, z)).map (·.2) = (kvs.map (·.2)).set j z := by rw [List.map_set]
  have h2 : Sep H (dictXH u E a ps kvs j :: (E p z :: M)) := h.perm (List.Perm.swap _ _ _)
  have h3 := Sep.star1 h2
  have hz : (ps.zip ((kvs.set j (k, z)).map (·.2)))[j]? = some (p, z) := by
    rw [ez, List.getElem?_zip_eq_some]
    exact ⟨hp, by rw [List.getElem?_set_self (by simpa using hlt)]⟩
  have hz2 : (elemsE E (ps.zip ((kvs.set j (k, z)).map (·.2))))[j]? = some (E p z) := by unfold elemsE; rw [List.getElem?_map, hz]; rfl
  have e : (elemsE E (ps.zip ((kvs.set j (k, z)).map (·.2)))).eraseIdx j = elemsE E ((ps.zip (kvs.map (·.2))).eraseIdx j) := by
    unfold elemsE
    rw [erase_map, ez, zip_hole (by rw [List.length_map]; exact hl.1)]
  have P := perm_out hz2
  rw [e] at P
  unfold dictX
  rw [er]
  refine Sep.unstar1 (h3.perm ?_)
  have q1 : ((cell a (u (.dK (refsD kvs ps))) :: elemsE E ((ps.zip (kvs.map (·.2))).eraseIdx j)) ++ (E p z :: M)).Perm (E p z :: ((cell a (u (.dK (refsD kvs ps))) :: elemsE E ((ps.zip (kvs.map (·.2))).eraseIdx j)) ++ M)) := List.perm_middle
  refine q1.trans ?_
  have := (P.cons (cell (G := G) a (u (.dK (refsD kvs ps))))).append_right M
  exact (List.Perm.swap _ _ _).trans this
theorem keys_put {j : Nat} {y z : β} (hn : (kvs.map (·.1)).Nodup) (hj : kvs[j]? = some (k, y)) : (dput kvs k z).map (·.1) = kvs.map (·.1) := by rw [put_at hn hj, set_keys hj]
/-- d[k], an own thing: taken out -/
theorem k_dgetE (h : Sep H (dictE E a kvs :: M)) {y : β} (hk : dget kvs k = some y) (q : ∀ ps p j, (ps.length = kvs.length ∧ (kvs.map (·.1)).Nodup) → kvs[j]? = some (k, y) → ps[j]? = some p → Sep H (E p y :: dictXH id E a ps kvs j :: M) → Q (.ref p) H) : dgetK2 (.ref a) Q (kV (Kx.key k)) H := by
  obtain ⟨ps, hl, h⟩ := dictE_X h
  obtain ⟨j, hj⟩ := dget_idx hk
  obtain ⟨p, hp, e⟩ := refs_get hl.1 hl.2 hj
  exact ⟨a, .ref p, rfl, .inl ⟨_, Kx.key k, .inl (dictX_cell h), rfl, e.symm⟩, q ps p j hl hj hp (outX h hj hp)⟩
theorem unfocDE {ps : List Addr} {j : Nat} {y z : β} {p : Addr} (hl : ps.length = kvs.length ∧ (kvs.map (·.1)).Nodup) (hj : kvs[j]? = some (k, y)) (hp : ps[j]? = some p) (h : Sep H (E p z :: dictXH id E a ps kvs j :: M)) : Sep H (dictE E a (dput kvs k z) :: M) :=
  dictX_E ⟨by rw [hl.1, ← List.length_map (·.1), ← keys_put (z := z) hl.2 hj, List.length_map], by rw [keys_put hl.2 hj]; exact hl.2⟩ (inX hl hj hp h)
theorem put_same {j : Nat} {y : β} (hn : (kvs.map (·.1)).Nodup) (hj : kvs[j]? = some (k, y)) : dput kvs k y = kvs := by
  rw [put_at hn hj]
  obtain ⟨h1, h2⟩ := List.getElem?_eq_some_iff.mp hj
  rw [← h2]; exact List.set_getElem_self h1
theorem unfocDE0 {ps : List Addr} {j : Nat} {y : β} {p : Addr} (hl : ps.length = kvs.length ∧ (kvs.map (·.1)).Nodup) (hj : kvs[j]? = some (k, y)) (hp : ps[j]? = some p) (h : Sep H (E p y :: dictXH id E a ps kvs j :: M)) : Sep H (dictE E a kvs :: M) := by
  have := unfocDE hl hj hp h
  rw [put_same hl.2 hj] at this; exact this
theorem drop_map {γ : Type} (f : κ × β → γ) : ∀ {l : List (κ × β)} {j : Nat} {y : β}, (l.map (·.1)).Nodup → l[j]? = some (k, y) → ddrop l k = l.eraseIdx j
  | [], _, _, _, h => by simp at h
  | x :: r, 0, y, hn, h => by
    have e : x = (k, y) := by simpa using h
    rw [List.map_cons, List.nodup_cons] at hn
    unfold ddrop
    rw [List.filter_cons_of_neg (by simp [e])]
    refine List.filter_eq_self.mpr fun z hz => ?_
    have : z.1 ≠ k := fun ez => hn.1 (by rw [e]; exact List.mem_map.mpr ⟨z, hz, ez⟩)
    simpa using this
  | x :: r, j + 1, y, hn, h => by
    have h2 : r[j]? = some (k, y) := by simpa using h
    rw [List.map_cons, List.nodup_cons] at hn
    have ne : x.1 ≠ k := fun z => hn.1 (by rw [z]; exact List.mem_map.mpr ⟨(k, y), List.mem_of_getElem? h2, rfl⟩)
    have ih := drop_map f hn.2 h2
    unfold ddrop at ih ⊢
    rw [List.filter_cons_of_pos (by simpa using ne), ih]
    rfl
theorem dropK_refs : ∀ {l : List (κ × β)} {qs : List Addr} {j : Nat} {y : β}, qs.length = l.length → (l.map (·.1)).Nodup → l[j]? = some (k, y) → dropK (refsD l qs) (Kx.key k) = refsD (l.eraseIdx j) (qs.eraseIdx j)
  | [], _, _, _, _, _, h => by simp at h
  | x :: r, [], _, _, hl, _, _ => by simp at hl
  | x :: r, q :: qs, 0, y, hl, hn, h => by
    have e : x = (k, y) := by simpa using h
    rw [List.map_cons, List.nodup_cons] at hn
    show dropK ((Kx.key x.1, V.ref q) :: refsD r qs) (Kx.key k) = refsD r qs
    unfold dropK
    rw [List.filter_cons_of_neg (by simp [e])]
    refine List.filter_eq_self.mpr fun z hz => ?_
    have : z.1 ∈ r.map (fun kv => Kx.key kv.1) := by
      have : ∀ {l : List (κ × β)} {qs : List Addr} {z : Key × V}, z ∈ refsD l qs → z.1 ∈ l.map (fun kv => Kx.key kv.1) := by
        intro l
        induction l with
        | nil => intro qs z hz; cases qs <;> cases hz
        | cons a l ih =>
          intro qs z hz
          cases qs with
          | nil => cases hz
          | cons b qs =>
            rcases List.mem_cons.mp (show z ∈ (Kx.key a.1, V.ref b) :: refsD l qs from hz) with rfl | hz
            · simp
            · rw [List.map_cons]; exact List.mem_cons_of_mem _ (ih hz)
      exact this hz
    obtain ⟨w, hw, ew⟩ := List.mem_map.mp this
    have : z.1 ≠ Kx.key k := fun ez => hn.1 (by rw [e]; exact List.mem_map.mpr ⟨w, hw, Kx.inj (ew.trans ez)⟩)
    simpa using this
  | x :: r, q :: qs, j + 1, y, hl, hn, h => by
    have h2 : r[j]? = some (k, y) := by simpa using h
    rw [List.map_cons, List.nodup_cons] at hn
    have ne : x.1 ≠ k := fun z => hn.1 (by rw [z]; exact List.mem_map.mpr ⟨(k, y), List.mem_of_getElem? h2, rfl⟩)
    have ne2 : ¬ Kx.key x.1 = Kx.key k := fun z => ne (Kx.inj z)
    have ih := dropK_refs (l := r) (qs := qs) (by simpa using hl) hn.2 h2
    show dropK ((Kx.key x.1, V.ref q) :: refsD r qs) (Kx.key k) = (Kx.key x.1, V.ref q) :: refsD (r.eraseIdx j) (qs.eraseIdx j)
    unfold dropK at ih ⊢
    rw [List.filter_cons_of_pos (by simpa using ne2), ih]
theorem zip_erase {α γ : Type} : ∀ {l : List α} {m : List γ} {j : Nat}, l.length = m.length → (l.zip m).eraseIdx j = (l.eraseIdx j).zip (m.eraseIdx j)
  | [], [], _, _ => rfl
  | x :: l, y :: m, 0, _ => rfl
  | x :: l, y :: m, j + 1, h => by
    show (x, y) :: (l.zip m).eraseIdx j = (x, y) :: (l.eraseIdx j).zip (m.eraseIdx j)
    rw [zip_erase (by simpa using h)]
  | [], _ :: _, _, h => by simp at h
  | _ :: _, [], _, h => by simp at h
/-- d.pop(k), an own thing -/
theorem k_pop1E (h : Sep H (dictE E a kvs :: M)) {y : β} (hk : dget kvs k = some y) (q : ∀ p H', Sep H' (E p y :: dictE E a (ddrop kvs k) :: M) → Q (.ref p) H') : pop1K2 a Q (kV (Kx.key k)) H := by
  obtain ⟨ps, hl, h⟩ := dictE_X h
  obtain ⟨j, hj⟩ := dget_idx hk
  obtain ⟨p, hp, e⟩ := refs_get hl.1 hl.2 hj
  refine ⟨refsD kvs ps, Kx.key k, .ref p, dictX_cell h, rfl, e, q p _ ?_⟩
  have h2 : Sep H (dictXH id E a ps kvs j :: E p y :: M) := (outX h hj hp).perm (List.Perm.swap _ _ _)
  have h3 := Sep.star1 h2
  have h4 := h3.put (i := 0) (a := a) (o := .dK (refsD kvs ps)) (o' := .dK (dropK (refsD kvs ps) (Kx.key k))) rfl rfl rfl
  have ed : ddrop kvs k = kvs.eraseIdx j := drop_map (fun z => z) hl.2 hj
  have lj : j < kvs.length := (List.getElem?_eq_some_iff.mp hj).1
  have er := dropK_refs hl.1 hl.2 hj
  rw [er] at h4 ⊢
  rw [ed]
  refine Sep.perm (Sep.exI (ps.eraseIdx j) (Sep.andI ⟨by rw [List.length_eraseIdx, List.length_eraseIdx, hl.1], ?_⟩ (Sep.unstar1 ?_)) : Sep _ (dictE E a (kvs.eraseIdx j) :: E p y :: M)) (List.Perm.swap _ _ _)
  · rw [← erase_map]
    exact hl.2.sublist (List.eraseIdx_sublist ..)
  · have ez : (ps.eraseIdx j).zip ((kvs.eraseIdx j).map (·.2)) = (ps.zip (kvs.map (·.2))).eraseIdx j := by
      rw [← erase_map, zip_erase (by rw [List.length_map]; exact hl.1)]
    rw [ez]
    exact h4
theorem k_newE' (h : Sep H (dictE E a kvs :: E p y :: M)) (hk : dhas kvs k = false) (hz : kvs.length < sizeLine) {P : Hp → Prop} (q : ∀ H', Sep H' (dictE E a (kvs ++ [(k, y)]) :: M) → P H') : rSetD (.ref a) (kV (Kx.key k)) (.ref p) H P :=
  k_newE h (fun hm => by
    obtain ⟨z, hz, e⟩ := List.mem_map.mp hm
    unfold dhas dget at hk
    rw [Option.isSome_map] at hk
    have : (kvs.find? fun kv => decide (kv.1 = k)).isSome = true := List.find?_isSome.mpr ⟨z, hz, by simpa using e⟩
    rw [this] at hk; cases hk) hz q
theorem newE0 {p : Addr} (hp : H p = none) (hS : Sep H M) : Sep (upd H p (.dK [])) (dictE E p ([] : List (κ × β)) :: M) :=
  Sep.exI [] (Sep.andI ⟨rfl, List.nodup_nil⟩ (Sep.unstar1 (L := [cell p (.dK [])]) (hS.new (o := .dK []) hp rfl)))
theorem k_dnewE (hS : Sep H M) (q : ∀ p H', Sep H' (dictE E p ([] : List (κ × β)) :: M) → Q (.ref p) H') : tDNewK σ H Q := fun p hp => q p _ (newE0 hp hS)
end
section
variable {β : Type} {H : Hp} {L : List (Asn G)} {Q : VK} {a : Addr} {i : Nat}
def rSortD : List V → Hp → VK → Prop := fun xs H Q => ∃ (a : Addr) (kvs : List (Key × V)) (ks : List Str), xs = [.ref a] ∧ Rd H a (.dK kvs) ∧ kvs.map (·.1) = ks.map Sum.inr ∧ ks.length < 64 ∧
    ∀ ys p, ys.Perm ks → sortedS ys = true → H p = none → Q (.ref p) (upd H p (.lst (ys.map V.str)))
theorem cr_sortD {X : Cx} (hc : X.calm = true) : CallR X (.builtin "sorted") rSortD := call_sortedD hc
theorem refs_keysS : ∀ {kvs : List (Str × β)} {ps : List Addr}, ps.length = kvs.length → (refsD kvs ps).map (·.1) = (kvs.map (·.1)).map Sum.inr
  | [], ps, _ => by cases ps <;> rfl
  | x :: r, p :: ps, h => by
    show Sum.inr x.1 :: (refsD r ps).map (·.1) = Sum.inr x.1 :: (r.map (·.1)).map Sum.inr
    rw [refs_keysS (by simpa using h)]
  | _ :: _, [], h => by simp at h
theorem k_sortRd {ks : List (Key × V)} {ss : List Str} (hS : Sep H L) (hc : Rd H a (.dK ks)) (e : ks.map (·.1) = ss.map Sum.inr) (h : ss.length < 64) (k : ∀ p H', Sep H' (lstA p (sortT ss) :: L) → Q (.ref p) H') : rSortD [.ref a] H Q :=
  ⟨a, ks, ss, rfl, hc, e, h, fun ys p pm srt hp => k p _ (hS.newL hp (imL.flat.mpr (by rw [sortT_of pm (sorted_leT srt)]; rfl)))⟩
theorem k_sortDA [Im G β] {xs : List (Str × β)} (hS : Sep H L) (e : L[i]? = some (dictA a xs)) (h : xs.length < 64) (k : ∀ p H', Sep H' (lstA p (sortT (xs.map (·.1))) :: L) → Q (.ref p) H') : rSortD [.ref a] H Q := by
  obtain ⟨ps, hc, m⟩ := hS.dict e
  exact k_sortRd hS (.inl hc) (by rw [m.keys, List.map_map]; rfl) (by rw [List.length_map]; exact h) k
end
section
variable {β : Type} [Im G β] {H : Hp} {L L' : List (Asn G)} {Q : VK} {a b : Addr} {i : Nat} {xs : List (Kt × β)} {k : Kt}
theorem imDT.drop : ∀ {ps : List (List Key × V)} {qs : List (Kt × β)} (k : Kt), imDT (G := G) H ps qs → imDT (G := G) H (dropK ps k.ks) (ddrop qs k)
  | [], [], _, _ => True.intro
  | p :: ps, q :: qs, k, ⟨⟨e1, e2⟩, h⟩ => by
    have ih := imDT.drop k h
    unfold dropK ddrop at ih ⊢
    rw [List.filter_cons, List.filter_cons]
    by_cases c : q.1 = k
    · have c1 : p.1 = k.ks := by rw [e1, c]
      simp only [c, c1, ne_eq, not_true_eq_false, decide_false, Bool.false_eq_true, if_false]
      exact ih
    · have c1 : ¬ p.1 = k.ks := fun z => c (Kt.inj (e1.symm.trans z))
      simp only [c, c1, ne_eq, not_false_eq_true, decide_true, if_true]
      exact ⟨⟨e1, e2⟩, ih⟩
  | [], _ :: _, _, h => h.elim
  | _ :: _, [], _, h => h.elim
end
end Ml
namespace Ml
open PySem PySem.W PySem.Calls PyProof.Rows PyProof.V PySem.Spec
end Ml
namespace Ml
open PySem PySem.Spec PyProof.Rows L2 L2.DX
end Ml
namespace Ml
open PySem PySem.Spec PyProof.Rows L2
variable {G : Gx}
section
variable {κ β : Type} [DecidableEq κ] [Kx κ] {H : Hp} {L : List (Asn G)} {σ : L2.St} {Q : VK} {td ty : TE} {k : κ} {a : Addr} {i : Nat} {kvs : List (κ × β)} {E : Addr → β → Asn G}
theorem sat_front {A : Asn G} (h : Sep H L) (e : L[i]? = some A) : ∃ M, Sep H (A :: M) := ⟨_, h.perm (pull_perm e)⟩
theorem Sep.cellE (h : Sep H L) (e : L[i]? = some (dictE E a kvs)) : ∃ ps : List Addr, (ps.length = kvs.length ∧ (kvs.map (·.1)).Nodup) ∧ H a = some (.dK (refsD kvs ps)) := by
  obtain ⟨M, h⟩ := sat_front h e
  exact dictE_cell h
theorem isD_Ei (h : Sep H L) (e : L[i]? = some (dictE E a kvs)) : IsD H a := by
  obtain ⟨M, h⟩ := sat_front h e
  exact isD_E h
theorem wp_dgetX {ρ β : Type} {kvs : List (κ × β)} {q : ρ → Prop} {e : Exc → Prop} {f : β → R ρ} (h : R.wp ((dgetR kvs k).bind f) q e) : ∃ y, dget kvs k = some y ∧ R.wp (f y) q e := by
  unfold dgetR at h
  cases c : dget kvs k with
  | none => rw [c] at h; exact h.elim
  | some y => rw [c] at h; exact ⟨y, rfl, h⟩
end
section
variable {β : Type} {H : Hp} {L : List (Asn G)} {a : Addr} {i : Nat} {kvs : List (Str × β)} {E : Addr → β → Asn G} {Q : VK}
theorem k_sortDEi (hS : Sep H L) (e : L[i]? = some (dictE E a kvs)) (h : kvs.length < 64) (k : ∀ p H', Sep H' (lstA p (sortT (kvs.map (·.1))) :: L) → Q (.ref p) H') : rSortD [.ref a] H Q := by
  obtain ⟨ps, hl, hc⟩ := hS.cellE e
  exact k_sortRd hS (.inl hc) (refs_keysS hl.1) (by rw [List.length_map]; exact h) k
end
end Ml
namespace Ml
open PySem PySem.Spec PyProof.Rows L2
variable {G : Gx} {H : Hp} {L L' : List (Asn G)}
def fldaugK (K : PySem.W.Frag) (tv : TE) (rd : V → V → Hp → VK → Prop) (f : Str) (D : Ends) (σ : L2.St) : VK := fun x H1 => ∃ a C dx fs v, x = .ref a ∧ H1 a = some (.ins C dx fs) ∧ Cls K C ∧ NoAttr K C f ∧ fs.lookup f = some v ∧
  tv σ H1 fun y H2 => rd v y H2 fun z H3 => ∃ dx' fs', H3 a = some (.ins C dx' fs') ∧ fs'.length < 1000 ∧ D.nx σ (upd H3 a (.ins C dx' (putF f z fs')))
theorem c_fldaug {K : PySem.W.Frag} {ta tv : TE} {rd : V → V → Hp → VK → Prop} {f : Str} {D : Ends} {σ : L2.St} (h : ta σ H (fldaugK K tv rd f D σ)) : sFldAug K ta tv rd f D σ H := h
theorem k_fldaug2 {a C dx : Addr} {i : Nat} {fs fs' : List (Str × V)} {f : Str} {z : V} {D : Ends} {σ : L2.St} (hS : Sep H L) (e : L[i]? = some (cell a (.ins C dx fs))) (hl : fs.length < 1000) (np : per G (.ins C dx fs') = false) (ef : putF f z fs = fs')
    (k : ∀ H', Sep H' (L.set i (cell a (.ins C dx fs'))) → D.nx σ H') : ∃ dx' fs'', H a = some (.ins C dx' fs'') ∧ fs''.length < 1000 ∧ D.nx σ (upd H a (.ins C dx' (putF f z fs''))) := by
  refine ⟨dx, fs, hS.getCell e, hl, ?_⟩
  rw [ef]
  exact k _ (hS.put e np rfl)
end Ml
namespace Ml
open PySem PySem.Spec PyProof.Rows L2
end Ml
namespace Ml
open PySem PySem.Spec PyProof.Rows L2
variable {G : Gx}
theorem m1 {X : Cx} {o : Expr} {m : Str} {apos : Pos} {e : Expr} {cpos : Pos} (base : attributeBase o m X.env (eval o X.env) = eval o X.env := by rfl)
  (few : ((backTo cpos (starEach [e] X.env)).all (fun x => !x.1) && (backToKw cpos (keywordEach [] X.env)).all (fun x => x.1.isSome)
    && decide (([e] : List Expr).length + ([] : List Keyword).length + (if ([] : List Keyword).isEmpty then 0 else 1) < 30)) = true := by rfl)
  (line : (apos.endLine == cpos.line) = true := by rfl) (trees : backTo cpos (starEach [e] X.env) = [(false, eval e X.env)] := by rfl) : M1 X o m apos e cpos := ⟨base, few, line, trees⟩
end Ml
namespace Ml
open PySem PySem.Spec PyProof.Rows L2
end Ml
namespace Ml
open PySem PySem.Spec PyProof.Rows L2
end Ml
namespace Ml
open PySem PySem.Spec PyProof.Rows L2
end Ml
namespace Ml
open PySem PySem.Spec PyProof.Rows L2
structure Opq where
variable {G : Gx} {H : Hp}
instance imOpq : Im G Opq := ⟨fun _ _ _ => True, fun _ _ => trivial⟩
end Ml
namespace L2
open PySem PySem.Spec PyProof.Rows Ml
end L2
namespace Ml
open PySem PySem.Spec PyProof.Rows L2
end Ml
namespace Ml
open PySem PySem.Spec PyProof.Rows L2
end Ml
namespace Ml
open PySem PySem.Spec PyProof.Rows L2
def hasA {β : Type} (xs : List (Str × β)) : Any → R Bool
  | .str s => .ok (dhas xs s)
  | .int _ => .ok false
  | .non => .ok false
  | _ => .bad
theorem wp_hasA {β ρ : Type} {xs : List (Str × β)} {x : Any} {f : Bool → R ρ} {q : ρ → Prop} {e : Exc → Prop} (h : R.wp ((hasA xs x).bind f) q e) : ∃ b, hasA xs x = .ok b ∧ R.wp (f b) q e := by
  cases x with
  | str s => exact ⟨_, rfl, h⟩
  | int i => exact ⟨_, rfl, h⟩
  | non => exact ⟨_, rfl, h⟩
  | _ => exact h.elim
section
variable {G : Gx} {β : Type} [Im G β] {H : Hp} {L : List (Asn G)} {i : Nat} {a : Addr} {xs : List (Str × β)} {v : V} {x : Any} {b : Bool} {td ty : TE} {σ : L2.St}
theorem valV_no : ∀ {ps : List (Key × V)} {k : Key}, ¬ k ∈ ps.map (·.1) → valV ps k = none := fun {ps k} h => by
  cases c : valV ps k with
  | none => rfl
  | some y =>
    exfalso
    have : (ps.any fun kv => decide (kv.1 = k)) = true := by rw [valV_any, c]; rfl
    obtain ⟨p, hp, e⟩ := List.any_eq_true.mp this
    exact h (List.mem_map.mpr ⟨p, hp, of_decide_eq_true e⟩)
theorem has_at (hS : Sep H L) (e : L[i]? = some (dictA a xs)) (hv : Im.im G H v x) (h : hasA xs x = .ok b) : (∃ o : Option V, DGet H a v o ∧ o.isSome = b) ∨ ∃ kvs, v = .non ∧ Rd H a (.dK kvs) ∧ b = false := by
  cases x with
  | str s =>
    have hv : v = .str s := any_str.mp hv
    subst hv
    have h : dhas xs s = b := by injection h
    obtain ⟨r, g, h1, h2⟩ := dget_at hS e (k := s) rfl
    refine .inl ⟨r, g, ?_⟩
    rw [← h]; unfold dhas
    cases c : dget xs s with
    | none => rw [h2 c]; rfl
    | some y => obtain ⟨v, e, _⟩ := h1 y c; rw [e]; rfl
  | int j =>
    have hv : v = .int j := any_int.mp hv
    subst hv
    have h : false = b := by injection h
    obtain ⟨ps, hp, m⟩ := hS.dict e
    refine .inl ⟨none, .inl ⟨ps, .inl j, .inl hp, rfl, (valV_no fun q => ?_).symm⟩, h⟩
    rw [m.keys] at q
    obtain ⟨z, _, hz⟩ := List.mem_map.mp q
    cases hz
  | non =>
    have hv : v = .non := any_non.mp hv
    subst hv
    have h : false = b := by injection h
    obtain ⟨ps, hp, m⟩ := hS.dict e
    exact .inr ⟨ps, rfl, .inl hp, h.symm⟩
  | _ => cases h
theorem ev_dniN (hS : Sep H L) (e : L[i]? = some (dictA a xs)) (hv : Im.im G H v x) (h : hasA xs x = .ok b) (hy : Ev ty σ H v) (hd : Ev td σ H (.ref a)) : Ev (tDNotInN ty td) σ H (.bl (!b)) := fun Q q => hy _ (hd _ (by
  rcases has_at hS e hv h with ⟨o, g, rfl⟩ | ⟨ps, rfl, g, rfl⟩
  · exact .inl ⟨a, o, rfl, g, q⟩
  · exact .inr ⟨a, ps, rfl, rfl, g, q⟩))
end
end Ml
namespace Ml
open PySem PySem.Spec PyProof.Rows L2
end Ml
namespace Ml
open PySem PySem.Spec PyProof.Rows L2
section
variable {G : Gx} {κ β : Type} [DecidableEq κ] [Kx κ] {H : Hp} {M : List (Asn G)} {a : Addr} {kvs : List (κ × β)} {k : κ} {E : Addr → β → Asn G} {Q : VK}
theorem newX_sep {ps : List Addr} {p : Addr} {y : β} (hl : ps.length = kvs.length ∧ (kvs.map (·.1)).Nodup) (hk : ¬ k ∈ kvs.map (·.1)) (h : Sep H ((cell a (.dK (refsD kvs ps)) :: elemsE E (ps.zip (kvs.map (·.2)))) ++ (E p y :: M))) :
    ((ps ++ [p]).length = (kvs ++ [(k, y)]).length ∧ ((kvs ++ [(k, y)]).map (·.1)).Nodup) ∧ Sep (upd H a (.dK (putK (refsD kvs ps) (Kx.key k) (.ref p)))) (dictX id E a (ps ++ [p]) (kvs ++ [(k, y)]) :: M) := by
  have h2 := h.put (i := 0) (a := a) (o := .dK (refsD kvs ps)) (o' := .dK (putK (refsD kvs ps) (Kx.key k) (.ref p))) rfl rfl rfl
  refine ⟨⟨by rw [List.length_append, List.length_append, hl.1]; rfl, ?_⟩, Sep.unstar1 ?_⟩
  · rw [List.map_append, List.nodup_append]
    refine ⟨hl.2, by simp, fun x hx z hz => ?_⟩
    rw [List.map_singleton, List.mem_singleton] at hz
    intro e
    have hz : z = k := hz
    exact hk (by rw [← hz, ← e]; exact hx)
  · have e1 : elemsE E ((ps ++ [p]).zip ((kvs ++ [(k, y)]).map (·.2))) = elemsE E (ps.zip (kvs.map (·.2))) ++ [E p y] := by
      unfold elemsE
      rw [List.map_append, List.zip_append (by rw [List.length_map]; exact hl.1), List.map_append]
      rfl
    rw [e1, ← refs_new (y := y) hl.1 hk]
    have : ((cell a (.dK (putK (refsD kvs ps) (Kx.key k) (.ref p))) :: elemsE E (ps.zip (kvs.map (·.2)))) ++ (E p y :: M)) = ((cell a (.dK (putK (refsD kvs ps) (Kx.key k) (.ref p))) :: (elemsE E (ps.zip (kvs.map (·.2))) ++ [E p y])) ++ M) := by simp
    show Sep _ ((cell a (.dK (putK (refsD kvs ps) (Kx.key k) (.ref p))) :: (elemsE E (ps.zip (kvs.map (·.2))) ++ [E p y])) ++ M)
    rw [← this]
    exact h2
theorem k_setdE3 {p0 : Addr} {z : β} (h : Sep H (dictE E a kvs :: E p0 z :: M)) (hz : kvs.length < sizeLine)
    (q : ∀ ps p j H', (ps.length = (setE kvs k z).length ∧ ((setE kvs k z).map (·.1)).Nodup) → (setE kvs k z)[j]? = some (k, (dget kvs k).getD z) → ps[j]? = some p → Sep H' (E p ((dget kvs k).getD z) :: dictXH id E a ps (setE kvs k z) j :: M) → Q (.ref p) H') :
    setdK3 a (kV (Kx.key k)) Q (.ref p0) H := by
  obtain ⟨ps, hl, h⟩ := dictE_X h
  refine ⟨refsD kvs ps, Kx.key k, dictX_cell h, rfl, by rw [refs_len hl.1]; exact hz, fun v hv => ?_, fun hv => ?_⟩
  · cases e : dget kvs k with
    | none => rw [refs_none hl.1 e] at hv; cases hv
    | some y =>
      obtain ⟨j, hj⟩ := dget_idx e
      have eE : setE kvs k z = kvs := by unfold setE dhas; rw [e]; rfl
      obtain ⟨p, hp, e2⟩ := refs_get hl.1 hl.2 hj
      rw [e2] at hv
      cases hv
      rw [e, eE] at q
      exact q ps p j H hl hj hp (outX (Sep.tail (h.perm (List.Perm.swap _ _ _))) hj hp)
  · cases e : dget kvs k with
    | some y =>
      exfalso
      obtain ⟨j, hj⟩ := dget_idx e
      obtain ⟨p, hp, e2⟩ := refs_get hl.1 hl.2 hj
      rw [e2] at hv; cases hv
    | none =>
      have eE : setE kvs k z = kvs ++ [(k, z)] := by unfold setE dhas; rw [e]; rfl
      obtain ⟨hl2, h2⟩ := newX_sep (k := k) hl (dhas_no e) (Sep.star1 h)
      have hj : (kvs ++ [(k, z)])[kvs.length]? = some (k, z) := by simp
      have hp : (ps ++ [p0])[kvs.length]? = some p0 := by rw [← hl.1]; simp
      rw [e, eE] at q
      exact q (ps ++ [p0]) p0 kvs.length _ hl2 hj hp (outX h2 hj hp)
end
end Ml
namespace Ml
open PySem PySem.Spec PyProof.Rows L2
end Ml
namespace Ml
open PySem PySem.Spec PyProof.Rows L2
theorem map_same {κ : Type} [DecidableEq κ] {k : κ} {v : V} : ∀ {ks : List (κ × V)}, (ks.map (·.1)).Nodup → valV ks k = some v → ks.map (fun kv => if kv.1 = k then (kv.1, v) else kv) = ks
  | [], _, _ => rfl
  | p :: r, nd, h => by
    rw [List.map_cons, List.nodup_cons] at nd
    rw [List.map_cons]
    by_cases e : p.1 = k
    · rw [valV_pos e] at h
      have hv : p.2 = v := Option.some.inj h
      have hr : r.map (fun kv => if kv.1 = k then (kv.1, v) else kv) = r := by
        refine (List.map_congr_left fun q hq => ?_).trans (List.map_id r)
        have : ¬ q.1 = k := fun z => nd.1 (by rw [e, ← z]; exact List.mem_map.mpr ⟨q, hq, rfl⟩)
        rw [if_neg this]; rfl
      rw [if_pos e, hr, ← hv]
    · rw [valV_neg e] at h
      rw [if_neg e, map_same nd.2 h]
theorem putK_same {κ : Type} [DecidableEq κ] {k : κ} {v : V} {ks : List (κ × V)} (nd : (ks.map (·.1)).Nodup) (h : valV ks k = some v) : putK ks k v = ks := by
  unfold putK
  rw [if_pos (by rw [valV_any, h]; rfl), map_same nd h]
theorem upd_id {H : Hp} {a : Addr} {o : HO} (h : H a = some o) : upd H a o = H := by
  funext b
  by_cases e : b = a
  · subst e; rw [upd_same, h]
  · simp [upd, e]
section
variable {G : Gx} {κ α : Type} [DecidableEq κ] [Kx κ] [Im G α] {H : Hp} {M : List (Asn G)} {a b : Addr} {kvs : List (κ × List α)} {k : κ} {td ty tv : TE} {σ : L2.St} {D : Ends}
theorem k_daugE {y ys : List α} (h : Sep H (dictE lstA a kvs :: lstA b ys :: M)) (hd : Ev td σ H (.ref a)) (hy : Ev ty σ H (kV (Kx.key k))) (hv : Ev tv σ H (.ref b)) (hk : dget kvs k = some y) (hz : kvs.length < sizeLine) (hs : y.length + ys.length ≤ sizeLine)
    (q : ∀ H', Sep H' (dictE lstA a (dput kvs k (y ++ ys)) :: lstA b ys :: M) → D.nx σ H') : sDAug td ty tv rExt2 D σ H := by
  obtain ⟨ps, hl, h⟩ := dictE_X h
  obtain ⟨j, hj⟩ := dget_idx hk
  obtain ⟨p, hp, e⟩ := refs_get hl.1 hl.2 hj
  have hc := dictX_cell h
  have h1 := outX h hj hp
  obtain ⟨vs, hvs, m1⟩ := h1.lst (i := 0) rfl
  obtain ⟨ws, hws, m2⟩ := h1.lst (i := 2) rfl
  refine hd _ (hy _ ⟨a, .ref p, rfl, .inl ⟨_, Kx.key k, .inl hc, rfl, e.symm⟩, hv _ ⟨p, b, vs, ws, rfl, rfl, hvs, hws, by rw [m1.len, m2.len]; exact hs, ?_⟩⟩)
  have h2 : Sep (upd H p (.lst (vs ++ ws))) (lstA p (y ++ ys) :: dictXH id lstA a ps kvs j :: lstA b ys :: M) := h1.putL (i := 0) (ys := y ++ ys) rfl (m1.app m2)
  have hc2 : upd H p (.lst (vs ++ ws)) a = some (.dK (refsD kvs ps)) := (Sep.star1 (h2.perm (List.Perm.swap _ _ _))).getCell (i := 0) rfl
  have nd : ((refsD kvs ps).map (·.1)).Nodup := by
    rw [refs_keys hl.1]
    have : kvs.map (fun q => (Kx.key q.1 : Key)) = (kvs.map (·.1)).map Kx.key := by rw [List.map_map]; rfl
    rw [this]
    exact List.pairwise_map.mpr (hl.2.imp fun ne e => ne (Kx.inj e))
  refine ⟨_, .inl ⟨refsD kvs ps, Kx.key k, hc2, rfl, by rw [refs_len hl.1]; exact hz, rfl⟩, ?_⟩
  rw [putK_same nd e, upd_id hc2]
  exact q _ (unfocDE hl hj hp h2)
end
end Ml
namespace Ml
open PySem PySem.Spec PyProof.Rows L2
theorem inV_int (x : Int) : ∀ ys : List Int, inV (.int x) (ys.map V.int) = decide (x ∈ ys)
  | [] => rfl
  | y :: ys => by
    have ih := inV_int x ys
    unfold inV at ih ⊢
    rw [List.map_cons, List.any_cons, ih]
    have e : eqV (.int y) (.int x) = decide (y = x) := by
      show (y == x) = _
      rfl
    rw [e]
    by_cases h : y = x
    · subst h; simp
    · have h' : ¬ x = y := fun q => h q.symm
      simp [h, h']
theorem flat_int : ∀ ys : List Int, (ys.map V.int).all flatV = true
  | [] => rfl
  | y :: ys => by rw [List.map_cons, List.all_cons, flat_int ys]; rfl
section
variable {G : Gx} {H : Hp} {L : List (Asn G)} {i : Nat} {a : Addr} {ta tb : TE} {σ : L2.St}
theorem ev_inLI {x : Int} {ys : List Int} (hS : Sep H L) (e : L[i]? = some (lstA a ys)) (ha : Ev ta σ H (.int x)) (hb : Ev tb σ H (.ref a)) : Ev (tOp (rIn G.K false) ta tb) σ H (.bl (decide (x ∈ ys))) := ev_op ha hb fun Q q =>
  ⟨a, ys.map V.int, rfl, .inl (hS.sqF e), rfl, flat_int ys, by
    show Q (.bl (inV (.int x) (ys.map V.int))) H
    rw [inV_int]; exact q⟩
end
end Ml
namespace L2
open PySem PySem.Spec PyProof.Rows
def eqkS (k : Str) (v : Value) : Bool := match v with
  | .str s _ => s.cps.toList == k.cps.toList
  | _ => false
theorem eqkS_gives {k : Str} {t : Tok} : ∀ {ns : List Str} {us : List Value}, Vals (ns.map V.str) us → ∀ y ∈ us, MeetsSeq.EqGives y (.str k t) (eqkS k y)
  | [], us, r => fun y hy => by cases r; cases hy
  | n :: ns, us, r => fun y hy => by
    cases r with
    | cons h1 h2 =>
      obtain ⟨t', rfl⟩ := h1
      rcases List.mem_cons.mp hy with rfl | e
      · exact SeqRoads2.EqGives.str n k t' t
      · exact eqkS_gives h2 y e
theorem valsS_get : ∀ {ns : List Str} {us : List Value} {j : Nat} {s : Str}, Vals (ns.map V.str) us → ns[j]? = some s → ∃ t, us[j]? = some (.str s t)
  | [], _, j, s, _, h => by cases h
  | n :: ns, us, j, s, r, h => by
    cases r with
    | cons h1 h2 =>
      cases j with
      | zero =>
        obtain ⟨t, rfl⟩ := h1
        cases h
        exact ⟨t, rfl⟩
      | succ j => exact valsS_get (j := j) h2 h
theorem erase_mapS : ∀ (l : List Str) (j : Nat), (l.map V.str).eraseIdx j = (l.eraseIdx j).map V.str
  | [], j => by simp
  | a :: r, 0 => by simp
  | a :: r, j + 1 => by
    have ih := erase_mapS r j
    simp [ih]
theorem cps_beq {a b : Str} : (a.cps.toList == b.cps.toList) = decide (a = b) := by
  by_cases h : a = b
  · subst h; simp
  · rw [decide_eq_false h]
    refine beq_eq_false_iff_ne.mpr fun e => h ?_
    cases a; cases b
    simp only at e
    congr 1
    exact Array.toList_inj.mp e
section
variable {X : Cx}
def rRemS : V → List V → Hp → VK → Prop := fun x xs H Q => ∃ (l : Addr) (ns : List Str) (k : Str) (j : Nat), x = .ref l ∧ xs = [.str k] ∧ H l = some (.lst (ns.map V.str)) ∧ ns[j]? = some k ∧ (∀ m : Nat, m < j → ns[m]? ≠ some k) ∧ Q .non (upd H l (.lst ((ns.eraseIdx j).map V.str)))
theorem mt_removeS : MtM X "list.remove" rRemS := by
  intro pins s σ H x xs v us Q I rx rxs h
  obtain ⟨l, ns, k, j, rfl, rfl, hH, hj, hno, q⟩ := h
  cases rx
  obtain ⟨u, rfl, ru⟩ := rxs.one
  obtain ⟨t, rfl⟩ := ru
  obtain ⟨z, its, n, r, hl, e⟩ := I.lstM hH
  have hrl := r.length
  rw [List.length_map] at hl z hrl
  have hjn : j < ns.length := (List.getElem?_eq_some_iff.mp hj).1
  have hjl : j < its.toArray.size := by rw [List.size_toArray]; omega
  refine call_meets PySem.F.slot_list_remove ⟨_, e, rfl⟩ PySem.F.entry_list_remove (PySem.F.args_list_remove_2 _ _)
    (MeetsSeq.list_remove l its.toArray n (.str k t) (eqkS k) (fun y hy => eqkS_gives r y (by simpa using hy)) j hjl ?_ ?_ (by rw [List.size_toArray]; omega)) ⟨e, ?_⟩
  · obtain ⟨tj, hjt⟩ := valsS_get r hj
    obtain ⟨h1, h2⟩ := List.getElem?_eq_some_iff.mp hjt
    have e1 : its.toArray[j] = .str k tj := by simpa using h2
    rw [e1]
    show (k.cps.toList == k.cps.toList) = true
    rw [cps_beq]; exact decide_eq_true rfl
  · intro m hm hmj
    have hmn : m < ns.length := by omega
    obtain ⟨tm, hmt⟩ := valsS_get r (List.getElem?_eq_getElem hmn)
    obtain ⟨h1, h2⟩ := List.getElem?_eq_some_iff.mp hmt
    have e1 : its.toArray[m] = .str ns[m] tm := by simpa using h2
    rw [e1]
    show (ns[m].cps.toList == k.cps.toList) = false
    rw [cps_beq]
    exact decide_eq_false fun e2 => hno m hmj (by rw [List.getElem?_eq_getElem hmn, e2])
  · have rr := r.eraseIdx j
    rw [erase_mapS] at rr
    refine ⟨.non, _, I.lset (its' := its.eraseIdx j) (t' := s.toks) hH e ?_ rr ?_, rfl, q⟩
    · show its.toArray.eraseIdxIfInBounds j = (its.eraseIdx j).toArray
      rw [List.eraseIdxIfInBounds_toArray]
    · have z2 : (ns.eraseIdx j).length ≤ ns.length := List.length_eraseIdx_le ns j
      rw [List.length_map]
      omega
end
end L2
namespace Ml
open PySem PySem.Spec PyProof.Rows L2
section
variable {G : Gx} {H : Hp} {L L' : List (Asn G)} {i : Nat} {a : Addr} {Q : VK}
def remS (xs : List Str) (x : Str) : List Str := xs.eraseIdx (xs.findIdx fun y => decide (y = x))
theorem imL_strV : ∀ {vs : List V} {xs : List Str}, imL (G := G) H vs xs → vs = xs.map V.str
  | [], [], _ => rfl
  | v :: vs, x :: xs, h => by
    have h1 : v = .str x := h.1
    rw [h1, imL_strV h.2]; rfl
  | [], _ :: _, h => h.elim
  | _ :: _, [], h => h.elim
theorem k_removeS {xs : List Str} {x : Str} (hS : Sep H L) (e : L[i]? = some (lstA a xs)) (hx : x ∈ xs) (e2 : L.set i (lstA a (remS xs x)) = L') (q : ∀ H', Sep H' L' → Q .non H') : rRemS (.ref a) [.str x] H Q := by
  obtain ⟨vs, h, m⟩ := hS.lst e
  have hv := imL_strV m
  subst hv
  have hl : xs.findIdx (fun y => decide (y = x)) < xs.length := List.findIdx_lt_length_of_exists ⟨x, hx, by simp⟩
  refine ⟨a, xs, x, xs.findIdx fun y => decide (y = x), rfl, rfl, h, ?_, fun k hk => ?_, ?_⟩
  · rw [List.getElem?_eq_getElem hl]
    have := List.findIdx_getElem (w := hl)
    exact congrArg some (of_decide_eq_true this)
  · intro z
    have := List.not_of_lt_findIdx hk
    obtain ⟨h1, h2⟩ := List.getElem?_eq_some_iff.mp z
    rw [h2] at this
    simp at this
  · subst e2
    exact q _ (hS.putL e (imL_strs _))
end
end Ml
namespace Ml
open PySem PySem.Spec PyProof.Rows L2
theorem lenD_at {G : Gx} {κ β : Type} [DecidableEq κ] [Kx κ] [Im G β] {H : Hp} {L : List (Asn G)} {i : Nat} {a : Addr} {xs : List (κ × β)} (hS : Sep H L) (e : L[i]? = some (dictA a xs)) : ∃ ps : List (Key × V), H a = some (.dK ps) ∧ ps.length = xs.length := by
  obtain ⟨ps, hp, m⟩ := hS.dict e
  exact ⟨ps, hp, m.len⟩
end Ml
namespace Ml
open PySem PySem.Spec PyProof.Rows L2
section
variable {G : Gx} {κ β : Type} [DecidableEq κ] [Kx κ] {H : Hp} {M : List (Asn G)} {a : Addr} {kvs : List (κ × β)} {k : κ} {E : Addr → β → Asn G} {Q : VK}
theorem k_get2E {p0 : Addr} {z : β} (h : Sep H (dictE E a kvs :: E p0 z :: M))
    (q : ∀ p (R : Asn G), (∀ H' M', Sep H' (E p ((dget kvs k).getD z) :: R :: M') → Sep H' (dictE E a kvs :: M')) → Sep H (E p ((dget kvs k).getD z) :: R :: M) → Q (.ref p) H) : get2K3 a (kV (Kx.key k)) Q (.ref p0) H := by
  obtain ⟨ps, hl, hx⟩ := dictE_X h
  have hc := dictX_cell hx
  cases e : dget kvs k with
  | none =>
    refine ⟨none, .inl ⟨_, Kx.key k, .inl hc, rfl, (refs_none hl.1 e).symm⟩, ?_⟩
    rw [e] at q
    exact q p0 (dictE E a kvs) (fun H' M' hs => Sep.tail hs) (h.perm (List.Perm.swap _ _ _))
  | some y =>
    obtain ⟨j, hj⟩ := dget_idx e
    obtain ⟨p, hp, e2⟩ := refs_get hl.1 hl.2 hj
    refine ⟨some (.ref p), .inl ⟨_, Kx.key k, .inl hc, rfl, e2.symm⟩, ?_⟩
    rw [e] at q
    have h1 : Sep H (E p y :: (dictXH id E a ps kvs j :: E p0 z :: M)) := outX hx hj hp
    refine q p (star [dictXH id E a ps kvs j, E p0 z]) (fun H' M' hs => ?_) ?_
    · have h2 : Sep H' (star [dictXH id E a ps kvs j, E p0 z] :: (E p y :: M')) := hs.perm (List.Perm.swap _ _ _)
      have h3 := Sep.star1 h2
      have h4 : Sep H' (E p y :: dictXH id E a ps kvs j :: (E p0 z :: M')) := h3.perm (by
        show (dictXH id E a ps kvs j :: E p0 z :: E p y :: M').Perm _
        exact ((List.Perm.swap _ _ _).cons _).trans (List.Perm.swap _ _ _))
      exact Sep.tail ((unfocDE0 hl hj hp h4).perm (List.Perm.swap _ _ _))
    · have h5 : Sep H ([dictXH id E a ps kvs j, E p0 z] ++ (E p y :: M)) := h1.perm (by
        show (E p y :: dictXH id E a ps kvs j :: E p0 z :: M).Perm (dictXH id E a ps kvs j :: E p0 z :: E p y :: M)
        exact (List.Perm.swap _ _ _).trans ((List.Perm.swap _ _ _).cons _))
      exact (Sep.unstar1 h5).perm (List.Perm.swap _ _ _)
end
end Ml
namespace Ml
open PySem PySem.Spec PyProof.Rows L2
def tFmtN (te : TE) : TE := fun σ H Q => te σ H fun x H1 => (∃ y : Str, x = .str y ∧ y.length ≤ sizeLine ∧ Q (.str y) H1) ∨ (∃ i : Int, x = .int i ∧ i.natAbs.log2 < 1920 ∧ Q (.str (toString i)) H1) ∨ (x = .non ∧ Q (.str "None") H1)
section
variable {X : Cx}
theorem pe_fmtN {e : Expr} {te : TE} {pos : Pos} (he : PE X e te) : PE X (.FormattedValue e (-1) none pos) (tFmtN te) := by
  refine ⟨fun pins s σ H Q I h => ?_⟩
  refine wpAny_FormattedValue_plain (thn (he.run pins s σ H _ I h) fun v s1 hv => ?_)
  obtain ⟨x, H1, I1, r1, q⟩ := hv
  rcases q with ⟨y, rfl, hz, q⟩ | ⟨i, rfl, hz, q⟩ | ⟨rfl, q⟩
  · obtain ⟨t, rfl⟩ := r1
    exact wpAny_formatField_str ⟨.str y, H1, I1, ⟨t, rfl⟩, q⟩ ⟨.str y, H1, I1.tok _, ⟨_, rfl⟩, q⟩ hz
  · obtain ⟨t, rfl⟩ := r1
    exact wpAny_formatField_int hz ⟨.str (toString i), H1, I1.tok _, ⟨_, rfl⟩, q⟩
  · cases r1
    exact wpAny_formatField_none ⟨.str "None", H1, I1.tok _, ⟨_, rfl⟩, q⟩
end
def fmtA : Any → R Str
  | .str s => if s.length ≤ sizeLine then .ok s else .bad
  | .int i => if i.natAbs.log2 < 1920 then .ok (Str.ofString (toString i)) else .bad
  | .non => .ok "None"
  | _ => .bad
theorem wp_fmtA {ρ : Type} {x : Any} {f : Str → R ρ} {q : ρ → Prop} {e : Exc → Prop} (h : R.wp ((fmtA x).bind f) q e) : ∃ b, fmtA x = .ok b ∧ R.wp (f b) q e := by
  cases c : fmtA x with
  | ok y => rw [c] at h; exact ⟨_, rfl, h⟩
  | exc y => cases x <;> simp [fmtA] at c <;> (repeat' split at c) <;> cases c
  | bad => rw [c] at h; exact h.elim
section
variable {G : Gx} {H : Hp} {acc y : Str} {ts : List TE} {te : TE} {P : Str → Hp → Prop} {v : V} {x : Any} {σ : L2.St}
theorem f_fa (h : Ev te σ H v) (hv : Im.im G H v x) (hy : fmtA x = .ok y) (z : (acc ++ y).length ≤ sizeLine) (k : tJs ts (acc ++ y) σ H P) : tJs (tFmtN te :: ts) acc σ H P := by
  cases x with
  | str s =>
    have hv : v = .str s := any_str.mp hv
    subst hv
    simp only [fmtA] at hy
    split at hy
    · injection hy with hy; subst hy
      exact h _ (.inl ⟨s, rfl, by assumption, s, rfl, z, k⟩)
    · cases hy
  | int j =>
    have hv : v = .int j := any_int.mp hv
    subst hv
    simp only [fmtA] at hy
    split at hy
    · injection hy with hy; subst hy
      exact h _ (.inr (.inl ⟨j, rfl, by assumption, _, rfl, z, k⟩))
    · cases hy
  | non =>
    have hv : v = .non := any_non.mp hv
    subst hv
    simp only [fmtA] at hy
    injection hy with hy; subst hy
    exact h _ (.inr (.inr ⟨rfl, _, rfl, z, k⟩))
  | _ => simp [fmtA] at hy
end
end Ml
namespace Lw
open PySem PySem.Spec PyProof.Rows L2 Ml
def top (i : Nat) : Stmt := PySem.Challenge.pw_mailroom_k24_there_or_not.main.body.getD i (.Pass ⟨0, 0, 0, 0⟩)
abbrev s_Index___init__ : Stmt := inClass (top 9) 0
abbrev s_Index_sure : Stmt := inClass (top 9) 1
abbrev s_Index_add : Stmt := inClass (top 9) 2
abbrev s_Index_take_out : Stmt := inClass (top 9) 3
abbrev s_Index_having : Stmt := inClass (top 9) 4
abbrev s_Index_words : Stmt := inClass (top 9) 5
abbrev s_Index_all_words : Stmt := inClass (top 9) 6
abbrev s_Threads___init__ : Stmt := inClass (top 11) 0
abbrev s_Threads_pile : Stmt := inClass (top 11) 1
abbrev s_Threads_put_together : Stmt := inClass (top 11) 2
abbrev s_Threads_hang : Stmt := inClass (top 11) 3
abbrev s_Threads_sure : Stmt := inClass (top 11) 4
abbrev s_Threads_add : Stmt := inClass (top 11) 5
abbrev s_Threads_take_out : Stmt := inClass (top 11) 6
abbrev s_Threads_names : Stmt := inClass (top 11) 7
abbrev s_Threads_thread : Stmt := inClass (top 11) 8
abbrev s_Threads_threads : Stmt := inClass (top 11) 9
abbrev s_Threads_answers_to : Stmt := inClass (top 11) 10
abbrev s_Threads_depth : Stmt := inClass (top 11) 11
abbrev s_law_draws : Stmt := top 13
abbrev s_law_name_by : Stmt := top 14
abbrev s_law_pool : Stmt := top 15
abbrev s_law_called : Stmt := top 16
abbrev s_law_refused : Stmt := top 17
abbrev s_law_due : Stmt := top 18
abbrev s_law_step : Stmt := top 19
abbrev s_law : Stmt := top 20
def asM : List Addr := ([3, 24, 37, 49, 69, 81, 93, 105, 166, 263, 2, 23, 36, 48, 68, 80, 92, 104, 165, 262, 66, 121, 128, 135, 142, 149, 156, 163, 184, 191, 198, 205, 212, 220, 227, 234, 239, 246, 253, 260] : List Addr) ++ ([274, 281, 286, 293, 300, 307, 314, 319, 15, 22, 28, 35, 40, 47, 52, 59, 60, 62, 63, 67, 72, 79, 84, 91, 96, 103, 115, 117, 118, 122, 124, 125, 129, 131, 132, 136, 138, 139, 143, 145] : List Addr) ++ ([146, 150, 152, 153, 157, 159, 160, 164, 178, 180, 181, 185, 187, 188, 192, 194, 195, 199, 201, 202, 206, 208, 209, 213, 214, 216, 217, 221, 223, 224, 228, 230, 231, 235, 240, 242, 243, 247, 249, 250] : List Addr) ++ ([254, 256, 257, 261, 268, 270, 271, 275, 277, 278, 282, 287, 289, 290, 294, 296, 297, 301, 303, 304, 308, 310, 311, 315, 25, 65, 120, 127, 134, 141, 148, 155, 162, 167, 168, 183, 190, 197, 204, 211] : List Addr) ++ ([219, 226, 233, 238, 245, 252, 259, 264, 265, 273, 280, 285, 292, 299, 306, 313, 318] : List Addr)
theorem fxM {l : List Bool} (h : l.all id = true) (i : Nat) {b : Bool} (e : l[i]? = some b) : b = true := List.all_eq_true.mp h b (List.mem_of_getElem? e)
def fb0 (K : PySem.W.Frag) : List Bool := [
  decide (PySem.W.nsIn K mainGlobals "MailError" = some (some (.ref 24))),
  decide (PySem.W.nsIn K mainGlobals "NoWord" = some (some (.ref 37))),
  decide (PySem.W.nsIn K mainGlobals "NoLetter" = some (some (.ref 49))),
  decide (PySem.W.nsIn K mainGlobals "NoRule" = some (some (.ref 69))),
  decide (PySem.W.nsIn K mainGlobals "NoName" = some (some (.ref 81))),
  decide (PySem.W.nsIn K mainGlobals "NoParcel" = some (some (.ref 93))),
  decide (PySem.W.nsIn K mainGlobals "NoRow" = some (some (.ref 105))),
  decide (PySem.W.nsIn K mainGlobals "Index" = some (some (.ref 166))),
  decide (PySem.W.nsIn K mainGlobals "Threads" = some (some (.ref 263))),
  decide (PySem.W.findIn K (.ref 166) "__init__" = some (some (.ref 121))),
  decide (PySem.W.isFn K (.ref 121) = true),
  decide (PySem.W.makesIn K 166 = true),
  decide (PySem.W.keepIn K (.ref 166) = true),
  decide (PySem.W.findIn K (.ref 166) "sure" = some (some (.ref 128))),
  decide (PySem.W.isFn K (.ref 128) = true),
  decide (PySem.W.findIn K (.ref 166) "add" = some (some (.ref 135))),
  decide (PySem.W.isFn K (.ref 135) = true),
  decide (PySem.W.findIn K (.ref 166) "take_out" = some (some (.ref 142))),
  decide (PySem.W.isFn K (.ref 142) = true),
  decide (PySem.W.findIn K (.ref 166) "having" = some (some (.ref 149))),
  decide (PySem.W.isFn K (.ref 149) = true),
  decide (PySem.W.findIn K (.ref 166) "words" = some (some (.ref 156))),
  decide (PySem.W.isFn K (.ref 156) = true),
  decide (PySem.W.findIn K (.ref 166) "all_words" = some (some (.ref 163))),
  decide (PySem.W.isFn K (.ref 163) = true),
  decide (PySem.W.findIn K (.ref 263) "__init__" = some (some (.ref 184))),
  decide (PySem.W.isFn K (.ref 184) = true),
  decide (PySem.W.makesIn K 263 = true),
  decide (PySem.W.keepIn K (.ref 263) = true),
  decide (PySem.W.findIn K (.ref 263) "pile" = some (some (.ref 191))),
  decide (PySem.W.isFn K (.ref 191) = true),
  decide (PySem.W.findIn K (.ref 263) "put_together" = some (some (.ref 198))),
  decide (PySem.W.isFn K (.ref 198) = true),
  decide (PySem.W.findIn K (.ref 263) "hang" = some (some (.ref 205))),
  decide (PySem.W.isFn K (.ref 205) = true),
  decide (PySem.W.findIn K (.ref 263) "sure" = some (some (.ref 212))),
  decide (PySem.W.isFn K (.ref 212) = true),
  decide (PySem.W.findIn K (.ref 263) "add" = some (some (.ref 220))),
  decide (PySem.W.isFn K (.ref 220) = true),
  decide (PySem.W.findIn K (.ref 263) "take_out" = some (some (.ref 227)))]
def fb1 (K : PySem.W.Frag) : List Bool := [
  decide (PySem.W.isFn K (.ref 227) = true),
  decide (PySem.W.findIn K (.ref 263) "names" = some (some (.ref 234))),
  decide (PySem.W.isFn K (.ref 234) = true),
  decide (PySem.W.findIn K (.ref 263) "thread" = some (some (.ref 239))),
  decide (PySem.W.isFn K (.ref 239) = true),
  decide (PySem.W.findIn K (.ref 263) "threads" = some (some (.ref 246))),
  decide (PySem.W.isFn K (.ref 246) = true),
  decide (PySem.W.findIn K (.ref 263) "answers_to" = some (some (.ref 253))),
  decide (PySem.W.isFn K (.ref 253) = true),
  decide (PySem.W.findIn K (.ref 263) "depth" = some (some (.ref 260))),
  decide (PySem.W.isFn K (.ref 260) = true),
  decide (PySem.W.nsIn K mainGlobals "_law_draws" = some (some (.ref 274))),
  decide (PySem.W.nsIn K mainGlobals "_law_name_by" = some (some (.ref 281))),
  decide (PySem.W.nsIn K mainGlobals "_law_pool" = some (some (.ref 286))),
  decide (PySem.W.nsIn K mainGlobals "_law_called" = some (some (.ref 293))),
  decide (PySem.W.nsIn K mainGlobals "_law_refused" = some (some (.ref 300))),
  decide (PySem.W.nsIn K mainGlobals "_law_due" = some (some (.ref 307))),
  decide (PySem.W.nsIn K mainGlobals "_law_step" = some (some (.ref 314))),
  decide (PySem.W.nsIn K mainGlobals "law" = some (some (.ref 319))),
  decide (PySem.W.subIn K (.ref 24) (.type "BaseException") = some true),
  decide (PySem.W.typeIn K (.ref 24) = some (.type "type")),
  decide (PySem.W.hasDictIn K 24 = true),
  decide (PySem.W.subIn K (.ref 24) (.ref 24) = some true),
  decide (PySem.W.subIn K (.ref 37) (.ref 24) = some true),
  decide (PySem.W.subIn K (.ref 49) (.ref 24) = some true),
  decide (PySem.W.subIn K (.ref 69) (.ref 24) = some true),
  decide (PySem.W.subIn K (.ref 81) (.ref 24) = some true),
  decide (PySem.W.subIn K (.ref 93) (.ref 24) = some true),
  decide (PySem.W.subIn K (.ref 105) (.ref 24) = some true),
  decide (PySem.W.excIn K 81 [.type "ValueError", .type "Exception", .type "BaseException", .type "object"] "ValueError.__new__" = true),
  decide (PySem.W.keepIn K (.ref 81) = true),
  decide (PySem.W.subIn K (.ref 81) (.type "BaseException") = some true),
  decide (PySem.W.typeIn K (.ref 81) = some (.type "type")),
  decide (PySem.W.plainGet K 166 Str.empty = true),
  decide (PySem.W.hasDictIn K 166 = true),
  decide (PySem.W.plainOver K 166 = true),
  decide (PySem.W.findIn K (.ref 166) "__setattr__" = some (some (.builtin "object.__setattr__"))),
  decide (PySem.W.findIn K (.ref 166) "rows_of" = some none),
  decide (PySem.W.findIn K (.ref 166) "holders" = some none),
  decide (PySem.W.plainGet K 263 Str.empty = true)]
def fb2 (K : PySem.W.Frag) : List Bool := [
  decide (PySem.W.hasDictIn K 263 = true),
  decide (PySem.W.plainOver K 263 = true),
  decide (PySem.W.findIn K (.ref 263) "__setattr__" = some (some (.builtin "object.__setattr__"))),
  decide (PySem.W.findIn K (.ref 263) "goes_to" = some none),
  decide (PySem.W.findIn K (.ref 263) "pile_of" = some none),
  decide (PySem.W.findIn K (.ref 263) "piles" = some none),
  decide (PySem.W.findIn K (.ref 263) "comes_from" = some none),
  decide (PySem.W.findIn K (.ref 263) "made" = some none),
  decide (PySem.W.findIn K (.ref 24) "__getattribute__" = some (some (.builtin "BaseException.__getattribute__"))),
  decide (PySem.W.findIn K (.ref 24) "__getattr__" = some none),
  decide (PySem.W.findIn K (.ref 24) "__class__" = some (some (.builtin "object.__class__"))),
  decide (PySem.W.mroIn K 24 (.type "object") = some true),
  decide (PySem.W.findIn K (.ref 37) "__getattribute__" = some (some (.builtin "BaseException.__getattribute__"))),
  decide (PySem.W.findIn K (.ref 37) "__getattr__" = some none),
  decide (PySem.W.subIn K (.ref 37) (.type "BaseException") = some true),
  decide (PySem.W.typeIn K (.ref 37) = some (.type "type")),
  decide (PySem.W.hasDictIn K 37 = true),
  decide (PySem.W.findIn K (.ref 37) "__class__" = some (some (.builtin "object.__class__"))),
  decide (PySem.W.mroIn K 37 (.type "object") = some true),
  decide (PySem.W.findIn K (.ref 49) "__getattribute__" = some (some (.builtin "BaseException.__getattribute__"))),
  decide (PySem.W.findIn K (.ref 49) "__getattr__" = some none),
  decide (PySem.W.subIn K (.ref 49) (.type "BaseException") = some true),
  decide (PySem.W.typeIn K (.ref 49) = some (.type "type")),
  decide (PySem.W.hasDictIn K 49 = true),
  decide (PySem.W.findIn K (.ref 49) "__class__" = some (some (.builtin "object.__class__"))),
  decide (PySem.W.mroIn K 49 (.type "object") = some true),
  decide (PySem.W.findIn K (.ref 69) "__getattribute__" = some (some (.builtin "BaseException.__getattribute__"))),
  decide (PySem.W.findIn K (.ref 69) "__getattr__" = some none),
  decide (PySem.W.subIn K (.ref 69) (.type "BaseException") = some true),
  decide (PySem.W.typeIn K (.ref 69) = some (.type "type")),
  decide (PySem.W.hasDictIn K 69 = true),
  decide (PySem.W.findIn K (.ref 69) "__class__" = some (some (.builtin "object.__class__"))),
  decide (PySem.W.mroIn K 69 (.type "object") = some true),
  decide (PySem.W.findIn K (.ref 81) "__getattribute__" = some (some (.builtin "BaseException.__getattribute__"))),
  decide (PySem.W.findIn K (.ref 81) "__getattr__" = some none),
  decide (PySem.W.hasDictIn K 81 = true),
  decide (PySem.W.findIn K (.ref 81) "__class__" = some (some (.builtin "object.__class__"))),
  decide (PySem.W.mroIn K 81 (.type "object") = some true),
  decide (PySem.W.findIn K (.ref 93) "__getattribute__" = some (some (.builtin "BaseException.__getattribute__"))),
  decide (PySem.W.findIn K (.ref 93) "__getattr__" = some none)]
def fb3 (K : PySem.W.Frag) : List Bool := [
  decide (PySem.W.subIn K (.ref 93) (.type "BaseException") = some true),
  decide (PySem.W.typeIn K (.ref 93) = some (.type "type")),
  decide (PySem.W.hasDictIn K 93 = true),
  decide (PySem.W.findIn K (.ref 93) "__class__" = some (some (.builtin "object.__class__"))),
  decide (PySem.W.mroIn K 93 (.type "object") = some true),
  decide (PySem.W.findIn K (.ref 105) "__getattribute__" = some (some (.builtin "BaseException.__getattribute__"))),
  decide (PySem.W.findIn K (.ref 105) "__getattr__" = some none),
  decide (PySem.W.subIn K (.ref 105) (.type "BaseException") = some true),
  decide (PySem.W.typeIn K (.ref 105) = some (.type "type")),
  decide (PySem.W.hasDictIn K 105 = true),
  decide (PySem.W.findIn K (.ref 105) "__class__" = some (some (.builtin "object.__class__"))),
  decide (PySem.W.mroIn K 105 (.type "object") = some true),
  decide (PySem.W.specialIn K (.builtin "object.__class__") "__get__" = some (some (.builtin "getset_descriptor.__get__"))),
  decide (PySem.W.takesIn K (.builtin "object.__class__") = some true),
  decide (PySem.W.subIn K (.ref 24) (.ref 49) = some false),
  decide (¬ 24 = 49),
  decide (PySem.W.subIn K (.ref 37) (.ref 49) = some false),
  decide (¬ 37 = 49),
  decide (PySem.W.subIn K (.ref 49) (.ref 49) = some true),
  decide (PySem.W.subIn K (.ref 69) (.ref 49) = some false),
  decide (¬ 69 = 49),
  decide (PySem.W.subIn K (.ref 81) (.ref 49) = some false),
  decide (¬ 81 = 49),
  decide (PySem.W.subIn K (.ref 93) (.ref 49) = some false),
  decide (¬ 93 = 49),
  decide (PySem.W.subIn K (.ref 105) (.ref 49) = some false),
  decide (¬ 105 = 49),
  decide (PySem.W.subIn K (.ref 24) (.ref 81) = some false),
  decide (¬ 24 = 81),
  decide (PySem.W.subIn K (.ref 37) (.ref 81) = some false),
  decide (¬ 37 = 81),
  decide (PySem.W.subIn K (.ref 49) (.ref 81) = some false),
  decide (¬ 49 = 81),
  decide (PySem.W.subIn K (.ref 69) (.ref 81) = some false),
  decide (¬ 69 = 81),
  decide (PySem.W.subIn K (.ref 81) (.ref 81) = some true),
  decide (PySem.W.subIn K (.ref 93) (.ref 81) = some false),
  decide (¬ 93 = 81),
  decide (PySem.W.subIn K (.ref 105) (.ref 81) = some false),
  decide (¬ 105 = 81)]
def fb4 (K : PySem.W.Frag) : List Bool := [
  decide (PySem.W.subIn K (.ref 24) (.ref 93) = some false),
  decide (¬ 24 = 93),
  decide (PySem.W.subIn K (.ref 37) (.ref 93) = some false),
  decide (¬ 37 = 93),
  decide (PySem.W.subIn K (.ref 49) (.ref 93) = some false),
  decide (¬ 49 = 93),
  decide (PySem.W.subIn K (.ref 69) (.ref 93) = some false),
  decide (¬ 69 = 93),
  decide (PySem.W.subIn K (.ref 81) (.ref 93) = some false),
  decide (¬ 81 = 93),
  decide (PySem.W.subIn K (.ref 93) (.ref 93) = some true),
  decide (PySem.W.subIn K (.ref 105) (.ref 93) = some false),
  decide (¬ 105 = 93),
  decide (PySem.W.subIn K (.ref 24) (.ref 105) = some false),
  decide (¬ 24 = 105),
  decide (PySem.W.subIn K (.ref 37) (.ref 105) = some false),
  decide (¬ 37 = 105),
  decide (PySem.W.subIn K (.ref 49) (.ref 105) = some false),
  decide (¬ 49 = 105),
  decide (PySem.W.subIn K (.ref 69) (.ref 105) = some false),
  decide (¬ 69 = 105),
  decide (PySem.W.subIn K (.ref 81) (.ref 105) = some false),
  decide (¬ 81 = 105),
  decide (PySem.W.subIn K (.ref 93) (.ref 105) = some false),
  decide (¬ 93 = 105),
  decide (PySem.W.subIn K (.ref 105) (.ref 105) = some true),
  decide (PySem.W.subIn K (.ref 24) (.ref 69) = some false),
  decide (¬ 24 = 69),
  decide (PySem.W.subIn K (.ref 37) (.ref 69) = some false),
  decide (¬ 37 = 69),
  decide (PySem.W.subIn K (.ref 49) (.ref 69) = some false),
  decide (¬ 49 = 69),
  decide (PySem.W.subIn K (.ref 69) (.ref 69) = some true),
  decide (PySem.W.subIn K (.ref 81) (.ref 69) = some false),
  decide (¬ 81 = 69),
  decide (PySem.W.subIn K (.ref 93) (.ref 69) = some false),
  decide (¬ 93 = 69),
  decide (PySem.W.subIn K (.ref 105) (.ref 69) = some false),
  decide (¬ 105 = 69),
  decide (PySem.W.subIn K (.ref 24) (.ref 37) = some false)]
def fb5 (K : PySem.W.Frag) : List Bool := [
  decide (¬ 24 = 37),
  decide (PySem.W.subIn K (.ref 37) (.ref 37) = some true),
  decide (PySem.W.subIn K (.ref 49) (.ref 37) = some false),
  decide (¬ 49 = 37),
  decide (PySem.W.subIn K (.ref 69) (.ref 37) = some false),
  decide (¬ 69 = 37),
  decide (PySem.W.subIn K (.ref 81) (.ref 37) = some false),
  decide (¬ 81 = 37),
  decide (PySem.W.subIn K (.ref 93) (.ref 37) = some false),
  decide (¬ 93 = 37),
  decide (PySem.W.subIn K (.ref 105) (.ref 37) = some false),
  decide (¬ 105 = 37),
  decide (PySem.W.subIn K (.ref 24) (.type "ValueError") = some true),
  decide (PySem.W.subIn K (.ref 37) (.type "ValueError") = some true),
  decide (PySem.W.subIn K (.ref 49) (.type "ValueError") = some true),
  decide (PySem.W.subIn K (.ref 69) (.type "ValueError") = some true),
  decide (PySem.W.subIn K (.ref 81) (.type "ValueError") = some true),
  decide (PySem.W.subIn K (.ref 93) (.type "ValueError") = some true),
  decide (PySem.W.subIn K (.ref 105) (.type "ValueError") = some true),
  decide (PySem.W.nsIn K mainGlobals "ValueError" = some none),
  decide (PySem.W.nsIn K mainGlobals "bool" = some none),
  decide (PySem.W.nsIn K mainGlobals "int" = some none),
  decide (PySem.W.nsIn K mainGlobals "isinstance" = some none),
  decide (PySem.W.nsIn K mainGlobals "len" = some none),
  decide (PySem.W.nsIn K mainGlobals "list" = some none),
  decide (PySem.W.nsIn K mainGlobals "range" = some none),
  decide (PySem.W.nsIn K mainGlobals "set" = some none),
  decide (PySem.W.nsIn K mainGlobals "sorted" = some none)]
def dfn0 : He5.DefA := ⟨fun _ => 121, "__init__", "Index.__init__", defArgs s_Index___init__, defBody s_Index___init__, defScope s_Index___init__, [], []⟩
def dfn1 : He5.DefA := ⟨fun _ => 128, "sure", "Index.sure", defArgs s_Index_sure, defBody s_Index_sure, defScope s_Index_sure, [], []⟩
def dfn2 : He5.DefA := ⟨fun _ => 135, "add", "Index.add", defArgs s_Index_add, defBody s_Index_add, defScope s_Index_add, [], []⟩
def dfn3 : He5.DefA := ⟨fun _ => 142, "take_out", "Index.take_out", defArgs s_Index_take_out, defBody s_Index_take_out, defScope s_Index_take_out, [], []⟩
def dfn4 : He5.DefA := ⟨fun _ => 149, "having", "Index.having", defArgs s_Index_having, defBody s_Index_having, defScope s_Index_having, [], []⟩
def dfn5 : He5.DefA := ⟨fun _ => 156, "words", "Index.words", defArgs s_Index_words, defBody s_Index_words, defScope s_Index_words, [], []⟩
def dfn6 : He5.DefA := ⟨fun _ => 163, "all_words", "Index.all_words", defArgs s_Index_all_words, defBody s_Index_all_words, defScope s_Index_all_words, [], []⟩
def dfn7 : He5.DefA := ⟨fun _ => 184, "__init__", "Threads.__init__", defArgs s_Threads___init__, defBody s_Threads___init__, defScope s_Threads___init__, [], []⟩
def dfn8 : He5.DefA := ⟨fun _ => 191, "pile", "Threads.pile", defArgs s_Threads_pile, defBody s_Threads_pile, defScope s_Threads_pile, [], []⟩
def dfn9 : He5.DefA := ⟨fun _ => 198, "put_together", "Threads.put_together", defArgs s_Threads_put_together, defBody s_Threads_put_together, defScope s_Threads_put_together, [], []⟩
def dfn10 : He5.DefA := ⟨fun _ => 205, "hang", "Threads.hang", defArgs s_Threads_hang, defBody s_Threads_hang, defScope s_Threads_hang, [], []⟩
def dfn11 : He5.DefA := ⟨fun _ => 212, "sure", "Threads.sure", defArgs s_Threads_sure, defBody s_Threads_sure, defScope s_Threads_sure, [], []⟩
def dfn12 : He5.DefA := ⟨fun _ => 220, "add", "Threads.add", defArgs s_Threads_add, defBody s_Threads_add, defScope s_Threads_add, [.str ("" : Str)], []⟩
def dfn13 : He5.DefA := ⟨fun _ => 227, "take_out", "Threads.take_out", defArgs s_Threads_take_out, defBody s_Threads_take_out, defScope s_Threads_take_out, [], []⟩
def dfn14 : He5.DefA := ⟨fun _ => 234, "names", "Threads.names", defArgs s_Threads_names, defBody s_Threads_names, defScope s_Threads_names, [], []⟩
def dfn15 : He5.DefA := ⟨fun _ => 239, "thread", "Threads.thread", defArgs s_Threads_thread, defBody s_Threads_thread, defScope s_Threads_thread, [], []⟩
def dfn16 : He5.DefA := ⟨fun _ => 246, "threads", "Threads.threads", defArgs s_Threads_threads, defBody s_Threads_threads, defScope s_Threads_threads, [], []⟩
def dfn17 : He5.DefA := ⟨fun _ => 253, "answers_to", "Threads.answers_to", defArgs s_Threads_answers_to, defBody s_Threads_answers_to, defScope s_Threads_answers_to, [], []⟩
def dfn18 : He5.DefA := ⟨fun _ => 260, "depth", "Threads.depth", defArgs s_Threads_depth, defBody s_Threads_depth, defScope s_Threads_depth, [], []⟩
def dfn19 : He5.DefA := ⟨fun _ => 274, "_law_draws", "_law_draws", defArgs s_law_draws, defBody s_law_draws, defScope s_law_draws, [], []⟩
def dfn20 : He5.DefA := ⟨fun _ => 281, "_law_name_by", "_law_name_by", defArgs s_law_name_by, defBody s_law_name_by, defScope s_law_name_by, [], []⟩
def dfn21 : He5.DefA := ⟨fun _ => 286, "_law_pool", "_law_pool", defArgs s_law_pool, defBody s_law_pool, defScope s_law_pool, [], []⟩
def dfn22 : He5.DefA := ⟨fun _ => 293, "_law_called", "_law_called", defArgs s_law_called, defBody s_law_called, defScope s_law_called, [], []⟩
def dfn23 : He5.DefA := ⟨fun _ => 300, "_law_refused", "_law_refused", defArgs s_law_refused, defBody s_law_refused, defScope s_law_refused, [], []⟩
def dfn24 : He5.DefA := ⟨fun _ => 307, "_law_due", "_law_due", defArgs s_law_due, defBody s_law_due, defScope s_law_due, [], []⟩
def dfn25 : He5.DefA := ⟨fun _ => 314, "_law_step", "_law_step", defArgs s_law_step, defBody s_law_step, defScope s_law_step, [], []⟩
def dfn26 : He5.DefA := ⟨fun _ => 319, "law", "law", defArgs s_law, defBody s_law, defScope s_law, [], []⟩
def dfns0 : List He5.DefA := [dfn0, dfn1, dfn2, dfn3, dfn4, dfn5, dfn6, dfn7, dfn8, dfn9, dfn10, dfn11, dfn12, dfn13, dfn14, dfn15, dfn16, dfn17, dfn18, dfn19, dfn20, dfn21, dfn22, dfn23, dfn24, dfn25, dfn26]
def factsK (K : PySem.W.Frag) : Bool := (fb0 K).all id && (fb1 K).all id && (fb2 K).all id && (fb3 K).all id && (fb4 K).all id && (fb5 K).all id
def obsD (ds : List He5.DefA) (K : PySem.W.Frag) : Bool × List He.FnW := (ds.all fun d => d.ok K, ds.map fun d => He5.fnA K (d.at_ K))
def valD (ds : List He5.DefA) : Bool × List He.FnW := (true, ds.map He5.DefA.val)
abbrev ObT : Type := Bool × (Bool × List He.FnW)
def obsK (K : PySem.W.Frag) : ObT := (factsK K, obsD dfns0 K)
def valK : ObT := (true, valD dfns0)
def hookM : PySem.W.Hook where
  α := ObT
  obs := fun s => obsK (He.frG s.heap.get? asM)
  val := fun _ => valK
  says := fun _ h => ∃ K : PySem.W.Frag, K.In h ∧ obsK K = valK
  of := fun _ _ e => ⟨_, He.frG_in, e⟩
  keeps := fun _ _ _ ⟨K, hK, c⟩ k => ⟨K, PySem.W.Frag.In.keeps hK k, c⟩
def obM (s : PySem.W.SharedT) : ObT := obsK (He.frG (HandSHeadRun.getT s) asM)
theorem obM_eq (s : PySem.W.SharedT) : obM s = hookM.obs s.abs := by
  have e : HandSHeadRun.getT s = s.abs.heap.get? := funext (HandSHeadRun.getT_eq s)
  show obsK (He.frG (HandSHeadRun.getT s) asM) = obsK (He.frG s.abs.heap.get? asM)
  rw [e]
theorem defM {K : PySem.W.Frag} {ds : List He5.DefA} (c : obsD ds K = valD ds) (i : Nat) {d : He5.DefA} (h : ds[i]? = some d) : ∃ fd, FunD K d.name d.qual d.params d.body d.scope (d.dvs K) (d.kws K) (d.at_ K) fd := by
  have c2 : (ds.all fun d => d.ok K) = true := congrArg (fun z : Bool × List He.FnW => z.1) c
  have e : ds.map (fun d => He5.fnA K (d.at_ K)) = ds.map He5.DefA.val := congrArg (fun z : Bool × List He.FnW => z.2) c
  have e2 : (ds.map fun d => He5.fnA K (d.at_ K))[i]? = (ds.map He5.DefA.val)[i]? := by rw [e]
  rw [List.getElem?_map, List.getElem?_map, h] at e2
  exact He5.DefA.funD (Option.some.inj e2) (List.all_eq_true.mp c2 d (List.mem_of_getElem? h))
def namesM : List PySem.Str := (["__name__", "MailError", "NoWord", "NoLetter", "NoRule", "NoName", "NoParcel", "NoRow", "Index", "Threads", "_law_draws", "_law_name_by", "_law_pool", "_law_called", "_law_refused", "_law_due", "_law_step"] : List PySem.Str)
abbrev rowM : PySem.W.OpenRow := PySem.W.OpenLaw.row PySem.Challenge.rw_mailroom_k24_there_or_not
open PySem.W PySem.Calls HandSHeadRun in
noncomputable abbrev endM (w : World) (os : OsState) : Option PySem.W.SharedT := HandSHeadRun.endF (HandSHeadRun.stepQ (HandSHeadRun.denQ HandSHeadRun.tabQ) rowM.prog w) 40000 rowM.prog w os
open PySem PySem.W PySem.Calls PyProof.Rows HandSHeadRun in
noncomputable abbrev seenM (w : World) (s : SharedT) := (looksF rowM.prog (boot_heap w.params) s.abs, HandSHeadRun.seenQ (view rowM.prog [20]) namesM (importedModules rowM.prog.main.body) (fun s => xlAt (view rowM.prog [20]) [] s && recOk rowM.toRowW.records s) s.abs)
theorem rc_pair {S α β : Type} {o : Option S} {f : S → α} {g : S → β} {a : α} {b : β} (h : o.map f = some a) (k : o.map g = some b) : o.map (fun s => (f s, g s)) = some (a, b) := by
  cases o with
  | none => cases h
  | some s =>
    cases h; cases k; rfl
theorem rc_top {S α β γ : Type} {o : Option S} {f : S → α × β} {g : S → γ} {a : α} {b : β} {c : γ} (h : o.map f = some (a, b)) (k : o.map g = some c) : o.map (fun s => ((f s).1, (f s).2, g s)) = some (a, b, c) := by
  cases o with
  | none => cases h
  | some s =>
    have h : f s = (a, b) := Option.some.inj h
    have k : g s = c := Option.some.inj k
    show some ((f s).1, (f s).2, g s) = _
    rw [h, k]
theorem run00 (w : World) : ∀ os : OsState, (endM w os).map (fun s => (seenM w s, factsK (He.frG (HandSHeadRun.getT s) asM))) = some ((true, PySem.W.openGood (PySem.W.view rowM.prog [20]) namesM), true) := by
  intro os
  kernel_rfl
theorem rc_l {S α β : Type} {o : Option S} {f : S → α} {g : S → β} {a : α} {b : β} (h : o.map (fun s => (f s, g s)) = some (a, b)) : o.map f = some a ∧ o.map g = some b := by
  cases o with
  | none => cases h
  | some s =>
    have h : (f s, g s) = (a, b) := Option.some.inj h
    exact ⟨congrArg (fun z : α × β => some z.1) h, congrArg (fun z : α × β => some z.2) h⟩
theorem run0 (w : World) (os : OsState) : (endM w os).map (seenM w) = some (true, PySem.W.openGood (PySem.W.view rowM.prog [20]) namesM) := (rc_l (run00 w os)).1
theorem runF (w : World) (os : OsState) : (endM w os).map (fun s => factsK (He.frG (HandSHeadRun.getT s) asM)) = some true := (rc_l (run00 w os)).2
theorem runD0 (w : World) : ∀ os : OsState, (endM w os).map (fun s => obsD dfns0 (He.frG (HandSHeadRun.getT s) asM)) = some (valD dfns0) := by
  intro os
  kernel_rfl
theorem runM (w : World) : HandSHeadRun.RunEq rowM (PySem.W.view rowM.prog [20]) hookM obM 40000 namesM w := by
  intro os
  have hs := run0 w os
  have hF := runF w os
  have h0 := runD0 w os
  revert hs hF h0
  show _ → _ → _ → (endM w os).map (fun s => ((seenM w s).1, (seenM w s).2, obM s)) = some (true, PySem.W.openGood (PySem.W.view rowM.prog [20]) namesM, valK)
  generalize endM w os = o
  intro hs hF h0
  exact rc_top hs (rc_pair hF (h0))
end Lw
namespace Lw
open PySem L2 Ml
structure Index where
  rows_of : (List (Str × (List Str)))
  holders : (List (Str × (List (Str × Bool))))
structure Threads where
  goes_to : (List (Str × Str))
  pile_of : (List (Str × Int))
  piles : (List (Int × (List Str)))
  comes_from : (List (Str × (List (Str × Bool))))
  made : Int
def m_Index___init__  : R Index :=
R.ok ((⟨([] : (List (Str × (List Str)))), ([] : (List (Str × (List (Str × Bool)))))⟩ : Index))
def m_Index_sure (v_self : Index) (v_name : Str) : R Unit :=
if (!dhas v_self.rows_of v_name) = true then (
R.need ((v_name).length ≤ sizeLine) <|
R.need ((Str.empty ++ v_name).length ≤ sizeLine) <|
R.need (((Str.empty ++ v_name) ++ (" isn't there" : Str)).length ≤ sizeLine) <|
.exc ⟨4, 0⟩) else (
R.ok (()))
def m_Index_sure_A (v_self : Index) (v_name : Any) : R Unit :=
(hasA v_self.rows_of v_name).bind fun b4 =>
if (!b4) = true then (
(fmtA v_name).bind fun tx6 =>
R.need ((Str.empty ++ tx6).length ≤ sizeLine) <|
R.need (((Str.empty ++ tx6) ++ (" isn't there" : Str)).length ≤ sizeLine) <|
.exc ⟨4, 0⟩) else (
R.ok (()))
def m_Index_add (v_self : Index) (v_name : Str) (v_words : (List Str)) : R Index :=
if (dhas v_self.rows_of v_name) = true then (
R.need ((v_name).length ≤ sizeLine) <|
R.need ((Str.empty ++ v_name).length ≤ sizeLine) <|
R.need (((Str.empty ++ v_name) ++ (" is there" : Str)).length ≤ sizeLine) <|
.exc ⟨4, 0⟩) else (
R.need (v_words.length < 64) <|
R.need (v_self.rows_of.length < sizeLine) <|
(dgetR (dput v_self.rows_of v_name (ssetT v_words)) v_name).bind fun y12 =>
(forR (fun (s18 : (List (Str × (List (Str × Bool))))) (x19 : Str) =>
R.need (s18.length < sizeLine) <|
R.need (((dget s18 x19).getD ([] : (List (Str × Bool)))).length < sizeLine) <|
R.ok (dput (setE s18 x19 ([] : (List (Str × Bool)))) x19 (dput ((dget s18 x19).getD ([] : (List (Str × Bool)))) v_name true))) (y12) (v_self.holders)).bind fun (s18 : (List (Str × (List (Str × Bool))))) =>
R.ok ((⟨dput v_self.rows_of v_name (ssetT v_words), s18⟩ : Index)))
def m_Index_take_out (v_self : Index) (v_name : Str) : R Index :=
(m_Index_sure v_self v_name).bind fun r4 =>
(dgetR v_self.rows_of v_name).bind fun y8 =>
(forR (fun (s12 : (List (Str × (List Str))) × (List (Str × (List (Str × Bool))))) (x13 : Str) =>
(dgetR s12.2 x13).bind fun x16 =>
(dgetR x16 v_name).bind fun y24 =>
(dgetR (dput s12.2 x13 (ddrop x16 v_name)) x13).bind fun x26 =>
(if (decide ((x26.length : Int) = 0)) = true then (
(dgetR (dput s12.2 x13 (ddrop x16 v_name)) x13).bind fun y38 =>
R.ok (ddrop (dput s12.2 x13 (ddrop x16 v_name)) x13)) else (
R.ok (dput s12.2 x13 (ddrop x16 v_name)))).bind fun (s37 : (List (Str × (List (Str × Bool))))) =>
R.ok (s12.1, s37)) (y8) (ddrop v_self.rows_of v_name, v_self.holders)).bind fun (s12 : (List (Str × (List Str))) × (List (Str × (List (Str × Bool))))) =>
R.ok ((⟨s12.1, s12.2⟩ : Index))
def m_Index_take_out_A (v_self : Index) (v_name : Any) : R Index :=
(m_Index_sure_A v_self v_name).bind fun r4 =>
(Any.asStr v_name).bind fun s8 =>
(dgetR v_self.rows_of s8).bind fun y11 =>
(forR (fun (s15 : (List (Str × (List Str))) × (List (Str × (List (Str × Bool))))) (x16 : Str) =>
(dgetR s15.2 x16).bind fun x19 =>
(Any.asStr v_name).bind fun s27 =>
(dgetR x19 s8).bind fun y30 =>
(dgetR (dput s15.2 x16 (ddrop x19 s8)) x16).bind fun x32 =>
(if (decide ((x32.length : Int) = 0)) = true then (
(dgetR (dput s15.2 x16 (ddrop x19 s8)) x16).bind fun y44 =>
R.ok (ddrop (dput s15.2 x16 (ddrop x19 s8)) x16)) else (
R.ok (dput s15.2 x16 (ddrop x19 s8)))).bind fun (s43 : (List (Str × (List (Str × Bool))))) =>
R.ok (s15.1, s43)) (y11) (ddrop v_self.rows_of s8, v_self.holders)).bind fun (s15 : (List (Str × (List Str))) × (List (Str × (List (Str × Bool))))) =>
R.ok ((⟨s15.1, s15.2⟩ : Index))
def m_Index_having (v_self : Index) (v_word : Str) : R ((List Str)) :=
R.need (((dget v_self.holders v_word).getD ([] : (List (Str × Bool)))).length < 64) <|
R.ok (sortT (((dget v_self.holders v_word).getD ([] : (List (Str × Bool)))).map (·.1)))
def m_Index_words (v_self : Index) (v_name : Str) : R ((List Str)) :=
(m_Index_sure v_self v_name).bind fun r4 =>
(dgetR v_self.rows_of v_name).bind fun y8 =>
R.ok (y8)
def m_Index_words_A (v_self : Index) (v_name : Any) : R ((List Str)) :=
(m_Index_sure_A v_self v_name).bind fun r4 =>
(Any.asStr v_name).bind fun s8 =>
(dgetR v_self.rows_of s8).bind fun y11 =>
R.ok (y11)
def m_Index_all_words (v_self : Index) : R ((List Str)) :=
R.need (v_self.holders.length < 64) <|
R.ok (sortT (v_self.holders.map (·.1)))
def m_Threads___init__  : R Threads :=
R.ok ((⟨([] : (List (Str × Str))), ([] : (List (Str × Int))), ([] : (List (Int × (List Str)))), ([] : (List (Str × (List (Str × Bool))))), 0⟩ : Threads))
def m_Threads_pile (v_self : Threads) (v_name : Str) : R (Int × Threads) :=
(if (!dhas v_self.pile_of v_name) = true then (
R.need (v_self.pile_of.length < sizeLine) <|
R.need (v_self.piles.length < sizeLine) <|
R.need (dhas v_self.piles (v_self.made + 1) = false) <|
R.ok (dput v_self.pile_of v_name (v_self.made + 1), v_self.piles ++ [(v_self.made + 1, [v_name])], v_self.made + 1)) else (
R.ok (v_self.pile_of, v_self.piles, v_self.made))).bind fun (s6 : (List (Str × Int)) × (List (Int × (List Str))) × Int) =>
(dgetR s6.1 v_name).bind fun y11 =>
R.ok ((y11, (⟨v_self.goes_to, s6.1, s6.2.1, v_self.comes_from, s6.2.2⟩ : Threads)))
def m_Threads_put_together (v_self : Threads) (v_one : Int) (v_other : Int) : R Threads :=
if (decide (v_one = v_other)) = true then (
R.ok (v_self)) else (
(dgetR v_self.piles v_one).bind fun x7 =>
(dgetR v_self.piles v_other).bind fun x15 =>
(if (decide ((x7.length : Int) < (x15.length : Int))) = true then (
R.ok (v_other, v_one)) else (
R.ok (v_one, v_other))).bind fun (s23 : Int × Int) =>
(dgetR v_self.piles s23.2).bind fun y24 =>
(forR (fun (s26 : (List (Str × Int))) (x27 : Str) =>
R.need (s26.length < sizeLine) <|
R.ok (dput s26 x27 s23.1)) (y24) (v_self.pile_of)).bind fun (s26 : (List (Str × Int))) =>
(dgetR (ddrop v_self.piles s23.2) s23.1).bind fun y31 =>
R.need ((ddrop v_self.piles s23.2).length < sizeLine) <|
R.need (y31.length + y24.length ≤ sizeLine) <|
R.ok ((⟨v_self.goes_to, s26, dput (ddrop v_self.piles s23.2) s23.1 (y31 ++ y24), v_self.comes_from, v_self.made⟩ : Threads)))
def m_Threads_hang (v_self : Threads) (v_name : Str) : R Threads :=
(m_Threads_pile v_self v_name).bind fun r6 =>
(dgetR r6.2.goes_to v_name).bind fun y12 =>
(if (!decide (y12 = ("" : Str))) = true then (
(dgetR r6.2.goes_to v_name).bind fun y22 =>
(m_Threads_pile r6.2 y22).bind fun r26 =>
(m_Threads_put_together r26.2 r6.1 r26.1).bind fun r32 =>
R.ok (r32)) else (
R.ok (r6.2))).bind fun (s16 : Threads) =>
R.ok (s16)
def m_Threads_sure (v_self : Threads) (v_name : Str) : R Unit :=
if (!dhas v_self.goes_to v_name) = true then (
R.need ((v_name).length ≤ sizeLine) <|
R.need ((Str.empty ++ v_name).length ≤ sizeLine) <|
R.need (((Str.empty ++ v_name) ++ (" isn't there" : Str)).length ≤ sizeLine) <|
.exc ⟨4, 0⟩) else (
R.ok (()))
def m_Threads_sure_A (v_self : Threads) (v_name : Any) : R Unit :=
(hasA v_self.goes_to v_name).bind fun b6 =>
if (!b6) = true then (
(fmtA v_name).bind fun tx8 =>
R.need ((Str.empty ++ tx8).length ≤ sizeLine) <|
R.need (((Str.empty ++ tx8) ++ (" isn't there" : Str)).length ≤ sizeLine) <|
.exc ⟨4, 0⟩) else (
R.ok (()))
def m_Threads_add (v_self : Threads) (v_name : Str) (v_answers : Str) : R Threads :=
if (dhas v_self.goes_to v_name) = true then (
R.need ((v_name).length ≤ sizeLine) <|
R.need ((Str.empty ++ v_name).length ≤ sizeLine) <|
R.need (((Str.empty ++ v_name) ++ (" is there" : Str)).length ≤ sizeLine) <|
.exc ⟨4, 0⟩) else (
R.need (v_self.goes_to.length < sizeLine) <|
R.need (v_self.comes_from.length < sizeLine) <|
R.need (((dget v_self.comes_from v_answers).getD ([] : (List (Str × Bool)))).length < sizeLine) <|
(R.noexc (m_Threads_hang (⟨dput v_self.goes_to v_name v_answers, v_self.pile_of, v_self.piles, dput (setE v_self.comes_from v_answers ([] : (List (Str × Bool)))) v_answers (dput ((dget v_self.comes_from v_answers).getD ([] : (List (Str × Bool)))) v_name true), v_self.made⟩ : Threads) v_name)).bind fun r21 =>
R.ok (r21))
def m_Threads_take_out (v_self : Threads) (v_name : Str) : R Threads :=
(m_Threads_sure v_self v_name).bind fun r6 =>
(dgetR v_self.goes_to v_name).bind fun y12 =>
(dgetR v_self.comes_from y12).bind fun x14 =>
(dgetR x14 v_name).bind fun y22 =>
(dgetR (dput v_self.comes_from y12 (ddrop x14 v_name)) y12).bind fun x24 =>
(if (decide ((x24.length : Int) = 0)) = true then (
(dgetR (dput v_self.comes_from y12 (ddrop x14 v_name)) y12).bind fun y36 =>
R.ok (ddrop (dput v_self.comes_from y12 (ddrop x14 v_name)) y12)) else (
R.ok (dput v_self.comes_from y12 (ddrop x14 v_name)))).bind fun (s35 : (List (Str × (List (Str × Bool))))) =>
(dgetR v_self.pile_of v_name).bind fun y38 =>
(dgetR v_self.piles y38).bind fun y42 =>
(forR (fun (s44 : (List (Str × Int))) (x45 : Str) =>
(dgetR s44 x45).bind fun y48 =>
R.ok (ddrop s44 x45)) (y42) (v_self.pile_of)).bind fun (s44 : (List (Str × Int))) =>
(forR (fun (s50 : Threads) (x51 : Str) =>
(if (dhas s50.goes_to x51) = true then (
(R.noexc (m_Threads_hang s50 x51)).bind fun r65 =>
R.ok (r65)) else (
R.ok (s50))).bind fun (s59 : Threads) =>
R.ok (s59)) (y42) ((⟨ddrop v_self.goes_to v_name, s44, ddrop v_self.piles y38, s35, v_self.made⟩ : Threads))).bind fun (s50 : Threads) =>
R.ok (s50)
def m_Threads_take_out_A (v_self : Threads) (v_name : Any) : R Threads :=
(m_Threads_sure_A v_self v_name).bind fun r6 =>
(Any.asStr v_name).bind fun s12 =>
(dgetR v_self.goes_to s12).bind fun y15 =>
(dgetR v_self.comes_from y15).bind fun x17 =>
(Any.asStr v_name).bind fun s25 =>
(dgetR x17 s12).bind fun y28 =>
(dgetR (dput v_self.comes_from y15 (ddrop x17 s12)) y15).bind fun x30 =>
(if (decide ((x30.length : Int) = 0)) = true then (
(dgetR (dput v_self.comes_from y15 (ddrop x17 s12)) y15).bind fun y42 =>
R.ok (ddrop (dput v_self.comes_from y15 (ddrop x17 s12)) y15)) else (
R.ok (dput v_self.comes_from y15 (ddrop x17 s12)))).bind fun (s41 : (List (Str × (List (Str × Bool))))) =>
(Any.asStr v_name).bind fun s44 =>
(dgetR v_self.pile_of s12).bind fun y47 =>
(dgetR v_self.piles y47).bind fun y51 =>
(forR (fun (s53 : (List (Str × Int))) (x54 : Str) =>
(dgetR s53 x54).bind fun y57 =>
R.ok (ddrop s53 x54)) (y51) (v_self.pile_of)).bind fun (s53 : (List (Str × Int))) =>
(forR (fun (s59 : Threads) (x60 : Str) =>
(if (dhas s59.goes_to x60) = true then (
(R.noexc (m_Threads_hang s59 x60)).bind fun r74 =>
R.ok (r74)) else (
R.ok (s59))).bind fun (s68 : Threads) =>
R.ok (s68)) (y51) ((⟨ddrop v_self.goes_to s12, s53, ddrop v_self.piles y47, s41, v_self.made⟩ : Threads))).bind fun (s59 : Threads) =>
R.ok (s59)
def m_Threads_names (v_self : Threads) : R ((List Str)) :=
R.need (v_self.goes_to.length < 64) <|
R.ok (sortT (v_self.goes_to.map (·.1)))
def m_Threads_thread (v_self : Threads) (v_name : Str) : R ((List Str)) :=
(m_Threads_sure v_self v_name).bind fun r6 =>
(dgetR v_self.pile_of v_name).bind fun y12 =>
(dgetR v_self.piles y12).bind fun x16 =>
R.need ((x16).length ≤ sizeLine) <|
(compR (fun (_ : Unit) (x26 : Str) =>
if (dhas v_self.goes_to x26) = true then (
R.ok ((), some (x26))) else R.ok ((), none)) (x16) ()).bind fun (t30 : Unit × List Str) =>
R.need (t30.2.length < 64) <|
R.ok (sortT t30.2)
def m_Threads_thread_A (v_self : Threads) (v_name : Any) : R ((List Str)) :=
(m_Threads_sure_A v_self v_name).bind fun r6 =>
(Any.asStr v_name).bind fun s12 =>
(dgetR v_self.pile_of s12).bind fun y15 =>
(dgetR v_self.piles y15).bind fun x19 =>
R.need ((x19).length ≤ sizeLine) <|
(compR (fun (_ : Unit) (x29 : Str) =>
if (dhas v_self.goes_to x29) = true then (
R.ok ((), some (x29))) else R.ok ((), none)) (x19) ()).bind fun (t33 : Unit × List Str) =>
R.need (t33.2.length < 64) <|
R.ok (sortT t33.2)
def m_Threads_threads (v_self : Threads) : R ((List (List Str))) :=
R.need (v_self.goes_to.length < 64) <|
(forF (ρ := ((List (List Str)))) (fun (s10 : (List (List Str)) × (List (Int × Bool))) (x11 : Str) =>
(dgetR v_self.pile_of x11).bind fun y20 =>
if (dhas s10.2 y20) = true then (
R.ok (.go (s10.1, s10.2))) else (
(dgetR v_self.pile_of x11).bind fun y25 =>
R.need (s10.2.length < sizeLine) <|
(m_Threads_thread v_self x11).bind fun r30 =>
R.need (s10.1.length < sizeLine) <|
R.ok (.go (s10.1 ++ [r30], dput s10.2 y25 true)))) (sortT (v_self.goes_to.map (·.1))) (([] : (List (List Str))), ([] : (List (Int × Bool))))).bind (contF (fun (s10 : (List (List Str)) × (List (Int × Bool))) =>
R.ok (s10.1)) (fun o44 => .ok o44))
def m_Threads_answers_to (v_self : Threads) (v_name : Str) : R ((List Str)) :=
R.need (((dget v_self.comes_from v_name).getD ([] : (List (Str × Bool)))).length < 64) <|
R.ok (sortT (((dget v_self.comes_from v_name).getD ([] : (List (Str × Bool)))).map (·.1)))
def m_Threads_depth (v_self : Threads) (v_name : Str) : R Int :=
(m_Threads_sure v_self v_name).bind fun r6 =>
(R.ok (mergeD [] ([(v_name, true)] : (List (Str × Bool))) : (List (Str × Bool)))).bind fun y13 =>
(dgetR v_self.goes_to v_name).bind fun y14 =>
(whileN 64 (fun (s18 : (List (Str × Bool)) × Str) => (dhas v_self.goes_to s18.2) && (!dhas s18.1 s18.2)) (fun (s18 : (List (Str × Bool)) × Str) =>
R.need (s18.1.length < sizeLine) <|
(dgetR v_self.goes_to s18.2).bind fun y20 =>
R.ok (dput s18.1 s18.2 true, y20)) (y13, y14)).bind fun (s18 : (List (Str × Bool)) × Str) =>
R.ok ((s18.1.length : Int) - 1)
def m_Threads_depth_A (v_self : Threads) (v_name : Any) : R Int :=
(m_Threads_sure_A v_self v_name).bind fun r6 =>
(Any.asStr v_name).bind fun s13 =>
(R.ok (mergeD [] ([(s13, true)] : (List (Str × Bool))) : (List (Str × Bool)))).bind fun y16 =>
(Any.asStr v_name).bind fun s17 =>
(dgetR v_self.goes_to s13).bind fun y20 =>
(whileN 64 (fun (s24 : (List (Str × Bool)) × Str) => (dhas v_self.goes_to s24.2) && (!dhas s24.1 s24.2)) (fun (s24 : (List (Str × Bool)) × Str) =>
R.need (s24.1.length < sizeLine) <|
(dgetR v_self.goes_to s24.2).bind fun y26 =>
R.ok (dput s24.1 s24.2 true, y26)) (y16, y20)).bind fun (s24 : (List (Str × Bool)) × Str) =>
R.ok ((s24.1.length : Int) - 1)
def m_law_draws (v_law_script : Script) (v_law_many : Int) : R ((List Int)) :=
R.need (-(2 ^ 62) ≤ v_law_many ∧ v_law_many < 2 ^ 62) <|
(forR (fun (s3 : (List Int) × Int) (x4 : Int) =>
(if (decide (0 < (v_law_script.ns.length : Int))) = true then (
R.need (0 < (v_law_script.ns.length : Int)) <|
(idxR v_law_script.ns (x4 % (v_law_script.ns.length : Int))).bind fun x10 =>
R.ok (x10)) else (
R.ok (0))).bind fun (s8 : Int) =>
(R.ok (((((s3.2 * 48271) + s8) + x4) + 1) % 2147483647 : Int)).bind fun y11 =>
R.need (mulOk (y11) (y11)) <|
R.need (s3.1.length < sizeLine) <|
R.ok (s3.1 ++ [(y11 * y11) % 2147483629], y11)) (rngL 0 (v_law_many).toNat) (([] : (List Int)), 7)).bind fun (s3 : (List Int) × Int) =>
R.ok (s3.1)
def m_law_name_by (v_law_shape : Int) (v_law_k : Int) : R Str :=
if (decide ((v_law_shape % 4) = 0)) = true then (
(idxR (("abcdefghijklmnopqrstuvwxyz0123456789" : Str)).cps.toList (((v_law_shape / 4) + (v_law_k / 20)) % 36)).bind fun c2 =>
R.need ((sg (c2)).length * (1 + (v_law_k % 20) : Int).toNat ≤ sizeLine ∧ -(2 ^ 62) ≤ (1 + (v_law_k % 20) : Int) ∧ (1 + (v_law_k % 20) : Int) < 2 ^ 62) <|
R.ok (repS (sg (c2)) (1 + (v_law_k % 20) : Int).toNat)) else (
(R.ok ((v_law_shape / 4) % 18 : Int)).bind fun y4 =>
R.need (0 < (19 - y4)) <|
R.need (-(2 ^ 62) ≤ ((y4 + 2) + ((v_law_shape / 72) % (19 - y4))) ∧ ((y4 + 2) + ((v_law_shape / 72) % (19 - y4))) < 2 ^ 62) <|
(forR (fun (s7 : Str) (x8 : Int) =>
(if (decide (x8 = y4)) = true then (
(idxR (("abcdefghijklmnopqrstuvwxyz0123456789" : Str)).cps.toList (((v_law_shape / 1368) + (v_law_k / 36)) % 36)).bind fun c12 =>
R.need ((s7).length + (sg (c12)).length ≤ sizeLine) <|
(R.ok (s7 ++ (sg (c12)) : Str)).bind fun y14 =>
R.ok (y14)) else (
(if (decide (x8 = (y4 + 1))) = true then (
(idxR (("abcdefghijklmnopqrstuvwxyz0123456789" : Str)).cps.toList (((v_law_shape / 49248) + v_law_k) % 36)).bind fun c16 =>
R.need ((s7).length + (sg (c16)).length ≤ sizeLine) <|
(R.ok (s7 ++ (sg (c16)) : Str)).bind fun y18 =>
R.ok (y18)) else (
R.need (mulOk (x8) (1 + (v_law_shape % 7))) <|
(idxR (("abcdefghijklmnopqrstuvwxyz0123456789" : Str)).cps.toList (((v_law_shape / 3) + (x8 * (1 + (v_law_shape % 7)))) % 36)).bind fun c20 =>
R.need ((s7).length + (sg (c20)).length ≤ sizeLine) <|
(R.ok (s7 ++ (sg (c20)) : Str)).bind fun y22 =>
R.ok (y22))).bind fun (s15 : Str) =>
R.ok (s15))).bind fun (s11 : Str) =>
R.ok (s11)) (rngL 0 ((y4 + 2) + ((v_law_shape / 72) % (19 - y4))).toNat) (("" : Str))).bind fun (s7 : Str) =>
R.ok (s7))
def m_law_pool (v_law_draws_here : (List Int)) : R ((List Str)) :=
(idxR v_law_draws_here (1)).bind fun x1 =>
(R.ok (2 + (x1 % 9) : Int)).bind fun y2 =>
R.need (-(2 ^ 62) ≤ y2 ∧ y2 < 2 ^ 62) <|
R.need ((rngL 0 (y2).toNat).length ≤ sizeLine) <|
(compR (fun (_ : Unit) (x6 : Int) =>
(idxR v_law_draws_here (0)).bind fun x9 =>
(m_law_name_by x9 x6).bind fun r10 =>
R.ok ((), some (r10))) (rngL 0 (y2).toNat) ()).bind fun (t11 : Unit × List Str) =>
R.ok (t11.2)
def m_law_called (v_law_call : Int) (v_law_threads : Threads) (v_law_index : Index) (v_law_name : Str) (v_law_bad : Bool) : R (Any × Threads × Index) :=
if ((decide (v_law_call = 0)) && v_law_bad) = true then (
(m_Threads_add v_law_threads v_law_name ("zother" : Str)).bind fun r4 =>
R.ok ((Any.non, r4, v_law_index))) else (
if ((decide (v_law_call = 4)) && v_law_bad) = true then (
(m_Index_add v_law_index v_law_name ([("zother" : Str)])).bind fun r10 =>
R.ok ((Any.non, v_law_threads, r10))) else (
if (decide (v_law_call = 0)) = true then (
(m_Threads_add v_law_threads v_law_name ("" : Str)).bind fun r15 =>
R.ok ((Any.non, r15, v_law_index))) else (
if (decide (v_law_call = 1)) = true then (
(m_Threads_take_out v_law_threads v_law_name).bind fun r20 =>
R.ok ((Any.non, r20, v_law_index))) else (
if (decide (v_law_call = 2)) = true then (
(m_Threads_thread v_law_threads v_law_name).bind fun r25 =>
R.ok (((Any.lst (r25.map Any.str)), v_law_threads, v_law_index))) else (
if (decide (v_law_call = 3)) = true then (
(m_Threads_depth v_law_threads v_law_name).bind fun r32 =>
R.ok (((Any.int r32), v_law_threads, v_law_index))) else (
if (decide (v_law_call = 4)) = true then (
(m_Index_add v_law_index v_law_name ([v_law_name, ("rent" : Str)])).bind fun r38 =>
R.ok ((Any.non, v_law_threads, r38))) else (
if (decide (v_law_call = 5)) = true then (
(m_Index_take_out v_law_index v_law_name).bind fun r43 =>
R.ok ((Any.non, v_law_threads, r43))) else (
(m_Index_words v_law_index v_law_name).bind fun r47 =>
R.ok (((Any.lst (r47.map Any.str)), v_law_threads, v_law_index))))))))))
def m_law_called_A (v_law_call : Int) (v_law_threads : Threads) (v_law_index : Index) (v_law_name : Any) (v_law_bad : Bool) : R (Any × Threads × Index) :=
if ((decide (v_law_call = 0)) && v_law_bad) = true then (
(Any.asStr v_law_name).bind fun s4 =>
(m_Threads_add v_law_threads s4 ("zother" : Str)).bind fun r7 =>
R.ok ((Any.non, r7, v_law_index))) else (
if ((decide (v_law_call = 4)) && v_law_bad) = true then (
(Any.asStr v_law_name).bind fun s13 =>
(m_Index_add v_law_index s13 ([("zother" : Str)])).bind fun r16 =>
R.ok ((Any.non, v_law_threads, r16))) else (
if (decide (v_law_call = 0)) = true then (
(Any.asStr v_law_name).bind fun s21 =>
(m_Threads_add v_law_threads s21 ("" : Str)).bind fun r24 =>
R.ok ((Any.non, r24, v_law_index))) else (
if (decide (v_law_call = 1)) = true then (
(m_Threads_take_out_A v_law_threads v_law_name).bind fun r29 =>
R.ok ((Any.non, r29, v_law_index))) else (
if (decide (v_law_call = 2)) = true then (
(m_Threads_thread_A v_law_threads v_law_name).bind fun r34 =>
R.ok (((Any.lst (r34.map Any.str)), v_law_threads, v_law_index))) else (
if (decide (v_law_call = 3)) = true then (
(m_Threads_depth_A v_law_threads v_law_name).bind fun r41 =>
R.ok (((Any.int r41), v_law_threads, v_law_index))) else (
if (decide (v_law_call = 4)) = true then (
(Any.asStr v_law_name).bind fun s47 =>
(Any.asStr v_law_name).bind fun s50 =>
(m_Index_add v_law_index s47 ([s47, ("rent" : Str)])).bind fun r53 =>
R.ok ((Any.non, v_law_threads, r53))) else (
if (decide (v_law_call = 5)) = true then (
(m_Index_take_out_A v_law_index v_law_name).bind fun r58 =>
R.ok ((Any.non, v_law_threads, r58))) else (
(m_Index_words_A v_law_index v_law_name).bind fun r62 =>
R.ok (((Any.lst (r62.map Any.str)), v_law_threads, v_law_index))))))))))
def m_law_refused (v_law_call : Int) (v_law_threads : Threads) (v_law_index : Index) (v_law_name : Str) : R (Bool × Threads × Index) :=
R.tryC (m_law_called v_law_call v_law_threads v_law_index v_law_name true) (fun r1 =>
R.ok ((false, r1.2.1, r1.2.2))) (fun x =>
catchR [0, 1, 2, 3, 4, 5, 6] [0, 1, 2, 3, 4, 5, 6] x (
(R.ok ([([1] : List Nat).contains x.cls, ([2] : List Nat).contains x.cls, ([3] : List Nat).contains x.cls] : (List Bool))).bind fun y5 =>
R.need (y5.length + ([([5] : List Nat).contains x.cls, ([6] : List Nat).contains x.cls]).length ≤ sizeLine) <|
(R.ok (y5 ++ ([([5] : List Nat).contains x.cls, ([6] : List Nat).contains x.cls]) : (List Bool))).bind fun y9 =>
(if (([4] : List Nat).contains x.cls) = true then (
(if (([0, 1, 2, 3, 4, 5, 6] : List Nat).contains x.cls) = true then (
R.need (Lay.lay (y9 : (List Bool)) = true) <|
R.need (Lay.lay (true : Bool) = true) <|
R.ok (decide (((y9.countP fun y => decide (y = true) : Nat) : Int) = 0))) else R.ok false).bind fun b11 =>
R.ok (b11)) else R.ok false).bind fun b10 =>
R.ok ((b10, v_law_threads, v_law_index))) (.bad))
def m_law_refused_A (v_law_call : Int) (v_law_threads : Threads) (v_law_index : Index) (v_law_name : Any) : R (Bool × Threads × Index) :=
R.tryC (m_law_called_A v_law_call v_law_threads v_law_index v_law_name true) (fun r1 =>
R.ok ((false, r1.2.1, r1.2.2))) (fun x =>
catchR [0, 1, 2, 3, 4, 5, 6] [0, 1, 2, 3, 4, 5, 6] x (
(R.ok ([([1] : List Nat).contains x.cls, ([2] : List Nat).contains x.cls, ([3] : List Nat).contains x.cls] : (List Bool))).bind fun y5 =>
R.need (y5.length + ([([5] : List Nat).contains x.cls, ([6] : List Nat).contains x.cls]).length ≤ sizeLine) <|
(R.ok (y5 ++ ([([5] : List Nat).contains x.cls, ([6] : List Nat).contains x.cls]) : (List Bool))).bind fun y9 =>
(if (([4] : List Nat).contains x.cls) = true then (
(if (([0, 1, 2, 3, 4, 5, 6] : List Nat).contains x.cls) = true then (
R.need (Lay.lay (y9 : (List Bool)) = true) <|
R.need (Lay.lay (true : Bool) = true) <|
R.ok (decide (((y9.countP fun y => decide (y = true) : Nat) : Int) = 0))) else R.ok false).bind fun b11 =>
R.ok (b11)) else R.ok false).bind fun b10 =>
R.ok ((b10, v_law_threads, v_law_index))) (.bad))
def m_law_due (v_law_call : Int) (v_law_name : Str) : R Any :=
if (decide (v_law_call ∈ ([0, 1, 4, 5]))) = true then (
R.ok (Any.non)) else (
if (decide (v_law_call = 2)) = true then (
R.ok ((Any.lst (([v_law_name]).map Any.str)))) else (
if (decide (v_law_call = 3)) = true then (
R.ok ((Any.int 0))) else (
R.need (-(2 ^ 62) ≤ (if (!decide (v_law_name = ("rent" : Str))) = true then 1 else 0 : Int) ∧ (if (!decide (v_law_name = ("rent" : Str))) = true then 1 else 0 : Int) < 2 ^ 62) <|
R.need (([("rent" : Str)]).length * (if (!decide (v_law_name = ("rent" : Str))) = true then 1 else 0 : Int).toNat ≤ sizeLine) <|
R.need (([v_law_name]).length + (repL ([("rent" : Str)]) (if (!decide (v_law_name = ("rent" : Str))) = true then 1 else 0 : Int).toNat).length ≤ sizeLine) <|
R.need ((([v_law_name]) ++ (repL ([("rent" : Str)]) (if (!decide (v_law_name = ("rent" : Str))) = true then 1 else 0 : Int).toNat)).length < 64) <|
R.ok ((Any.lst ((sortT (([v_law_name]) ++ (repL ([("rent" : Str)]) (if (!decide (v_law_name = ("rent" : Str))) = true then 1 else 0 : Int).toNat))).map Any.str))))))
def m_law_step (v_law_call : Int) (v_law_threads : Threads) (v_law_index : Index) (v_law_name : Str) (v_law_there : (List (List Str))) : R (Bool × Threads × Index × (List (List Str))) :=
(bind2 (ixJ v_law_there (if (decide (3 < v_law_call)) = true then 1 else 0)) fun j1 x2 =>
if (decide ((decide (v_law_name ∈ x2)) = (decide (v_law_call ∈ ([0, 4]))))) = true then (
(m_law_refused v_law_call v_law_threads v_law_index v_law_name).bind fun r9 =>
R.ok ((r9.1, r9.2.1, r9.2.2, v_law_there))) else (
(m_law_called v_law_call v_law_threads v_law_index v_law_name false).bind fun r10 =>
(if (decide (v_law_call ∈ ([0, 4]))) = true then (
R.need (x2.length < sizeLine) <|
R.ok (x2 ++ [v_law_name])) else (
R.ok (x2))).bind fun (s14 : (List Str)) =>
(if (decide (v_law_call ∈ ([1, 5]))) = true then (
R.need (v_law_name ∈ s14) <|
R.ok (remS s14 v_law_name)) else (
R.ok (s14))).bind fun (s17 : (List Str)) =>
if (r10.1.is "bool") = true then (
R.ok ((false, r10.2.1, r10.2.2, v_law_there.set j1 s17))) else (
(m_law_due v_law_call v_law_name).bind fun r20 =>
(eqA r10.1 r20).bind fun b23 =>
R.ok ((b23, r10.2.1, r10.2.2, v_law_there.set j1 s17)))))
def m_law (v_law_script : Script) : R Bool :=
(m_law_draws v_law_script 60).bind fun r1 =>
(m_law_pool r1).bind fun r3 =>
(m_Threads___init__ ).bind fun r7 =>
(m_Index___init__ ).bind fun r10 =>
(R.ok ([([] : (List Str)), ([] : (List Str))] : (List (List Str)))).bind fun y14 =>
(idxR r1 (2)).bind fun x15 =>
R.need (-(2 ^ 62) ≤ (2 + (x15 % 13)) ∧ (2 + (x15 % 13)) < 2 ^ 62) <|
(forF (ρ := Bool) (fun (s17 : Threads × Index × (List (List Str))) (x18 : Int) =>
(idxR r1 (4 + (3 * x18))).bind fun x25 =>
R.need (0 < (r3.length : Int)) <|
(idxR r3 (x25 % (r3.length : Int))).bind fun x27 =>
(idxR r1 (5 + (3 * x18))).bind fun x28 =>
(R.ok (x28 % 7 : Int)).bind fun y29 =>
(m_law_step y29 s17.1 s17.2.1 x27 s17.2.2).bind fun r30 =>
if (!r30.1) = true then (
R.ok (.out (false))) else (
(idxR ([4, 5, 6, 4, 0, 1, 1]) (y29)).bind fun x33 =>
(idxR r1 (6 + (3 * x18))).bind fun x34 =>
bind2 (if (decide ((x34 % 3) = 1)) = true then (
(m_law_step x33 r30.2.1 r30.2.2.1 x27 r30.2.2.2).bind fun r37 =>
R.ok ((r37.2.1, r37.2.2.1, r37.2.2.2), !r37.1)) else R.ok ((r30.2.1, r30.2.2.1, r30.2.2.2), false)) fun (s35 : Threads × Index × (List (List Str))) (b36 : Bool) =>
if b36 = true then (
R.ok (.out (false))) else (
(m_Threads_names s35.1).bind fun r41 =>
(bind2 (ixJ s35.2.2 (0)) fun j43 x44 =>
R.need (x44.length < 64) <|
R.need (Lay.lay (r41 : (List Str)) = true) <|
R.need (Lay.lay (sortT x44 : (List Str)) = true) <|
(if (!decide ((r41 : (List Str)) = sortT x44)) = true then R.ok true else (
(m_Index_having s35.2.1 ("rent" : Str)).bind fun r56 =>
(bind2 (ixJ s35.2.2 (1)) fun j58 x59 =>
R.need (x59.length < 64) <|
R.need (Lay.lay (r56 : (List Str)) = true) <|
R.need (Lay.lay (sortT x59 : (List Str)) = true) <|
R.ok (!decide ((r56 : (List Str)) = sortT x59))))).bind fun b53 =>
if b53 = true then (
R.ok (.out (false))) else (
(m_Threads_answers_to s35.1 ("zother" : Str)).bind fun r71 =>
R.need (Lay.lay (r71 : (List Str)) = true) <|
R.need (Lay.lay (([] : (List Str)) : (List Str)) = true) <|
(if (!decide ((r71 : (List Str)) = ([] : (List Str)))) = true then R.ok true else (
(m_Index_having s35.2.1 ("zother" : Str)).bind fun r79 =>
R.need (Lay.lay (r79 : (List Str)) = true) <|
R.need (Lay.lay (([] : (List Str)) : (List Str)) = true) <|
(if (!decide ((r79 : (List Str)) = ([] : (List Str)))) = true then R.ok true else (
(m_Index_all_words s35.2.1).bind fun r87 =>
R.ok (decide (("zother" : Str) ∈ r87)))).bind fun b84 =>
R.ok (b84))).bind fun b76 =>
if b76 = true then (
R.ok (.out (false))) else (
(idxR r1 (6 + (3 * x18))).bind fun x90 =>
bind2 (if (decide (0 < (x90 % 3))) = true then (
(m_law_step y29 s35.1 s35.2.1 x27 s35.2.2).bind fun r93 =>
R.ok ((r93.2.1, r93.2.2.1, r93.2.2.2), !r93.1)) else R.ok ((s35.1, s35.2.1, s35.2.2), false)) fun (s91 : Threads × Index × (List (List Str))) (b92 : Bool) =>
if b92 = true then (
R.ok (.out (false))) else (
R.ok (.go (s91.1, s91.2.1, s91.2.2))))))))) (rngL 0 (2 + (x15 % 13)).toNat) (r7, r10, y14)).bind (contF (fun (s17 : Threads × Index × (List (List Str))) =>
(forF (ρ := Bool) (fun (s96 : Threads × Index) (x97 : Int) =>
(idxR r1 (3)).bind fun x102 =>
R.need (0 < (1 + x97) ∧ (1 + x97) < 1073741824) <|
(idxR ([Any.non, (Any.int 0), (Any.int 7)]) ((x102 / (1 + x97)) % 3)).bind fun x104 =>
(m_law_refused_A x97 s96.1 s96.2 x104).bind fun r112 =>
if (!r112.1) = true then (
R.ok (.out (false))) else (
R.ok (.go (r112.2.1, r112.2.2)))) ([1, 2, 3, 5, 6]) (s17.1, s17.2.1)).bind (contF (fun (s96 : Threads × Index) =>
(m_Threads_threads s96.1).bind fun r116 =>
(bind2 (ixJ s17.2.2 (0)) fun j118 x119 =>
R.need (x119.length < 64) <|
R.need ((sortT x119).length ≤ sizeLine) <|
(compR (fun (_ : Unit) (x128 : Str) =>
R.ok ((), some ([x128]))) (sortT x119) ()).bind fun (t133 : Unit × List (List Str)) =>
R.need (Lay.lay (r116 : (List (List Str))) = true) <|
R.need (Lay.lay (t133.2 : (List (List Str))) = true) <|
if (!decide ((r116 : (List (List Str))) = t133.2)) = true then (
R.ok (false)) else (
(m_Threads_add s96.1 ("zfresh" : Str) ("zother" : Str)).bind fun r139 =>
(forF (ρ := Bool) (fun (s141 : Threads × Index) (x142 : Int) =>
(m_law_refused x142 s141.1 s141.2 ("zother" : Str)).bind fun r146 =>
if (!r146.1) = true then (
R.ok (.out (false))) else (
R.ok (.go (r146.2.1, r146.2.2)))) ([2, 3, 1, 2]) (r139, s96.2)).bind (contF (fun (s141 : Threads × Index) =>
(m_Threads_thread s141.1 ("zfresh" : Str)).bind fun r150 =>
R.need (Lay.lay (r150 : (List Str)) = true) <|
R.need (Lay.lay ([("zfresh" : Str)] : (List Str)) = true) <|
(if (decide ((r150 : (List Str)) = [("zfresh" : Str)])) = true then (
(m_Threads_names s141.1).bind fun r158 =>
(bind2 (ixJ s17.2.2 (0)) fun j160 x161 =>
R.need (x161.length + ([("zfresh" : Str)]).length ≤ sizeLine) <|
R.need ((x161 ++ ([("zfresh" : Str)])).length < 64) <|
R.need (Lay.lay (r158 : (List Str)) = true) <|
R.need (Lay.lay (sortT (x161 ++ ([("zfresh" : Str)])) : (List Str)) = true) <|
R.ok (decide ((r158 : (List Str)) = sortT (x161 ++ ([("zfresh" : Str)])))))) else R.ok false).bind fun b155 =>
R.ok (b155)) (fun o173 => .ok o173))))) (fun o174 => .ok o174))) (fun o175 => .ok o175))
end Lw
namespace Lw
open PySem L2 Ml
theorem alph_len : ("abcdefghijklmnopqrstuvwxyz0123456789" : Str).cps.toList.length = 36 := by decide +kernel
def wsg (c : Nat) : Bool := (97 ≤ c && c ≤ 122) || (48 ≤ c && c ≤ 57)
theorem wsg_lt {c : Nat} (h : wsg c = true) : c < 128 := by
  unfold wsg at h
  simp at h
  omega
theorem alph_wsg : ∀ c, c ∈ ("abcdefghijklmnopqrstuvwxyz0123456789" : Str).cps.toList → wsg c = true := by
  have : ("abcdefghijklmnopqrstuvwxyz0123456789" : Str).cps.toList.all wsg = true := by decide +kernel
  exact fun c hc => List.all_eq_true.mp this c hc
/-- word signs alone -/
def Wsg (x : Str) : Prop := ∀ c, c ∈ x.cps.toList → wsg c = true
theorem Wsg.asc {x : Str} (h : Wsg x) : Asc x := fun c hc => wsg_lt (h c hc)
theorem Wsg.app {a b : Str} (ha : Wsg a) (hb : Wsg b) : Wsg (a ++ b) := fun c hc => by
  rw [tl_app] at hc
  rcases List.mem_append.mp hc with h | h
  · exact ha c h
  · exact hb c h
theorem Wsg.sg {c : Nat} (h : wsg c = true) : Wsg (sg c) := fun d hd => by
  have : d = c := by simpa [Ml.sg] using hd
  rw [this]; exact h
theorem Wsg.lit {x : Str} (h : x.cps.toList.all wsg = true) : Wsg x := fun c hc => List.all_eq_true.mp h c hc
theorem pdA_str (s : Str) : pdA (.str s) = .str s := by rw [pdA]
theorem plA_str (s : Str) : plA (.str s) = true := by rw [plA] <;> (intro _ h; cases h)
def isWord (s : Str) : Bool := (decide (1 ≤ s.length) && decide (s.length ≤ 20)) && s.cps.toList.all wsg
theorem isWord_iff {s : Str} : isWord s = true ↔ Wsg s ∧ 1 ≤ s.length ∧ s.length ≤ 20 := by
  unfold isWord
  simp only [Bool.and_eq_true, decide_eq_true_eq, List.all_eq_true]
  exact ⟨fun ⟨⟨a, b⟩, c⟩ => ⟨c, a, b⟩, fun ⟨c, a, b⟩ => ⟨⟨a, b⟩, c⟩⟩
section
variable {κ β : Type} [DecidableEq κ]
theorem dget_nil (k : κ) : dget ([] : List (κ × β)) k = none := rfl
theorem dget_cons (p : κ × β) (d : List (κ × β)) (k : κ) : dget (p :: d) k = if p.1 = k then some p.2 else dget d k := by
  unfold dget
  by_cases h : p.1 = k
  · rw [List.find?_cons_of_pos (by simpa using h), if_pos h]; rfl
  · rw [List.find?_cons_of_neg (by simpa using h), if_neg h]
theorem dget_none {d : List (κ × β)} {k : κ} : dget d k = none ↔ ¬ k ∈ d.map (·.1) := by
  induction d with
  | nil => simp [dget_nil]
  | cons p d ih =>
    rw [dget_cons, List.map_cons, List.mem_cons]
    by_cases h : p.1 = k
    · rw [if_pos h]; simp [h]
    · rw [if_neg h, ih]
      exact ⟨fun q z => z.elim (fun e => h e.symm) q, fun q z => q (.inr z)⟩
theorem dhas_iff {d : List (κ × β)} {k : κ} : dhas d k = true ↔ k ∈ d.map (·.1) := by
  unfold dhas
  cases c : dget d k with
  | none => simp [dget_none.mp c]
  | some y =>
    refine ⟨fun _ => Classical.byContradiction fun h => ?_, fun _ => rfl⟩
    rw [dget_none.mpr h] at c; cases c
theorem dhas_false {d : List (κ × β)} {k : κ} : dhas d k = false ↔ ¬ k ∈ d.map (·.1) := by
  rw [← dhas_iff]; simp
theorem dget_app (d e : List (κ × β)) (k : κ) : dget (d ++ e) k = (dget d k).or (dget e k) := by
  induction d with
  | nil => rfl
  | cons p d ih =>
    rw [List.cons_append, dget_cons, dget_cons, ih]
    by_cases h : p.1 = k
    · rw [if_pos h, if_pos h]; rfl
    · rw [if_neg h, if_neg h]
theorem dany_iff {d : List (κ × β)} {k : κ} : (d.any fun kv => decide (kv.1 = k)) = dhas d k := by
  rw [Bool.eq_iff_iff, dhas_iff, List.any_eq_true]
  simp only [decide_eq_true_eq, List.mem_map]
theorem dput_eq (d : List (κ × β)) (k : κ) (v : β) : dput d k v = if dhas d k = true then d.map (fun kv => if kv.1 = k then (kv.1, v) else kv) else d ++ [(k, v)] := by
  unfold dput
  rw [dany_iff]
theorem dget_put (d : List (κ × β)) (k k' : κ) (v : β) : dget (dput d k v) k' = if k = k' then some v else dget d k' := by
  rw [dput_eq]
  by_cases h : dhas d k = true
  · rw [if_pos h]
    have gen : ∀ e : List (κ × β), dget (e.map fun kv => if kv.1 = k then (kv.1, v) else kv) k' = if k = k' ∧ dhas e k = true then some v else dget e k' := by
      intro e
      induction e with
      | nil => simp [dget_nil, dhas]
      | cons p e ih =>
        rw [List.map_cons, dget_cons, dget_cons, ih]
        have hc : dhas (p :: e) k = (decide (p.1 = k) || dhas e k) := by
          unfold dhas; rw [dget_cons]
          by_cases q : p.1 = k <;> simp [q]
        rw [hc]
        by_cases q : p.1 = k
        · simp only [q, if_true, decide_true, Bool.true_or, and_true]
          by_cases z : k = k' <;> simp [z]
        · simp only [q, if_false, decide_false, Bool.false_or]
          by_cases z : p.1 = k'
          · have : ¬ k = k' := fun e => q (z.trans e.symm)
            simp [z, this]
          · simp [z]
    rw [gen]
    by_cases z : k = k'
    · subst z; rw [if_pos ⟨rfl, h⟩, if_pos rfl]
    · rw [if_neg fun q => z q.1, if_neg z]
  · rw [if_neg h, dget_app, dget_cons, dget_nil]
    by_cases z : k = k'
    · subst z
      have : dget d k = none := by
        cases c : dget d k with
        | none => rfl
        | some y => exact absurd (by unfold dhas; rw [c]; rfl) h
      rw [this, if_pos rfl]; rfl
    · rw [if_neg z, if_neg z, Option.or_none]
theorem dget_drop (d : List (κ × β)) (k k' : κ) : dget (ddrop d k) k' = if k = k' then none else dget d k' := by
  unfold ddrop
  induction d with
  | nil => simp [dget_nil]
  | cons p d ih =>
    by_cases h : p.1 = k
    · rw [List.filter_cons_of_neg (by simp [h]), ih, dget_cons]
      by_cases z : k = k'
      · simp [z]
      · rw [if_neg z, if_neg z, if_neg (fun e => z (h.symm.trans e))]
    · rw [List.filter_cons_of_pos (by simpa using h), dget_cons, ih, dget_cons]
      by_cases z : p.1 = k'
      · have : ¬ k = k' := fun e => h (z.trans e.symm)
        simp [z, this]
      · simp [z]
theorem keys_dput (d : List (κ × β)) (k : κ) (v : β) : (dput d k v).map (·.1) = if dhas d k = true then d.map (·.1) else d.map (·.1) ++ [k] := by
  rw [dput_eq]
  by_cases h : dhas d k = true
  · rw [if_pos h, if_pos h, List.map_map]
    refine List.map_congr_left fun p _ => ?_
    show (if p.1 = k then (p.1, v) else p).1 = p.1
    split <;> rfl
  · rw [if_neg h, if_neg h, List.map_append]; rfl
theorem keys_ddrop (d : List (κ × β)) (k : κ) : (ddrop d k).map (·.1) = (d.map (·.1)).filter fun x => decide (x ≠ k) := by
  unfold ddrop
  rw [List.filter_map]; rfl
theorem nodup_dput {d : List (κ × β)} (h : (d.map (·.1)).Nodup) (k : κ) (v : β) : ((dput d k v).map (·.1)).Nodup := by
  rw [keys_dput]
  by_cases c : dhas d k = true
  · rw [if_pos c]; exact h
  · rw [if_neg c, List.nodup_append]
    have c' : ¬ k ∈ d.map (·.1) := fun z => c (dhas_iff.mpr z)
    exact ⟨h, by simp, fun x hx y hy e => c' (by rw [List.mem_singleton] at hy; subst hy; subst e; exact hx)⟩
theorem nodup_ddrop {d : List (κ × β)} (h : (d.map (·.1)).Nodup) (k : κ) : ((ddrop d k).map (·.1)).Nodup := by
  rw [keys_ddrop]; exact h.filter _
theorem mem_kput {d : List (κ × β)} {k x : κ} {v : β} : x ∈ (dput d k v).map (·.1) ↔ x = k ∨ x ∈ d.map (·.1) := by
  rw [keys_dput]
  by_cases c : dhas d k = true
  · rw [if_pos c]
    exact ⟨.inr, fun h => h.elim (fun e => by rw [e]; exact dhas_iff.mp c) id⟩
  · rw [if_neg c, List.mem_append, List.mem_singleton]
    exact Or.comm
theorem mem_kdrop {d : List (κ × β)} {k x : κ} : x ∈ (ddrop d k).map (·.1) ↔ x ∈ d.map (·.1) ∧ x ≠ k := by
  rw [keys_ddrop, List.mem_filter]; simp
theorem len_dput (d : List (κ × β)) (k : κ) (v : β) : (dput d k v).length ≤ d.length + 1 := by
  rw [dput_eq]; split
  · rw [List.length_map]; omega
  · simp
theorem dget_mem {d : List (κ × β)} {k : κ} {v : β} (h : dget d k = some v) : (k, v) ∈ d := by
  induction d with
  | nil => cases h
  | cons p d ih =>
    rw [dget_cons] at h
    by_cases c : p.1 = k
    · rw [if_pos c] at h; cases h; subst c; simp
    · rw [if_neg c] at h; exact List.mem_cons_of_mem _ (ih h)
theorem dget_of_mem {d : List (κ × β)} (n : (d.map (·.1)).Nodup) {k : κ} {v : β} (h : (k, v) ∈ d) : dget d k = some v := by
  induction d with
  | nil => cases h
  | cons p d ih =>
    rw [List.map_cons, List.nodup_cons] at n
    rw [dget_cons]
    rcases List.mem_cons.mp h with rfl | h
    · rw [if_pos rfl]
    · have : ¬ p.1 = k := fun e => n.1 (by rw [e]; exact List.mem_map.mpr ⟨(k, v), h, rfl⟩)
      rw [if_neg this]; exact ih n.2 h
theorem dgetR_ok {d : List (κ × β)} {k : κ} {v : β} (h : dget d k = some v) : dgetR d k = .ok v := by unfold dgetR; rw [h]
end
theorem nodup_lenG {α : Type} [DecidableEq α] : ∀ {xs ys : List α}, xs.Nodup → (∀ x, x ∈ xs → x ∈ ys) → xs.length ≤ ys.length
  | [], _, _, _ => Nat.zero_le _
  | x :: r, ys, d, m => by
    rw [List.nodup_cons] at d
    have hx : x ∈ ys := m x (by simp)
    have ih := nodup_lenG (xs := r) (ys := ys.erase x) d.2 fun y hy => (List.mem_erase_of_ne fun e => d.1 (by rw [← e]; exact hy)).mpr (m y (by simp [hy]))
    rw [List.length_erase_of_mem hx] at ih
    have : 0 < ys.length := List.length_pos_of_mem hx
    rw [List.length_cons]; omega
theorem rng_pre {n : Nat} {pre q : List Int} {x : Int} (e : rngL 0 n = pre ++ x :: q) : x = (pre.length : Int) ∧ pre.length < n := by
  have h1 : pre.length < (rngL 0 n).length := pre_lt e
  rw [rngL_len] at h1
  refine ⟨?_, h1⟩
  have h2 : (rngL 0 n)[pre.length]? = some x := by rw [e]; simp
  unfold rngL at h2
  rw [List.getElem?_map, List.getElem?_range h1] at h2
  simp at h2
  omega
theorem all_lay {n : Nat} : ∀ {xs : List Any}, (∀ x, x ∈ xs → plA x = true ∧ (pdA x).canLay0 = true ∧ (pdA x).depth ≤ n) → plAL xs = true ∧ PyData.canLayAll0 (pdAL xs) = true ∧ PyData.depthAll (pdAL xs) ≤ n
  | [], _ => by
    rw [plAL, pdAL]
    simp [PyData.canLayAll0, PyData.depthAll]
  | x :: r, h => by
    obtain ⟨a1, a2, a3⟩ := h x (by simp)
    obtain ⟨b1, b2, b3⟩ := all_lay (n := n) (xs := r) fun y hy => h y (List.mem_cons_of_mem _ hy)
    rw [plAL, pdAL]
    simp only [PyData.canLayAll0, PyData.depthAll, a1, a2, b1, b2]
    exact ⟨rfl, rfl, by omega⟩
theorem lst_lay {n : Nat} {xs : List Any} (h : ∀ x, x ∈ xs → plA x = true ∧ (pdA x).canLay0 = true ∧ (pdA x).depth ≤ n) : plA (.lst xs) = true ∧ (pdA (.lst xs)).canLay0 = true ∧ (pdA (.lst xs)).depth ≤ n + 1 := by
  obtain ⟨h1, h2, h3⟩ := all_lay h
  rw [plA, pdA]
  simp only [PyData.canLay0, PyData.depth]
  exact ⟨h1, h2, by omega⟩
theorem eqA_self {x : Any} (h1 : plA x = true) (h2 : (pdA x).canLay0 = true) (h3 : (pdA x).depth ≤ 60) : eqA x x = .ok true := by
  have s : SeqAt.shaped (pdA x) = true := by
    unfold SeqAt.shaped
    rw [h2, decide_eq_true (show (pdA x).depth ≤ 64 by omega)]; rfl
  unfold eqA
  rw [R.need_pos ⟨h1, h1, s, s⟩, SeqAt.eqv_refl _ h2]
theorem dhas_get {κ β : Type} [DecidableEq κ] {d : List (κ × β)} {k : κ} (h : dhas d k = true) : ∃ v, dget d k = some v := by
  unfold dhas at h
  exact Option.isSome_iff_exists.mp h
theorem asc_pl {w : Str} (h : Asc w) : plA (Any.str w) = true ∧ (pdA (Any.str w)).canLay0 = true ∧ (pdA (Any.str w)).depth ≤ 1 := ⟨plA_str w, by rw [pdA_str]; exact h.lay, by rw [pdA_str]; exact Nat.zero_le _⟩
theorem strs_lay {l : List Str} (h : ∀ x, x ∈ l → Asc x) : (Lay.lay l : Bool) = true := List.all_eq_true.mpr fun x hx => (h x hx).lay
theorem lsts_lay {l : List Str} (h : ∀ x, x ∈ l → Asc x) : plA (.lst (l.map Any.str)) = true ∧ (pdA (.lst (l.map Any.str))).canLay0 = true ∧ (pdA (.lst (l.map Any.str))).depth ≤ 2 :=
  lst_lay (n := 1) fun x hx => by
    obtain ⟨w, hw, rfl⟩ := List.mem_map.mp hx
    exact asc_pl (h w hw)
theorem exB {α : Type} {m : R α} {f : α → R ρ} {x : Exc} (h : m = .exc x) : m.bind f = .exc x := by rw [h]; rfl
theorem exIfT {α : Type} {c : Prop} [Decidable c] {a b : R α} {x : Exc} (h : c) (k : a = .exc x) : (if c then a else b) = .exc x := by rw [if_pos h]; exact k
theorem exIfF {α : Type} {c : Prop} [Decidable c] {a b : R α} {x : Exc} (h : ¬ c) (k : b = .exc x) : (if c then a else b) = .exc x := by rw [if_neg h]; exact k
theorem draws_ok (s : Script) {n : Int} (hn : 0 ≤ n ∧ n ≤ 400) : Ok (m_law_draws s n) fun r => (r.length : Int) = n ∧ ∀ x, x ∈ r → 0 ≤ x ∧ x < 2147483629 := by
  unfold m_law_draws
  refine .need (by omega) ?_
  refine .forI (fun pre (s : List Int × Int) => s.1.length = pre.length ∧ (∀ x, x ∈ s.1 → 0 ≤ x ∧ x < 2147483629)) ⟨rfl, by simp⟩ ?_ ?_
  · rintro p x q ⟨l, m⟩ ep ⟨hl, hx⟩
    have hp := pre_lt ep
    rw [rngL_len] at hp
    refine .bind (Q := fun _ => True) (.ite (fun c => ?_) fun _ => .ret trivial) fun c _ => .lets ?_
    · have c := of_decide_eq_true c
      exact .need c (.idx (Int.emod_nonneg _ (by omega)) (Int.emod_lt_of_pos _ c) fun _ _ _ => .ret trivial)
    dsimp only
    have hy0 : 0 ≤ (((m * 48271 + c) + x) + 1) % 2147483647 := Int.emod_nonneg _ (by decide)
    have hy1 : (((m * 48271 + c) + x) + 1) % 2147483647 < 2147483647 := Int.emod_lt_of_pos _ (by decide)
    generalize (((m * 48271 + c) + x) + 1) % 2147483647 = y at *
    have hl' : l.length = p.length := hl
    refine .need (show mulOk y y from .inl ⟨by omega, by omega⟩) (.need (lt_line (m := 1000) (by omega) (by decide)) (.ret ⟨by simp [hl'], fun z hz => ?_⟩))
    rcases List.mem_append.mp hz with h | h
    · exact hx z h
    · rw [List.mem_singleton.mp h]
      exact ⟨Int.emod_nonneg _ (by decide), Int.emod_lt_of_pos _ (by decide)⟩
  · rintro ⟨l, m⟩ ⟨hl, hx⟩
    exact .ret ⟨by rw [hl, rngL_len]; omega, hx⟩
/-- the sign of a number -/
def sgn (i : Int) : Nat := (("abcdefghijklmnopqrstuvwxyz0123456789" : Str).cps.toList).getD (i % 36).toNat 0
theorem sgn_at {ρ : Type} {P : ρ → Prop} {i : Int} {f : Nat → R ρ} (k : wsg (sgn i) = true → Ok (f (sgn i)) P) : Ok ((idxR ("abcdefghijklmnopqrstuvwxyz0123456789" : Str).cps.toList (i % 36)).bind f) P :=
  .idx (Int.emod_nonneg _ (by decide)) (by rw [alph_len]; exact Int.emod_lt_of_pos _ (by decide)) fun c m e => by
    have : sgn i = c := by unfold sgn; rw [List.getD_eq_getElem?_getD, e]; rfl
    rw [this] at k
    exact k (alph_wsg c m)
theorem sgn_inj {i : Int} {c : Nat} {n : Int} (h : sgn i = c) (hn : (List.range 36).all (fun j => decide ((("abcdefghijklmnopqrstuvwxyz0123456789" : Str).cps.toList).getD j 0 = c → (j : Int) = n)) = true) : i % 36 = n := by
  have h0 : 0 ≤ i % 36 := Int.emod_nonneg _ (by decide)
  have h1 : i % 36 < 36 := Int.emod_lt_of_pos _ (by decide)
  have := of_decide_eq_true (List.all_eq_true.mp hn (i % 36).toNat (List.mem_range.mpr (by omega))) h
  omega
/-- a name of the laws of threads -/
structure Nm (z : Str) : Prop where
  w : isWord z = true
  no : z ≠ ("zother" : Str)
  nf : z ≠ ("zfresh" : Str)
theorem Nm.asc {z : Str} (h : Nm z) : Asc z := Wsg.asc (isWord_iff.mp h.w).1
theorem Nm.len {z : Str} (h : Nm z) : 1 ≤ z.length ∧ z.length ≤ 20 := (isWord_iff.mp h.w).2
theorem Nm.ne {z : Str} (h : Nm z) : z ≠ ("" : Str) := fun e => by
  have := h.len
  rw [e] at this
  have e0 : ("" : Str).length = 0 := by decide
  omega
theorem zo_tl : ("zother" : Str).cps.toList = [122, 111, 116, 104, 101, 114] := by decide +kernel
theorem zf_tl : ("zfresh" : Str).cps.toList = [122, 102, 114, 101, 115, 104] := by decide +kernel
theorem rep_tl1 (c : Nat) (n : Nat) : (repS (sg c) n).cps.toList = List.replicate n c := by
  rw [rep_tl, show (sg c).cps.toList = [c] from rfl]
  induction n with
  | zero => rfl
  | succ m ih => rw [List.replicate_succ, List.flatten_cons, ih]; rfl
theorem nameBy_ok {b k : Int} (hb : 0 ≤ b ∧ b < 2147483647) (hk : 0 ≤ k ∧ k < 64) : Ok (m_law_name_by b k) Nm := by
  unfold m_law_name_by
  refine .ite (fun _ => ?_) fun _ => ?_
  · refine sgn_at fun hc => ?_
    have h0 : 0 ≤ k % 20 := Int.emod_nonneg _ (by decide)
    have h1 : k % 20 < 20 := Int.emod_lt_of_pos _ (by decide)
    generalize k % 20 = m at *
    have hl : (repS (sg (sgn (b / 4 + k / 20))) (1 + m : Int).toNat).cps.toList = List.replicate (1 + m : Int).toNat (sgn (b / 4 + k / 20)) := rep_tl1 _ _
    generalize repS (sg (sgn (b / 4 + k / 20))) (1 + m : Int).toNat = z at *
    generalize sgn (b / 4 + k / 20) = c at *
    have hz : z.length = (1 + m : Int).toNat := by rw [len_tl, hl, List.length_replicate]
    refine .need ⟨?_, by omega, by omega⟩ (.ret ⟨isWord_iff.mpr ⟨fun d hd => ?_, by omega, by omega⟩, fun e => ?_, fun e => ?_⟩)
    · have : (sg c).length = 1 := len_sg c
      rw [this]; exact le_line (by omega)
    · rw [hl] at hd; rw [(List.mem_replicate.mp hd).2]; exact hc
    · rw [e, zo_tl] at hl
      have h1 : (122 : Nat) = c := (List.mem_replicate.mp (show (122 : Nat) ∈ List.replicate (1 + m : Int).toNat c by rw [← hl]; simp)).2
      have h2 : (111 : Nat) = c := (List.mem_replicate.mp (show (111 : Nat) ∈ List.replicate (1 + m : Int).toNat c by rw [← hl]; simp)).2
      omega
    · rw [e, zf_tl] at hl
      have h1 : (122 : Nat) = c := (List.mem_replicate.mp (show (122 : Nat) ∈ List.replicate (1 + m : Int).toNat c by rw [← hl]; simp)).2
      have h2 : (102 : Nat) = c := (List.mem_replicate.mp (show (102 : Nat) ∈ List.replicate (1 + m : Int).toNat c by rw [← hl]; simp)).2
      omega
  · refine .lets ?_
    have h0 : 0 ≤ b / 4 % 18 := Int.emod_nonneg _ (by decide)
    have h1 : b / 4 % 18 < 18 := Int.emod_lt_of_pos _ (by decide)
    generalize b / 4 % 18 = pl at *
    refine .need (by omega) ?_
    have g0 : 0 ≤ b / 72 % (19 - pl) := Int.emod_nonneg _ (by omega)
    have g1 : b / 72 % (19 - pl) < 19 - pl := Int.emod_lt_of_pos _ (by omega)
    generalize b / 72 % (19 - pl) = q at *
    have d0 : 0 ≤ b % 7 := Int.emod_nonneg _ (by decide)
    have d1 : b % 7 < 7 := Int.emod_lt_of_pos _ (by decide)
    generalize b % 7 = d at *
    refine .need (by omega) ?_
    refine .forI (fun pre (s : Str) => Wsg s ∧ s.cps.toList.length = pre.length ∧ ∀ t : Nat, t < pre.length → (t : Int) ≠ pl → (t : Int) ≠ pl + 1 → s.cps.toList[t]? = some (sgn (b / 3 + (t : Int) * (1 + d)))) ⟨Wsg.lit (by decide +kernel), rfl, fun t ht => absurd ht (by simp)⟩ ?_ ?_
    · rintro p x r s ep ⟨hs, hl, ht⟩
      have hp := pre_lt ep
      rw [rngL_len] at hp
      have hx : x = (p.length : Int) := by exact (rng_pre ep).1
      have hl2 : s.length = p.length := by rw [len_tl, hl]
      have app1 : ∀ {c : Nat}, wsg c = true → ((p.length : Int) ≠ pl → (p.length : Int) ≠ pl + 1 → c = sgn (b / 3 + (p.length : Int) * (1 + d))) → Ok (R.need ((s).length + (sg (c)).length ≤ sizeLine) <| (R.ok (s ++ (sg (c)) : Str)).bind fun y19 => R.ok (y19)) (fun s : Str => Wsg s ∧ s.cps.toList.length = (p ++ [x]).length ∧ ∀ t : Nat, t < (p ++ [x]).length → (t : Int) ≠ pl → (t : Int) ≠ pl + 1 → s.cps.toList[t]? = some (sgn (b / 3 + (t : Int) * (1 + d)))) := fun {c} hc hcc =>
        .need (le_line (by rw [len_sg]; omega)) (.lets (.ret ⟨hs.app (Wsg.sg hc), by rw [tl_app, List.length_append, hl, List.length_append]; rfl, fun t h1 h2 h3 => by
          rw [tl_app]
          rw [List.length_append] at h1
          by_cases e : t < p.length
          · rw [List.getElem?_append_left (by omega)]; exact ht t e h2 h3
          · have e : t = p.length := by have : [x].length = 1 := rfl; omega
            subst e
            rw [List.getElem?_append_right (by omega), hl, Nat.sub_self, ← hcc h2 h3]; rfl⟩))
      refine .bind (Q := fun s : Str => Wsg s ∧ s.cps.toList.length = (p ++ [x]).length ∧ ∀ t : Nat, t < (p ++ [x]).length → (t : Int) ≠ pl → (t : Int) ≠ pl + 1 → s.cps.toList[t]? = some (sgn (b / 3 + (t : Int) * (1 + d)))) (.ite (fun c => ?_) fun c1 => ?_) fun s hs => .ret hs
      · exact sgn_at fun hc => app1 hc fun h => absurd (by rw [← hx]; exact of_decide_eq_true c) h
      · refine .bind (Q := fun s : Str => Wsg s ∧ s.cps.toList.length = (p ++ [x]).length ∧ ∀ t : Nat, t < (p ++ [x]).length → (t : Int) ≠ pl → (t : Int) ≠ pl + 1 → s.cps.toList[t]? = some (sgn (b / 3 + (t : Int) * (1 + d)))) (.ite (fun c => ?_) fun c2 => ?_) fun s hs => .ret hs
        · exact sgn_at fun hc => app1 hc fun _ h => absurd (by rw [← hx]; exact of_decide_eq_true c) h
        · refine .need (show mulOk x (1 + d) from .inl ⟨by omega, by omega⟩) (sgn_at fun hc => app1 hc fun _ _ => by rw [hx])
    · rintro s ⟨hs, hl, ht⟩
      rw [rngL_len] at hl ht
      have hsl : s.length = (pl + 2 + q).toNat := by rw [len_tl, hl]
      refine .ret ⟨isWord_iff.mpr ⟨hs, by omega, by omega⟩, fun e => ?_, fun e => ?_⟩
      · rw [e, zo_tl] at hl ht
        have hl : 6 = (pl + 2 + q).toNat := hl
        by_cases c : pl ≤ 1
        · have a3 := ht 3 (by omega) (by omega) (by omega)
          have a4 := ht 4 (by omega) (by omega) (by omega)
          have b3 := sgn_inj (n := 7) (Option.some.inj a3).symm (by decide +kernel)
          have b4 := sgn_inj (n := 4) (Option.some.inj a4).symm (by decide +kernel)
          omega
        · have a3 := ht 0 (by omega) (by omega) (by omega)
          have a4 := ht 1 (by omega) (by omega) (by omega)
          have b3 := sgn_inj (n := 25) (Option.some.inj a3).symm (by decide +kernel)
          have b4 := sgn_inj (n := 14) (Option.some.inj a4).symm (by decide +kernel)
          omega
      · rw [e, zf_tl] at hl ht
        have hl : 6 = (pl + 2 + q).toNat := hl
        by_cases c : pl ≤ 1
        · have a3 := ht 3 (by omega) (by omega) (by omega)
          have a4 := ht 4 (by omega) (by omega) (by omega)
          have b3 := sgn_inj (n := 4) (Option.some.inj a3).symm (by decide +kernel)
          have b4 := sgn_inj (n := 18) (Option.some.inj a4).symm (by decide +kernel)
          omega
        · have a3 := ht 0 (by omega) (by omega) (by omega)
          have a4 := ht 1 (by omega) (by omega) (by omega)
          have b3 := sgn_inj (n := 25) (Option.some.inj a3).symm (by decide +kernel)
          have b4 := sgn_inj (n := 5) (Option.some.inj a4).symm (by decide +kernel)
          omega
abbrev Pl24 := List (Str × Int)
def cfT (P : Pl24) : List (Str × List (Str × Bool)) := if P = [] then [] else [(("" : Str), P.map fun p => (p.1, true))]
def mkT (P : Pl24) (m : Int) : Threads := ⟨P.map (fun p => (p.1, ("" : Str))), P, P.map (fun p => (p.2, [p.1])), cfT P, m⟩
structure GP (ns : List Str) (P : Pl24) (m : Int) : Prop where
  nk : (P.map (·.1)).Nodup
  ni : (P.map (·.2)).Nodup
  le : ∀ e, e ∈ P → e.2 ≤ m
  sub : ∀ n, n ∈ P.map (·.1) → n ∈ ns
  nm : ∀ n, n ∈ ns → Nm n
  few : ns.length ≤ 10
theorem GP.len {ns : List Str} {P : Pl24} {m : Int} (h : GP ns P m) : P.length ≤ 10 := by
  have := nodup_lenG h.nk h.sub
  rw [List.length_map] at this
  have := h.few
  omega
theorem mapk {β γ : Type} (f : Str × β → γ) (P : List (Str × β)) : (P.map fun p => (p.1, f p)).map (·.1) = P.map (·.1) := by rw [List.map_map]; rfl
theorem dhas_mapk {β γ : Type} (f : Str × β → γ) (P : List (Str × β)) (n : Str) : dhas (P.map fun p => (p.1, f p)) n = dhas P n := by
  rw [Bool.eq_iff_iff, dhas_iff, dhas_iff, mapk]
theorem dget_mapk {β γ : Type} (f : Str × β → γ) (P : List (Str × β)) (n : Str) : dget (P.map fun p => (p.1, f p)) n = (dget P n).map fun v => f (n, v) := by
  induction P with
  | nil => rfl
  | cons p P ih =>
    rw [List.map_cons, dget_cons, dget_cons, ih]
    by_cases h : p.1 = n
    · rw [if_pos h, if_pos h]; subst h; rfl
    · rw [if_neg h, if_neg h]
theorem ddrop_mapk {β γ : Type} (f : Str × β → γ) (P : List (Str × β)) (n : Str) : ddrop (P.map fun p => (p.1, f p)) n = (ddrop P n).map fun p => (p.1, f p) := by
  unfold ddrop
  rw [List.filter_map]; rfl
theorem dput_new {κ β : Type} [DecidableEq κ] {d : List (κ × β)} {k : κ} {v : β} (h : dhas d k = false) : dput d k v = d ++ [(k, v)] := by
  rw [dput_eq, if_neg (by rw [h]; decide)]
theorem has_of {κ β : Type} [DecidableEq κ] {d : List (κ × β)} {k : κ} {v : β} (h : dget d k = some v) : dhas d k = true := by unfold dhas; rw [h]; rfl
theorem no_of {κ β : Type} [DecidableEq κ] {d : List (κ × β)} {k : κ} (h : dhas d k = false) : dget d k = none := by
  unfold dhas at h
  cases c : dget d k with
  | none => rfl
  | some y => rw [c] at h; cases h
theorem dget_last {κ β : Type} [DecidableEq κ] {d : List (κ × β)} {k : κ} {v : β} (h : dhas d k = false) : dget (d ++ [(k, v)]) k = some v := by
  rw [dget_app, no_of h, dget_cons, if_pos rfl]; rfl
theorem piles_no {ns : List Str} {P : Pl24} {m : Int} (h : GP ns P m) {i : Int} (hi : m < i) : dhas (P.map fun p => (p.2, [p.1])) i = false := by
  rw [dhas_false, List.map_map]
  intro q
  obtain ⟨e, he, q⟩ := List.mem_map.mp q
  have := h.le e he
  have q : e.2 = i := q
  omega
theorem GP.app {ns : List Str} {P : Pl24} {m : Int} (h : GP ns P m) {n : Str} (hn : dhas P n = false) (hs : n ∈ ns) : GP ns (P ++ [(n, m + 1)]) (m + 1) := by
  refine ⟨?_, ?_, fun e he => ?_, fun x hx => ?_, h.nm, h.few⟩
  · rw [List.map_append, List.nodup_append]
    refine ⟨h.nk, by simp, fun a ha b hb e => ?_⟩
    have hb : b = n := by simpa using hb
    subst hb; subst e
    exact dhas_false.mp hn ha
  · rw [List.map_append, List.nodup_append]
    refine ⟨h.ni, by simp, fun a ha b hb e => ?_⟩
    have hb : b = m + 1 := by simpa using hb
    subst hb; subst e
    obtain ⟨e, he, q⟩ := List.mem_map.mp ha
    have := h.le e he
    have q : e.2 = m + 1 := q
    omega
  · rcases List.mem_append.mp he with q | q
    · have := h.le e q; omega
    · rw [List.mem_singleton.mp q]; exact Int.le_refl _
  · rw [List.map_append] at hx
    rcases List.mem_append.mp hx with q | q
    · exact h.sub x q
    · have : x = n := by simpa using q
      rw [this]; exact hs
theorem GP.drop {ns : List Str} {P : Pl24} {m : Int} (h : GP ns P m) (n : Str) : GP ns (ddrop P n) m := by
  have sl : (ddrop P n).Sublist P := List.filter_sublist
  exact ⟨h.nk.sublist (sl.map _), h.ni.sublist (sl.map _), fun e he => h.le e (sl.subset he), fun x hx => h.sub x ((sl.map _).subset hx), h.nm, h.few⟩
theorem line60 {n : Nat} (h : n ≤ 60) : n < sizeLine := lt_line (m := 60) h (by decide)
theorem len_isnt : (" isn't there" : Str).length = 12 := by decide +kernel
theorem len_is : (" is there" : Str).length = 9 := by decide +kernel
theorem len_e : Str.empty.length = 0 := by decide
theorem said {n : Str} {t : Str} (h : n.length ≤ 20) (ht : t.length ≤ 12) {ρ : Type} {x : R ρ} : (R.need ((n).length ≤ sizeLine) <| R.need ((Str.empty ++ n).length ≤ sizeLine) <| R.need (((Str.empty ++ n) ++ t).length ≤ sizeLine) <| x) = x := by
  rw [R.need_pos (le_line (by omega)), R.need_pos (le_line (by rw [len_app, len_e]; omega)), R.need_pos (le_line (by rw [len_app, len_app, len_e]; omega))]
theorem goes_has (P : Pl24) (m : Int) (n : Str) : dhas (mkT P m).goes_to n = dhas P n := dhas_mapk _ P n
theorem sure_ok {P : Pl24} {m : Int} {n : Str} (h : dhas P n = true) : m_Threads_sure (mkT P m) n = .ok () := by
  unfold m_Threads_sure
  rw [goes_has, h]; rfl
theorem sure_no {P : Pl24} {m : Int} {n : Str} (h : dhas P n = false) (hl : n.length ≤ 20) : m_Threads_sure (mkT P m) n = .exc ⟨4, 0⟩ := by
  unfold m_Threads_sure
  rw [goes_has, h]
  exact said hl (by rw [len_isnt]; omega)
theorem add_no {P : Pl24} {m : Int} {n a : Str} (h : dhas P n = true) (hl : n.length ≤ 20) : m_Threads_add (mkT P m) n a = .exc ⟨4, 0⟩ := by
  unfold m_Threads_add
  rw [goes_has, h]
  exact said hl (by rw [len_is]; omega)
theorem cf_get (P : Pl24) : (dget (cfT P) ("" : Str)).getD [] = P.map fun p => (p.1, true) := by
  unfold cfT
  by_cases h : P = []
  · subst h; rfl
  · rw [if_neg h]; rfl
theorem cf_len (P : Pl24) : (cfT P).length ≤ 1 := by unfold cfT; split <;> simp
theorem pile_new {T : Threads} {n : Str} (h1 : dhas T.pile_of n = false) (h2 : dhas T.piles (T.made + 1) = false) (l1 : T.pile_of.length ≤ 60) (l2 : T.piles.length ≤ 60) :
    m_Threads_pile T n = .ok (T.made + 1, ⟨T.goes_to, T.pile_of ++ [(n, T.made + 1)], T.piles ++ [(T.made + 1, [n])], T.comes_from, T.made + 1⟩) := by
  unfold m_Threads_pile
  rw [h1]
  show (R.bind (R.need _ _) _) = _
  rw [R.need_pos (line60 l1), R.need_pos (line60 l2), R.need_pos h2, R.bind_ok, dput_new h1, dgetR_ok (dget_last h1)]
  rfl
theorem add_ok {ns : List Str} {P : Pl24} {m : Int} (h : GP ns P m) {n : Str} (hn : dhas P n = false) : m_Threads_add (mkT P m) n ("" : Str) = .ok (mkT (P ++ [(n, m + 1)]) (m + 1)) := by
  have l := h.len
  unfold m_Threads_add
  rw [goes_has, hn]
  show (R.need _ _) = _
  have lg : (mkT P m).goes_to.length = P.length := List.length_map ..
  have lc : (mkT P m).comes_from.length ≤ 1 := cf_len P
  have gc : (dget (mkT P m).comes_from ("" : Str)).getD [] = P.map fun p => (p.1, true) := cf_get P
  rw [gc]
  rw [R.need_pos (line60 (by omega)), R.need_pos (line60 (by omega)), R.need_pos (line60 (by rw [List.length_map]; omega))]
  have hg : dhas (mkT P m).goes_to n = false := by rw [goes_has, hn]
  have e1 : dput (P.map fun p => (p.1, true)) n true = (P ++ [(n, m + 1)]).map fun p => (p.1, true) := by
    rw [dput_new (by rw [dhas_mapk (fun _ => true), hn]), List.map_append]; rfl
  have e2 : dput (setE (mkT P m).comes_from ("" : Str) []) ("" : Str) (dput (P.map fun p => (p.1, true)) n true) = cfT (P ++ [(n, m + 1)]) := by
    rw [e1]
    show dput (setE (cfT P) _ _) _ _ = _
    unfold cfT
    rw [if_neg (show ¬ P ++ [(n, m + 1)] = [] by simp)]
    by_cases q : P = []
    · subst q; rfl
    · rw [if_neg q]; rfl
  rw [e2]
  have e3 : m_Threads_hang (⟨dput (mkT P m).goes_to n ("" : Str), (mkT P m).pile_of, (mkT P m).piles, cfT (P ++ [(n, m + 1)]), (mkT P m).made⟩ : Threads) n = .ok (mkT (P ++ [(n, m + 1)]) (m + 1)) := by
    unfold m_Threads_hang
    rw [pile_new (T := ⟨dput (mkT P m).goes_to n ("" : Str), (mkT P m).pile_of, (mkT P m).piles, cfT (P ++ [(n, m + 1)]), (mkT P m).made⟩) hn (piles_no h (show m < m + 1 by omega)) (by show P.length ≤ _; omega) (by show (P.map _).length ≤ _; rw [List.length_map]; omega)]
    rw [R.bind_ok]
    dsimp only
    rw [dput_new hg, dgetR_ok (dget_last hg), R.bind_ok]
    have : (!decide (("" : Str) = ("" : Str))) = false := by rw [decide_eq_true rfl]; rfl
    rw [this]
    show R.ok _ = _
    unfold mkT
    simp only [List.map_append]
    rfl
  rw [e3]
  rfl
theorem drop_pile {P : Pl24} (nk : (P.map (·.1)).Nodup) (ni : (P.map (·.2)).Nodup) {n : Str} {i : Int} (hg : dget P n = some i) : ddrop (P.map fun p => (p.2, [p.1])) i = (ddrop P n).map fun p => (p.2, [p.1]) := by
  unfold ddrop
  rw [List.filter_map]
  congr 1
  refine List.filter_congr fun e he => ?_
  show decide (e.2 ≠ i) = decide (e.1 ≠ n)
  have hm := dget_mem hg
  rw [decide_eq_decide]
  refine ⟨fun q z => ?_, fun q z => ?_⟩
  · have := dget_of_mem nk (k := e.1) (v := e.2) he
    rw [z, hg] at this
    exact q (Option.some.inj this).symm
  · have h2 : ((P.map fun e => (e.2, e.1)).map (·.1)).Nodup := by rw [List.map_map]; exact ni
    have a := dget_of_mem h2 (k := e.2) (v := e.1) (List.mem_map.mpr ⟨e, he, rfl⟩)
    have b := dget_of_mem h2 (k := i) (v := n) (List.mem_map.mpr ⟨(n, i), hm, rfl⟩)
    rw [z, b] at a
    exact q (Option.some.inj a).symm
theorem pile_get {P : Pl24} (ni : (P.map (·.2)).Nodup) {n : Str} {i : Int} (hg : dget P n = some i) : dget (P.map fun p => (p.2, [p.1])) i = some [n] := by
  refine dget_of_mem ?_ (List.mem_map.mpr ⟨(n, i), dget_mem hg, rfl⟩)
  rw [List.map_map]; exact ni
theorem forR_one {σ α : Type} (f : σ → α → R σ) (x : α) (s : σ) : forR f [x] s = f s x := by
  show (f s x).bind (fun s => .ok s) = f s x
  cases f s x <;> rfl
theorem take_ok {ns : List Str} {P : Pl24} {m : Int} (h : GP ns P m) {n : Str} {i : Int} (hg : dget P n = some i) : m_Threads_take_out (mkT P m) n = .ok (mkT (ddrop P n) m) := by
  have hh := has_of hg
  have l := h.len
  unfold m_Threads_take_out
  rw [sure_ok hh, R.bind_ok]
  have g1 : dget (mkT P m).goes_to n = some ("" : Str) := by
    show dget (P.map fun p => (p.1, ("" : Str))) n = _
    rw [dget_mapk (fun _ => ("" : Str)), hg]; rfl
  have hP : P ≠ [] := fun e => by rw [e] at hg; cases hg
  have g2 : dget (mkT P m).comes_from ("" : Str) = some (P.map fun p => (p.1, true)) := by
    show dget (cfT P) _ = _
    unfold cfT; rw [if_neg hP]; rfl
  have g3 : dget (P.map fun p => (p.1, true)) n = some true := by rw [dget_mapk (fun _ => true), hg]; rfl
  have d1 : ddrop (P.map fun p => (p.1, true)) n = (ddrop P n).map fun p => (p.1, true) := ddrop_mapk (fun _ => true) P n
  have g4 : dget (dput (mkT P m).comes_from ("" : Str) (ddrop (P.map fun p => (p.1, true)) n)) ("" : Str) = some ((ddrop P n).map fun p => (p.1, true)) := by
    rw [dget_put, if_pos rfl, d1]
  rw [dgetR_ok g1, R.bind_ok, dgetR_ok g2, R.bind_ok, dgetR_ok g3, R.bind_ok, dgetR_ok g4, R.bind_ok, R.bind_ok]
  have e5 : (if (decide (((((ddrop P n).map fun p => (p.1, true)).length : Nat) : Int) = 0)) = true then R.ok (ddrop (dput (mkT P m).comes_from ("" : Str) (ddrop (P.map fun p => (p.1, true)) n)) ("" : Str)) else R.ok (dput (mkT P m).comes_from ("" : Str) (ddrop (P.map fun p => (p.1, true)) n))) = R.ok (cfT (ddrop P n)) := by
    rw [d1]
    have e : (mkT P m).comes_from = [(("" : Str), P.map fun p => (p.1, true))] := by show cfT P = _; unfold cfT; rw [if_neg hP]
    rw [e]
    by_cases q : ddrop P n = []
    · rw [q]; rfl
    · rw [if_neg (by
        rw [decide_eq_true_eq, List.length_map]
        intro z
        exact q (List.length_eq_zero_iff.mp (by omega)))]
      unfold cfT
      rw [if_neg q]; rfl
  rw [e5, R.bind_ok]
  have g6 : dget (mkT P m).pile_of n = some i := hg
  have g7 : dget (mkT P m).piles i = some [n] := pile_get h.ni hg
  rw [dgetR_ok g6, R.bind_ok, dgetR_ok g7, R.bind_ok, forR_one, dgetR_ok g6, R.bind_ok, R.bind_ok, forR_one]
  have g8 : dhas (ddrop (mkT P m).goes_to n) n = false := by rw [dhas_false, mem_kdrop]; exact fun q => q.2 rfl
  dsimp only
  rw [g8]
  show R.ok _ = _
  have e6 : ddrop (mkT P m).goes_to n = (mkT (ddrop P n) m).goes_to := ddrop_mapk (fun _ => ("" : Str)) P n
  have e7 : ddrop (mkT P m).piles i = (mkT (ddrop P n) m).piles := drop_pile h.nk h.ni hg
  rw [e6, e7]
  rfl
theorem sort_one (x : Str) : sortT [x] = [x] := by
  have := sortT_perm [x]
  exact List.perm_singleton.mp this
theorem thread_ok {ns : List Str} {P : Pl24} {m : Int} (h : GP ns P m) {n : Str} {i : Int} (hg : dget P n = some i) : m_Threads_thread (mkT P m) n = .ok [n] := by
  have hh := has_of hg
  unfold m_Threads_thread
  rw [sure_ok hh, R.bind_ok, dgetR_ok (show dget (mkT P m).pile_of n = some i from hg), R.bind_ok, dgetR_ok (show dget (mkT P m).piles i = some [n] from pile_get h.ni hg), R.bind_ok, R.need_pos (show [n].length ≤ sizeLine from le_line (by show 1 ≤ _; decide))]
  rw [compR_map (g := id) (fun x hx => by rw [List.mem_singleton.mp hx, goes_has, hh]; rfl), R.bind_ok]
  show R.need _ _ = _
  rw [R.need_pos (show ((), List.map id [n]).snd.length < 64 from by show 1 < 64; decide)]
  show R.ok (sortT [n]) = _
  rw [sort_one]
theorem depth_ok {ns : List Str} {P : Pl24} {m : Int} (h : GP ns P m) {n : Str} {i : Int} (hg : dget P n = some i) : m_Threads_depth (mkT P m) n = .ok 0 := by
  have hh := has_of hg
  have g1 : dget (mkT P m).goes_to n = some ("" : Str) := by
    show dget (P.map fun p => (p.1, ("" : Str))) n = _
    rw [dget_mapk (fun _ => ("" : Str)), hg]; rfl
  have g2 : dhas (mkT P m).goes_to ("" : Str) = false := by
    rw [goes_has, dhas_false]
    exact fun q => (h.nm _ (h.sub _ q)).ne rfl
  unfold m_Threads_depth
  rw [sure_ok hh, R.bind_ok, R.bind_ok, dgetR_ok g1, R.bind_ok]
  unfold whileN
  rw [if_neg (by dsimp only; rw [g2]; exact Bool.false_ne_true)]
  rfl
theorem names_ok {ns : List Str} {P : Pl24} {m : Int} (h : GP ns P m) : m_Threads_names (mkT P m) = .ok (sortT (P.map (·.1))) := by
  have l := h.len
  unfold m_Threads_names
  rw [R.need_pos (by show (P.map _).length < 64; rw [List.length_map]; omega)]
  show R.ok (sortT ((P.map fun p => (p.1, ("" : Str))).map (·.1))) = _
  rw [mapk (fun _ => ("" : Str))]
theorem answers_ok {P : Pl24} {m : Int} : m_Threads_answers_to (mkT P m) ("zother" : Str) = .ok [] := by
  have : dget (mkT P m).comes_from ("zother" : Str) = none := by
    show dget (cfT P) _ = none
    unfold cfT
    split
    · rfl
    · rw [dget_cons, if_neg (show ¬ ("" : Str) = ("zother" : Str) by decide +kernel)]; rfl
  unfold m_Threads_answers_to
  rw [this]
  have : sortT [] = [] := List.perm_nil.mp (sortT_perm [])
  show R.need _ _ = _
  rw [R.need_pos (by decide)]
  show R.ok (sortT []) = _
  rw [this]
theorem threads_ok {ns : List Str} {P : Pl24} {m : Int} (h : GP ns P m) : m_Threads_threads (mkT P m) = .ok ((sortT (P.map (·.1))).map fun x => [x]) := by
  have l := h.len
  have sp := sortT_perm (P.map (·.1))
  have nd : (sortT (P.map (·.1))).Nodup := sp.nodup_iff.mpr h.nk
  have lS : (sortT (P.map (·.1))).length ≤ 10 := by rw [sp.length_eq, List.length_map]; omega
  have mem : ∀ x, x ∈ sortT (P.map (·.1)) → x ∈ P.map (·.1) := fun x hx => sp.mem_iff.mp hx
  unfold m_Threads_threads
  rw [R.need_pos (by show (P.map _).length < 64; rw [List.length_map]; omega)]
  have ek : (mkT P m).goes_to.map (·.1) = P.map (·.1) := mapk (fun _ => ("" : Str)) P
  rw [ek]
  generalize sortT (P.map (·.1)) = S at *
  refine Ok.eq ?_
  refine .forFI (fun p (s : List (List Str) × List (Int × Bool)) => s.1 = p.map (fun x => [x]) ∧ s.2.length ≤ p.length ∧ ∀ j, dhas s.2 j = true → ∃ x, x ∈ p ∧ dget P x = some j) ⟨rfl, Nat.le_refl _, fun j q => by cases q⟩ ?_ ?_
  · rintro p x q ⟨F, t⟩ ep ⟨h1, h2, h3⟩
    have hp := pre_lt ep
    obtain ⟨i, hi⟩ := dhas_get (dhas_iff.mpr (mem x (by rw [ep]; simp)))
    refine .bindE (dgetR_ok (show dget (mkT P m).pile_of x = some i from hi)) ?_
    have hno : dhas t i = false := by
      cases c : dhas t i with
      | false => rfl
      | true =>
        exfalso
        obtain ⟨y, hy, gy⟩ := h3 i c
        have h2 : ((P.map fun e => (e.2, e.1)).map (·.1)).Nodup := by rw [List.map_map]; exact h.ni
        have a := dget_of_mem h2 (k := i) (v := y) (List.mem_map.mpr ⟨(y, i), dget_mem gy, rfl⟩)
        have b := dget_of_mem h2 (k := i) (v := x) (List.mem_map.mpr ⟨(x, i), dget_mem hi, rfl⟩)
        have e : y = x := Option.some.inj (a.symm.trans b)
        rw [e] at hy
        rw [ep] at nd
        have := (List.nodup_append.mp nd).2.2 x hy x (by simp)
        exact this rfl
    refine .ifF (by dsimp only; rw [hno]; decide) ?_
    refine .bindE (dgetR_ok (show dget (mkT P m).pile_of x = some i from hi)) (.need (line60 (by dsimp only at h2 ⊢; omega)) (.bindE (thread_ok h hi) (.need (line60 (by dsimp only at h1 ⊢; rw [h1, List.length_map]; omega)) (.ret ⟨_, rfl, by dsimp only at h1 ⊢; rw [h1, List.map_append]; rfl, ?_, fun j hj => ?_⟩))))
    · dsimp only
      rw [dput_new hno, List.length_append, List.length_append]
      exact Nat.add_le_add_right h2 1
    · dsimp only at hj
      rw [dhas_iff, mem_kput] at hj
      rcases hj with rfl | hj
      · exact ⟨x, by simp, hi⟩
      · obtain ⟨y, hy, g⟩ := h3 j (dhas_iff.mpr hj)
        exact ⟨y, by simp [hy], g⟩
  · rintro ⟨F, t⟩ ⟨h1, _, _⟩
    exact .ret h1
def rowW (n : Str) : List Str := ssetT [n, ("rent" : Str)]
theorem mem_rowW {n w : Str} : w ∈ rowW n ↔ w = n ∨ w = ("rent" : Str) := by unfold rowW; rw [mem_ssetT]; simp
def hold (B : List Str) (w : Str) : Option (List (Str × Bool)) := if w = ("rent" : Str) then (if B = [] then none else some (B.map fun n => (n, true))) else if w ∈ B then some [(w, true)] else none
structure IX (ns : List Str) (B : List Str) (I : Index) : Prop where
  nd : B.Nodup
  sub : ∀ n, n ∈ B → n ∈ ns
  nm : ∀ n, n ∈ ns → Nm n
  few : ns.length ≤ 10
  rows : I.rows_of = B.map fun n => (n, rowW n)
  hk : (I.holders.map (·.1)).Nodup
  hg : ∀ w, dget I.holders w = hold B w
theorem IX.len {ns B : List Str} {I : Index} (h : IX ns B I) : B.length ≤ 10 := by
  have := nodup_lenG h.nd h.sub
  have := h.few
  omega
theorem IX.has {ns B : List Str} {I : Index} (h : IX ns B I) (n : Str) : dhas I.rows_of n = decide (n ∈ B) := by
  rw [Bool.eq_iff_iff, dhas_iff, h.rows, List.map_map, decide_eq_true_eq]
  simp
theorem hold_keys {B : List Str} {D : List (Str × List (Str × Bool))} (hk : (D.map (·.1)).Nodup) (hg : ∀ w, dget D w = hold B w) : D.length ≤ B.length + 1 := by
  have : (D.map (·.1)).length ≤ (("rent" : Str) :: B).length := nodup_lenG hk fun w hw => by
    obtain ⟨v, hv⟩ := dhas_get (dhas_iff.mpr hw)
    rw [hg] at hv
    unfold hold at hv
    by_cases c : w = ("rent" : Str)
    · rw [c]; simp
    · rw [if_neg c] at hv
      by_cases d : w ∈ B
      · simp [d]
      · rw [if_neg d] at hv; cases hv
  rw [List.length_map] at this
  exact this
theorem isure_ok {ns B : List Str} {I : Index} (h : IX ns B I) {n : Str} (hn : n ∈ B) : m_Index_sure I n = .ok () := by
  unfold m_Index_sure
  rw [h.has, decide_eq_true hn]; rfl
theorem isure_no {ns B : List Str} {I : Index} (h : IX ns B I) {n : Str} (hn : ¬ n ∈ B) (hl : n.length ≤ 20) : m_Index_sure I n = .exc ⟨4, 0⟩ := by
  unfold m_Index_sure
  rw [h.has, decide_eq_false hn]
  exact said hl (by rw [len_isnt]; omega)
theorem iadd_no {ns B : List Str} {I : Index} (h : IX ns B I) {n : Str} {ws : List Str} (hn : n ∈ B) (hl : n.length ≤ 20) : m_Index_add I n ws = .exc ⟨4, 0⟩ := by
  unfold m_Index_add
  rw [h.has, decide_eq_true hn]
  exact said hl (by rw [len_is]; omega)
theorem setE_get {κ β : Type} [DecidableEq κ] (d : List (κ × β)) (k v : κ) (z y : β) : dget (dput (setE d k z) k y) v = if k = v then some y else dget d v := by
  rw [dget_put]
  by_cases c : k = v
  · rw [if_pos c, if_pos c]
  · rw [if_neg c, if_neg c]
    unfold setE
    split
    · rfl
    · rw [dget_app, dget_cons, if_neg c, dget_nil, Option.or_none]
theorem setE_nodup {κ β : Type} [DecidableEq κ] {d : List (κ × β)} (h : (d.map (·.1)).Nodup) (k : κ) (z : β) : ((setE d k z).map (·.1)).Nodup := by
  unfold setE
  by_cases c : dhas d k = true
  · rw [if_pos c]; exact h
  · rw [if_neg c]
    have := nodup_dput h k z
    rw [dput_eq, if_neg c] at this
    exact this
theorem setE_len {κ β : Type} [DecidableEq κ] (d : List (κ × β)) (k : κ) (z y : β) : (dput (setE d k z) k y).length ≤ d.length + 1 := by
  by_cases c : dhas d k = true
  · have : setE d k z = d := by unfold setE; rw [if_pos c]
    rw [this]; exact len_dput d k y
  · have e : setE d k z = d ++ [(k, z)] := by unfold setE; rw [if_neg c]
    have hh : dhas (setE d k z) k = true := by rw [e, dhas_iff]; simp
    rw [dput_eq, if_pos hh, List.length_map, e, List.length_append]
    exact Nat.le_refl _
theorem iadd_ok {ns B : List Str} {I : Index} (h : IX ns B I) {n : Str} (hn : ¬ n ∈ B) (hs : n ∈ ns) : Ok (m_Index_add I n [n, ("rent" : Str)]) fun J => IX ns (B ++ [n]) J := by
  have l := h.len
  have lk := hold_keys h.hk h.hg
  have hh : dhas I.rows_of n = false := by rw [h.has, decide_eq_false hn]
  unfold m_Index_add
  refine .ifF (by rw [hh]; decide) ?_
  refine .need (show [n, ("rent" : Str)].length < 64 from by show 2 < 64; decide) (.need (line60 (by rw [h.rows, List.length_map]; omega)) ?_)
  have e1 : dput I.rows_of n (ssetT [n, ("rent" : Str)]) = (B ++ [n]).map fun n => (n, rowW n) := by
    rw [dput_new hh, h.rows, List.map_append]; rfl
  refine .bindE (dgetR_ok (v := rowW n) (by rw [dget_put, if_pos rfl]; rfl)) ?_
  have nr : (rowW n).Nodup := ssetT_nodup _
  have ln : (rowW n).length ≤ [n, ("rent" : Str)].length := nodup_lenG nr fun w hw => by have := mem_rowW.mp hw; simpa using this
  have ln : (rowW n).length ≤ 2 := ln
  refine .forI (fun p (D : List (Str × List (Str × Bool))) => (D.map (·.1)).Nodup ∧ D.length ≤ I.holders.length + p.length ∧ ∀ v, dget D v = if v ∈ p then some (dput ((dget I.holders v).getD []) n true) else dget I.holders v) ⟨h.hk, Nat.le_refl _, fun v => by simp⟩ ?_ ?_
  · rintro p x q D ep ⟨h1, h2, h3⟩
    have hp := pre_lt ep
    have hx : ¬ x ∈ p := fun m => by
      rw [ep] at nr
      exact (List.nodup_append.mp nr).2.2 x m x (by simp) rfl
    have gx : dget D x = dget I.holders x := by rw [h3, if_neg hx]
    have lh : ((dget I.holders x).getD []).length ≤ 10 := by
      rw [h.hg]
      unfold hold
      by_cases c : x = ("rent" : Str)
      · rw [if_pos c]
        split
        · exact Nat.zero_le _
        · show (B.map _).length ≤ 10; rw [List.length_map]; omega
      · rw [if_neg c]; split
        · show 1 ≤ 10; decide
        · exact Nat.zero_le _
    refine .need (line60 (by omega)) (.need (line60 (by rw [gx]; omega)) (.ret ⟨nodup_dput (setE_nodup h1 _ _) _ _, ?_, fun v => ?_⟩))
    · have := setE_len D x [] (dput ((dget D x).getD ([] : (List (Str × Bool)))) n true)
      rw [List.length_append]
      have : [x].length = 1 := rfl
      omega
    · rw [setE_get, gx]
      by_cases c : x = v
      · subst c; rw [if_pos rfl, if_pos (by simp)]
      · have c2 : ¬ v = x := fun e => c e.symm
        rw [if_neg c, h3]
        by_cases d : v ∈ p
        · rw [if_pos d, if_pos (by simp [d])]
        · rw [if_neg d, if_neg (by simp [d, c2])]
  · rintro D ⟨h1, h2, h3⟩
    refine .ret ⟨?_, ?_, h.nm, h.few, e1, h1, fun w => ?_⟩
    · rw [List.nodup_append]
      exact ⟨h.nd, by simp, fun a ha b hb e => hn (by have : b = n := by simpa using hb
                                                      rw [← this, ← e]; exact ha)⟩
    · intro x hx
      rcases List.mem_append.mp hx with q | q
      · exact h.sub x q
      · rw [List.mem_singleton.mp q]; exact hs
    · show dget D w = _
      rw [h3, h.hg]
      unfold hold
      have ne : ¬ B ++ [n] = [] := by simp
      by_cases c : w = ("rent" : Str)
      · rw [if_pos (mem_rowW.mpr (.inr c)), if_pos c, if_pos c, if_neg ne]
        have eq : (if B = [] then none else some (B.map fun n => (n, true))).getD [] = B.map fun n => (n, true) := by
          by_cases d : B = []
          · rw [d]; rfl
          · rw [if_neg d]; rfl
        rw [eq, dput_new (by rw [dhas_false, List.map_map]; simpa using hn), List.map_append]; rfl
      · rw [if_neg c, if_neg c]
        by_cases d : w = n
        · rw [d, if_pos (mem_rowW.mpr (.inl rfl)), if_neg hn, if_pos (by simp)]; rfl
        · rw [if_neg (fun q => (mem_rowW.mp q).elim d c)]
          by_cases e : w ∈ B
          · rw [if_pos e, if_pos (by simp [e])]
          · rw [if_neg e, if_neg (by simp [e, d])]
theorem drop_row (B : List Str) (n : Str) : ddrop (B.map fun m => (m, rowW m)) n = (B.filter fun x => decide (x ≠ n)).map fun m => (m, rowW m) := by
  unfold ddrop
  rw [List.filter_map]; rfl
theorem drop_flag (B : List Str) (n : Str) : ddrop (B.map fun m => (m, true)) n = (B.filter fun x => decide (x ≠ n)).map fun m => (m, true) := by
  unfold ddrop
  rw [List.filter_map]; rfl
theorem itake_ok {ns B : List Str} {I : Index} (h : IX ns B I) {n : Str} (hn : n ∈ B) : Ok (m_Index_take_out I n) fun J => IX ns (B.filter fun x => decide (x ≠ n)) J := by
  have l := h.len
  have hB : B ≠ [] := fun e => by rw [e] at hn; cases hn
  have gr : dget I.rows_of n = some (rowW n) := by
    rw [h.rows]
    refine dget_of_mem ?_ (List.mem_map.mpr ⟨n, hn, rfl⟩)
    rw [List.map_map]
    have : (B.map ((fun x => x.1) ∘ fun n => (n, rowW n))) = B := List.map_id B
    rw [this]; exact h.nd
  unfold m_Index_take_out
  refine .bindE (isure_ok h hn) (.bindE (dgetR_ok gr) ?_)
  have nr : (rowW n).Nodup := ssetT_nodup _
  refine .forI (fun p (s : (List (Str × (List Str))) × (List (Str × (List (Str × Bool))))) => s.1 = ddrop I.rows_of n ∧ (s.2.map (·.1)).Nodup ∧ ∀ v, dget s.2 v = if v ∈ p then (if ddrop ((dget I.holders v).getD []) n = [] then none else some (ddrop ((dget I.holders v).getD []) n)) else dget I.holders v) ⟨rfl, h.hk, fun v => by simp⟩ ?_ ?_
  · rintro p x q ⟨R0, D⟩ ep ⟨h0, h1, h3⟩
    have hx : ¬ x ∈ p := fun m => by
      rw [ep] at nr
      exact (List.nodup_append.mp nr).2.2 x m x (by simp) rfl
    have gx : dget D x = dget I.holders x := (h3 x).trans (if_neg hx)
    have hxr : x = n ∨ x = ("rent" : Str) := mem_rowW.mp (by rw [ep]; simp)
    obtain ⟨y, gy, gn⟩ : ∃ y, dget I.holders x = some y ∧ dget y n = some true := by
      rw [h.hg]
      unfold hold
      by_cases c : x = ("rent" : Str)
      · rw [if_pos c, if_neg hB]
        refine ⟨_, rfl, dget_of_mem ?_ (List.mem_map.mpr ⟨n, hn, rfl⟩)⟩
        rw [List.map_map]
        have : (B.map ((fun x => x.1) ∘ fun n => (n, true))) = B := List.map_id B
        rw [this]; exact h.nd
      · have e : x = n := hxr.elim id fun z => absurd z c
        rw [if_neg c, e, if_pos hn]
        exact ⟨_, rfl, by rw [dget_cons, if_pos rfl]⟩
    have gy2 : dget D x = some y := gx.trans gy
    refine .bindE (dgetR_ok gy2) (.bindE (dgetR_ok gn) ?_)
    have g4 : dget (dput D x (ddrop y n)) x = some (ddrop y n) := by rw [dget_put, if_pos rfl]
    refine .bindE (dgetR_ok g4) ?_
    refine .bind (Q := fun D' => (D'.map (·.1)).Nodup ∧ ∀ v, dget D' v = if x = v then (if ddrop y n = [] then none else some (ddrop y n)) else dget D v) (.ite (fun c => ?_) fun c => ?_) fun D' ⟨n1, n2⟩ => .ret ⟨h0, n1, fun v => ?_⟩
    · have c : ddrop y n = [] := List.length_eq_zero_iff.mp (by have := of_decide_eq_true c; omega)
      refine .bindE (dgetR_ok g4) (.ret ⟨nodup_ddrop (nodup_dput h1 _ _) _, fun v => ?_⟩)
      rw [dget_drop]
      by_cases d : x = v
      · rw [if_pos d, if_pos d, if_pos c]
      · rw [if_neg d, if_neg d, dget_put, if_neg d]
    · have c : ¬ ddrop y n = [] := fun e => c (by rw [e]; rfl)
      refine .ret ⟨nodup_dput h1 _ _, fun v => ?_⟩
      rw [dget_put]
      by_cases d : x = v
      · rw [if_pos d, if_pos d, if_neg c]
      · rw [if_neg d, if_neg d]
    · rw [n2]
      by_cases d : x = v
      · subst d
        rw [if_pos rfl, if_pos (List.mem_append.mpr (.inr (List.mem_singleton.mpr rfl))), gy]; rfl
      · have d2 : ¬ v = x := fun e => d e.symm
        rw [if_neg d]
        show dget D v = _
        rw [show dget D v = _ from h3 v]
        by_cases e : v ∈ p
        · rw [if_pos e, if_pos (List.mem_append.mpr (.inl e))]
        · rw [if_neg e, if_neg (fun q => (List.mem_append.mp q).elim e fun z => d2 (List.mem_singleton.mp z))]
  · rintro ⟨R0, D⟩ ⟨h0, h1, h3⟩
    have h0 : R0 = ddrop I.rows_of n := h0
    refine .ret ⟨h.nd.filter _, fun x hx => h.sub x (List.mem_filter.mp hx).1, h.nm, h.few, ?_, h1, fun w => ?_⟩
    · show R0 = _
      rw [h0, h.rows, drop_row]
    · show dget D w = _
      rw [show dget D w = _ from h3 w, h.hg]
      unfold hold
      by_cases c : w = ("rent" : Str)
      · rw [if_pos (mem_rowW.mpr (.inr c)), if_pos c, if_pos c, if_neg hB]
        show (if ddrop (B.map fun n => (n, true)) n = [] then none else some (ddrop (B.map fun n => (n, true)) n)) = _
        rw [drop_flag]
        by_cases d : (B.filter fun x => decide (x ≠ n)) = []
        · rw [d]; rfl
        · rw [if_neg d, if_neg (fun e => d (List.map_eq_nil_iff.mp e))]
      · rw [if_neg c, if_neg c]
        by_cases d : w = n
        · rw [d, if_pos (mem_rowW.mpr (.inl rfl)), if_pos hn, if_neg (show ¬ n ∈ B.filter (fun x => decide (x ≠ n)) from fun q => (of_decide_eq_true (p := n ≠ n) (List.mem_filter.mp q).2) rfl)]
          have : ddrop ((some [(n, true)]).getD []) n = [] := by unfold ddrop; simp
          rw [if_pos this]
        · rw [if_neg (fun q => (mem_rowW.mp q).elim d c)]
          by_cases e : w ∈ B
          · rw [if_pos e, if_pos (List.mem_filter.mpr ⟨e, decide_eq_true d⟩)]
          · rw [if_neg e, if_neg (fun q => e (List.mem_filter.mp q).1)]
theorem words_ok {ns B : List Str} {I : Index} (h : IX ns B I) {n : Str} (hn : n ∈ B) : m_Index_words I n = .ok (rowW n) := by
  have gr : dget I.rows_of n = some (rowW n) := by
    rw [h.rows]
    refine dget_of_mem ?_ (List.mem_map.mpr ⟨n, hn, rfl⟩)
    rw [List.map_map]
    have : (B.map ((fun x => x.1) ∘ fun n => (n, rowW n))) = B := List.map_id B
    rw [this]; exact h.nd
  unfold m_Index_words
  rw [isure_ok h hn, R.bind_ok, dgetR_ok gr]; rfl
theorem having_ok {ns B : List Str} {I : Index} (h : IX ns B I) : m_Index_having I ("rent" : Str) = .ok (sortT B) := by
  have l := h.len
  have e : (dget I.holders ("rent" : Str)).getD [] = B.map fun n => (n, true) := by
    rw [h.hg]; unfold hold
    rw [if_pos rfl]
    by_cases d : B = []
    · rw [d]; rfl
    · rw [if_neg d]; rfl
  unfold m_Index_having
  rw [e, R.need_pos (by rw [List.length_map]; omega), List.map_map]
  have : (B.map ((fun x => x.1) ∘ fun n => (n, true))) = B := List.map_id B
  rw [this]
theorem having_no {ns B : List Str} {I : Index} (h : IX ns B I) : m_Index_having I ("zother" : Str) = .ok [] := by
  have hz : ¬ ("zother" : Str) ∈ B := fun q => (h.nm _ (h.sub _ q)).no rfl
  have e : dget I.holders ("zother" : Str) = none := by
    rw [h.hg]; unfold hold
    rw [if_neg (by decide +kernel), if_neg hz]
  unfold m_Index_having
  rw [e]
  show R.need _ _ = _
  rw [R.need_pos (by decide)]
  show R.ok (sortT []) = _
  rw [List.perm_nil.mp (sortT_perm [])]
theorem all_no {ns B : List Str} {I : Index} (h : IX ns B I) : Ok (m_Index_all_words I) fun r => ¬ ("zother" : Str) ∈ r := by
  have l := h.len
  have lk := hold_keys h.hk h.hg
  have hz : ¬ ("zother" : Str) ∈ B := fun q => (h.nm _ (h.sub _ q)).no rfl
  unfold m_Index_all_words
  refine .need (by omega) (.ret fun q => ?_)
  obtain ⟨v, hv⟩ := dhas_get (dhas_iff.mpr ((sortT_perm _).mem_iff.mp q))
  rw [h.hg] at hv
  unfold hold at hv
  rw [if_neg (by decide +kernel), if_neg hz] at hv
  cases hv
theorem ix0 {ns : List Str} (h : ∀ n, n ∈ ns → Nm n) (few : ns.length ≤ 10) : IX ns [] (⟨[], []⟩ : Index) :=
  ⟨List.nodup_nil, (fun _ q => nomatch q), h, few, rfl, List.nodup_nil, fun w => by
    unfold hold
    rw [if_pos rfl]
    by_cases c : w = ("rent" : Str)
    · rw [if_pos c]; rfl
    · rw [if_neg c, if_neg (fun q => nomatch q)]; rfl⟩
theorem remS_filter {n : Str} : ∀ {B : List Str}, B.Nodup → remS B n = B.filter fun x => decide (x ≠ n)
  | [], _ => rfl
  | x :: r, h => by
    rw [List.nodup_cons] at h
    have ih := remS_filter (n := n) h.2
    unfold remS at *
    rw [List.findIdx_cons]
    by_cases c : x = n
    · have f : (r.filter fun x => decide (x ≠ n)) = r := List.filter_eq_self.mpr fun y hy => decide_eq_true fun e => h.1 (by rw [c, ← e]; exact hy)
      rw [List.filter_cons_of_neg (by simp [c]), f, decide_eq_true c]; rfl
    · rw [List.filter_cons_of_pos (by simp [c]), decide_eq_false c, ← ih]; rfl
structure W24 (ns : List Str) (T : Threads) (I : Index) (L : List (List Str)) : Prop where
  ex : ∃ P m B, GP ns P m ∧ IX ns B I ∧ T = mkT P m ∧ L = [P.map (·.1), B]
theorem refused_of {w : Int} {T : Threads} {I : Index} {n : Str} (h : m_law_called w T I n true = .exc ⟨4, 0⟩) : m_law_refused w T I n = .ok (true, T, I) := by
  unfold m_law_refused
  rw [h]
  rfl
theorem refusedA_of {w : Int} {T : Threads} {I : Index} {n : Any} (h : m_law_called_A w T I n true = .exc ⟨4, 0⟩) : m_law_refused_A w T I n = .ok (true, T, I) := by
  unfold m_law_refused_A
  rw [h]
  rfl
theorem step_bad {w : Int} {T : Threads} {I : Index} {n : Str} {L : List (List Str)} {j : Nat} {x : List Str} (h0 : ixJ L (if decide (3 < w) = true then 1 else 0) = .ok (j, x)) (h1 : (decide (n ∈ x)) = decide (w ∈ ([0, 4] : List Int))) (h : m_law_called w T I n true = .exc ⟨4, 0⟩) : m_law_step w T I n L = .ok (true, T, I, L) := by
  unfold m_law_step
  rw [h0]
  show (if _ then _ else _) = _
  rw [if_pos (decide_eq_true h1), refused_of h]; rfl
theorem step_good {w : Int} {T : Threads} {I : Index} {n : Str} {L : List (List Str)} {j : Nat} {x s1 s2 : List Str} {r : Any × Threads × Index} {d : Any} (h0 : ixJ L (if decide (3 < w) = true then 1 else 0) = .ok (j, x)) (h1 : ¬ (decide (n ∈ x)) = decide (w ∈ ([0, 4] : List Int))) (h : m_law_called w T I n false = .ok r)
    (h2 : (if (decide (w ∈ ([0, 4] : List Int))) = true then R.need (x.length < sizeLine) <| R.ok (x ++ [n]) else R.ok x) = .ok s1) (h3 : (if (decide (w ∈ ([1, 5] : List Int))) = true then R.need (n ∈ s1) <| R.ok (remS s1 n) else R.ok s1) = .ok s2)
    (h4 : (r.1.is "bool") = false) (h5 : m_law_due w n = .ok d) (h6 : eqA r.1 d = .ok true) : m_law_step w T I n L = .ok (true, r.2.1, r.2.2, L.set j s2) := by
  unfold m_law_step
  rw [h0]
  show (if _ then _ else _) = _
  rw [if_neg (by rw [decide_eq_true_eq]; exact h1), h, R.bind_ok]
  refine Ok.eq (.bindE h2 (.bindE h3 ?_))
  rw [h4, h5]
  refine .ifF (by decide) (.bindE rfl (.bindE h6 (.ret rfl)))
theorem strs_self {l : List Str} (h : ∀ x, x ∈ l → Asc x) : eqA (.lst (l.map Any.str)) (.lst (l.map Any.str)) = .ok true := by
  obtain ⟨a, b, c⟩ := lsts_lay h
  exact eqA_self a b (by omega)
theorem non_self : eqA .non .non = .ok true := eqA_self (by rw [plA] <;> (intro _ h; cases h)) (by rw [pdA]; rfl) (by rw [pdA]; decide)
theorem zero_self : eqA (.int 0) (.int 0) = .ok true := eqA_self (by rw [plA] <;> (intro _ h; cases h)) (by rw [pdA]; rfl) (by rw [pdA]; decide)
theorem keys_get {P : Pl24} {n : Str} (h : n ∈ P.map (·.1)) : ∃ i, dget P n = some i := dhas_get (dhas_iff.mpr h)
theorem rent_asc : Asc ("rent" : Str) := Asc.lit (by decide +kernel)
theorem row_due {n : Str} : sortT ([n] ++ repL [("rent" : Str)] (if (!decide (n = ("rent" : Str))) = true then 1 else 0 : Int).toNat) = rowW n := by
  by_cases c : n = ("rent" : Str)
  · rw [c, decide_eq_true rfl]
    show sortT [("rent" : Str)] = rowW ("rent" : Str)
    rw [sort_one]
    exact ssetT_is (by simp) (by simp) fun x => by simp
  · rw [decide_eq_false c]
    show sortT [n, ("rent" : Str)] = rowW n
    refine ssetT_is ((sortT_perm _).nodup_iff.mpr (by simp [c])) (sortT_up _) fun x => (sortT_perm _).mem_iff
theorem step_ok {ns : List Str} {T : Threads} {I : Index} {L : List (List Str)} (W : W24 ns T I L) {w : Int} (hw : 0 ≤ w ∧ w < 7) {n : Str} (hn : n ∈ ns) : Ok (m_law_step w T I n L) fun r => r.1 = true ∧ W24 ns r.2.1 r.2.2.1 r.2.2.2 := by
  obtain ⟨P, m, B, hP, hI, rfl, rfl⟩ := W.ex
  have N := hP.nm n hn
  have lP := hP.len
  have lB := hI.len
  have hw : w = 0 ∨ w = 1 ∨ w = 2 ∨ w = 3 ∨ w = 4 ∨ w = 5 ∨ w = 6 := by omega
  have lA : (P.map (·.1)).length ≤ 10 := by rw [List.length_map]; exact lP
  rcases hw with rfl | rfl | rfl | rfl | rfl | rfl | rfl
  · by_cases c : n ∈ P.map (·.1)
    · refine ⟨_, step_bad (j := 0) (x := P.map (·.1)) rfl (by rw [decide_eq_true c]; decide) ?_, rfl, W⟩
      unfold m_law_called
      exact exIfT (by decide) (exB (add_no (dhas_iff.mpr c) N.len.2))
    · have e := add_ok hP (dhas_false.mpr c)
      refine ⟨_, step_good (j := 0) (x := P.map (·.1)) (s1 := P.map (·.1) ++ [n]) (s2 := P.map (·.1) ++ [n]) (r := (Any.non, mkT (P ++ [(n, m + 1)]) (m + 1), I)) (d := .non) rfl (by rw [decide_eq_false c]; decide) ?_ ?_ rfl rfl rfl non_self, rfl, ?_⟩
      · unfold m_law_called
        refine Ok.eq (.ifF (by decide) (.ifF (by decide) (.ifT (by decide) (.bindE e (.ret rfl)))))
      · rw [if_pos (by decide), R.need_pos (line60 (by omega))]
      · exact ⟨_, _, B, hP.app (dhas_false.mpr c) hn, hI, rfl, by rw [List.map_append]; rfl⟩
  · by_cases c : n ∈ P.map (·.1)
    · obtain ⟨i, hi⟩ := keys_get c
      have e := take_ok hP hi
      have f := remS_filter (n := n) hP.nk
      refine ⟨_, step_good (j := 0) (x := P.map (·.1)) (s1 := P.map (·.1)) (s2 := remS (P.map (·.1)) n) (r := (Any.non, mkT (ddrop P n) m, I)) (d := .non) rfl (by rw [decide_eq_true c]; decide) ?_ rfl ?_ rfl rfl non_self, rfl, ?_⟩
      · unfold m_law_called
        refine Ok.eq (.ifF (by decide) (.ifF (by decide) (.ifF (by decide) (.ifT (by decide) (.bindE e (.ret rfl))))))
      · rw [if_pos (by decide), R.need_pos c]
      · exact ⟨_, _, B, hP.drop n, hI, rfl, by rw [f, keys_ddrop]; rfl⟩
    · refine ⟨_, step_bad (j := 0) (x := P.map (·.1)) rfl (by rw [decide_eq_false c]; decide) ?_, rfl, W⟩
      unfold m_law_called
      refine exIfF (by decide) (exIfF (by decide) (exIfF (by decide) (exIfT (by decide) (exB ?_))))
      unfold m_Threads_take_out
      rw [sure_no (dhas_false.mpr c) N.len.2]; rfl
  · by_cases c : n ∈ P.map (·.1)
    · obtain ⟨i, hi⟩ := keys_get c
      have e := thread_ok hP hi
      refine ⟨_, step_good (j := 0) (x := P.map (·.1)) (s1 := P.map (·.1)) (s2 := P.map (·.1)) (r := (Any.lst ([n].map Any.str), mkT P m, I)) (d := .lst ([n].map Any.str)) rfl (by rw [decide_eq_true c]; decide) ?_ rfl rfl rfl rfl (strs_self fun x hx => by rw [List.mem_singleton.mp hx]; exact N.asc), rfl, ⟨P, m, B, hP, hI, rfl, rfl⟩⟩
      unfold m_law_called
      refine Ok.eq (.ifF (by decide) (.ifF (by decide) (.ifF (by decide) (.ifF (by decide) (.ifT (by decide) (.bindE e (.ret rfl)))))))
    · refine ⟨_, step_bad (j := 0) (x := P.map (·.1)) rfl (by rw [decide_eq_false c]; decide) ?_, rfl, W⟩
      unfold m_law_called
      refine exIfF (by decide) (exIfF (by decide) (exIfF (by decide) (exIfF (by decide) (exIfT (by decide) (exB ?_)))))
      unfold m_Threads_thread
      rw [sure_no (dhas_false.mpr c) N.len.2]; rfl
  · by_cases c : n ∈ P.map (·.1)
    · obtain ⟨i, hi⟩ := keys_get c
      have e := depth_ok hP hi
      refine ⟨_, step_good (j := 0) (x := P.map (·.1)) (s1 := P.map (·.1)) (s2 := P.map (·.1)) (r := (Any.int 0, mkT P m, I)) (d := .int 0) rfl (by rw [decide_eq_true c]; decide) ?_ rfl rfl rfl rfl zero_self, rfl, ⟨P, m, B, hP, hI, rfl, rfl⟩⟩
      unfold m_law_called
      refine Ok.eq (.ifF (by decide) (.ifF (by decide) (.ifF (by decide) (.ifF (by decide) (.ifF (by decide) (.ifT (by decide) (.bindE e (.ret rfl))))))))
    · refine ⟨_, step_bad (j := 0) (x := P.map (·.1)) rfl (by rw [decide_eq_false c]; decide) ?_, rfl, W⟩
      unfold m_law_called
      refine exIfF (by decide) (exIfF (by decide) (exIfF (by decide) (exIfF (by decide) (exIfF (by decide) (exIfT (by decide) (exB ?_))))))
      unfold m_Threads_depth
      rw [sure_no (dhas_false.mpr c) N.len.2]; rfl
  · by_cases c : n ∈ B
    · refine ⟨_, step_bad (j := 1) (x := B) rfl (by rw [decide_eq_true c]; decide) ?_, rfl, W⟩
      unfold m_law_called
      exact exIfF (by decide) (exIfT (by decide) (exB (iadd_no hI c N.len.2)))
    · obtain ⟨J, e, hJ⟩ := iadd_ok hI c hn
      refine ⟨_, step_good (j := 1) (x := B) (s1 := B ++ [n]) (s2 := B ++ [n]) (r := (Any.non, mkT P m, J)) (d := .non) rfl (by rw [decide_eq_false c]; decide) ?_ ?_ rfl rfl rfl non_self, rfl, ?_⟩
      · unfold m_law_called
        refine Ok.eq (.ifF (by decide) (.ifF (by decide) (.ifF (by decide) (.ifF (by decide) (.ifF (by decide) (.ifF (by decide) (.ifT (by decide) (.bindE e (.ret rfl)))))))))
      · rw [if_pos (by decide), R.need_pos (line60 (by omega))]
      · exact ⟨P, m, _, hP, hJ, rfl, rfl⟩
  · by_cases c : n ∈ B
    · obtain ⟨J, e, hJ⟩ := itake_ok hI c
      have f := remS_filter (n := n) hI.nd
      refine ⟨_, step_good (j := 1) (x := B) (s1 := B) (s2 := remS B n) (r := (Any.non, mkT P m, J)) (d := .non) rfl (by rw [decide_eq_true c]; decide) ?_ rfl ?_ rfl rfl non_self, rfl, ?_⟩
      · unfold m_law_called
        refine Ok.eq (.ifF (by decide) (.ifF (by decide) (.ifF (by decide) (.ifF (by decide) (.ifF (by decide) (.ifF (by decide) (.ifF (by decide) (.ifT (by decide) (.bindE e (.ret rfl))))))))))
      · rw [if_pos (by decide), R.need_pos c]
      · exact ⟨P, m, _, hP, hJ, rfl, by rw [f]; rfl⟩
    · refine ⟨_, step_bad (j := 1) (x := B) rfl (by rw [decide_eq_false c]; decide) ?_, rfl, W⟩
      unfold m_law_called
      refine exIfF (by decide) (exIfF (by decide) (exIfF (by decide) (exIfF (by decide) (exIfF (by decide) (exIfF (by decide) (exIfF (by decide) (exIfT (by decide) (exB ?_))))))))
      unfold m_Index_take_out
      rw [isure_no hI c N.len.2]; rfl
  · by_cases c : n ∈ B
    · have e := words_ok hI c
      have ha : ∀ x, x ∈ rowW n → Asc x := fun x hx => by
        rcases mem_rowW.mp hx with rfl | rfl
        · exact N.asc
        · exact rent_asc
      refine ⟨_, step_good (j := 1) (x := B) (s1 := B) (s2 := B) (r := (Any.lst ((rowW n).map Any.str), mkT P m, I)) (d := .lst ((rowW n).map Any.str)) rfl (by rw [decide_eq_true c]; decide) ?_ rfl rfl rfl ?_ (strs_self ha), rfl, ⟨P, m, B, hP, hI, rfl, rfl⟩⟩
      · unfold m_law_called
        refine Ok.eq (.ifF (by decide) (.ifF (by decide) (.ifF (by decide) (.ifF (by decide) (.ifF (by decide) (.ifF (by decide) (.ifF (by decide) (.ifF (by decide) (.bindE e (.ret rfl))))))))))
      · unfold m_law_due
        refine Ok.eq (.ifF (by decide) (.ifF (by decide) (.ifF (by decide) ?_)))
        have h01 : (if (!decide (n = ("rent" : Str))) = true then 1 else 0 : Int) = 0 ∨ (if (!decide (n = ("rent" : Str))) = true then 1 else 0 : Int) = 1 := by split <;> simp
        have lr : (repL [("rent" : Str)] (if (!decide (n = ("rent" : Str))) = true then 1 else 0 : Int).toNat).length ≤ 1 := by
          rcases h01 with h | h <;> rw [h] <;> decide
        refine .need (by rcases h01 with h | h <;> rw [h] <;> decide) (.need (by rcases h01 with h | h <;> rw [h] <;> exact le_line (by decide)) (.need ?_ (.need ?_ (.ret ?_))))
        · exact le_line (by show 1 + _ ≤ _; omega)
        · rw [List.length_append]; show 1 + _ < 64; omega
        · rw [row_due]
    · refine ⟨_, step_bad (j := 1) (x := B) rfl (by rw [decide_eq_false c]; decide) ?_, rfl, W⟩
      unfold m_law_called
      refine exIfF (by decide) (exIfF (by decide) (exIfF (by decide) (exIfF (by decide) (exIfF (by decide) (exIfF (by decide) (exIfF (by decide) (exIfF (by decide) (exB ?_))))))))
      unfold m_Index_words
      rw [isure_no hI c N.len.2]; rfl
/-- names that are none -/
theorem hasA_odd {β : Type} (d : List (Str × β)) {x : Any} (hx : x ∈ [Any.non, Any.int 0, Any.int 7]) : hasA d x = .ok false := by
  simp only [List.mem_cons, List.not_mem_nil, or_false] at hx
  rcases hx with rfl | rfl | rfl <;> rfl
theorem fmtA_odd {x : Any} (hx : x ∈ [Any.non, Any.int 0, Any.int 7]) : ∃ t, fmtA x = .ok t ∧ t.length ≤ 4 := by
  simp only [List.mem_cons, List.not_mem_nil, or_false] at hx
  rcases hx with rfl | rfl | rfl
  · exact ⟨_, rfl, by decide +kernel⟩
  · exact ⟨_, rfl, by decide +kernel⟩
  · exact ⟨_, rfl, by decide +kernel⟩
theorem saidA {n : Str} {t : Str} (h : n.length ≤ 20) (ht : t.length ≤ 12) {ρ : Type} {x : R ρ} : (R.need ((Str.empty ++ n).length ≤ sizeLine) <| R.need (((Str.empty ++ n) ++ t).length ≤ sizeLine) <| x) = x := by
  rw [R.need_pos (le_line (by rw [len_app, len_e]; omega)), R.need_pos (le_line (by rw [len_app, len_app, len_e]; omega))]
theorem sureA_no {T : Threads} {x : Any} (hx : x ∈ [Any.non, Any.int 0, Any.int 7]) : m_Threads_sure_A T x = .exc ⟨4, 0⟩ := by
  obtain ⟨t, ht, hl⟩ := fmtA_odd hx
  unfold m_Threads_sure_A
  rw [hasA_odd _ hx, R.bind_ok, if_pos (show (!false) = true from rfl), ht, R.bind_ok]
  exact saidA (by omega) (by rw [len_isnt]; omega)
theorem isureA_no {I : Index} {x : Any} (hx : x ∈ [Any.non, Any.int 0, Any.int 7]) : m_Index_sure_A I x = .exc ⟨4, 0⟩ := by
  obtain ⟨t, ht, hl⟩ := fmtA_odd hx
  unfold m_Index_sure_A
  rw [hasA_odd _ hx, R.bind_ok, if_pos (show (!false) = true from rfl), ht, R.bind_ok]
  exact saidA (by omega) (by rw [len_isnt]; omega)
theorem oddN {T : Threads} {I : Index} {x : Any} (hx : x ∈ [Any.non, Any.int 0, Any.int 7]) {w : Int} (hw : w ∈ ([1, 2, 3, 5, 6] : List Int)) : m_law_called_A w T I x true = .exc ⟨4, 0⟩ := by
  have hw : w = 1 ∨ w = 2 ∨ w = 3 ∨ w = 5 ∨ w = 6 := by simpa using hw
  have s := sureA_no (T := T) hx
  have i := isureA_no (I := I) hx
  unfold m_law_called_A
  rcases hw with rfl | rfl | rfl | rfl | rfl
  · exact exIfF (by decide) (exIfF (by decide) (exIfF (by decide) (exIfT (by decide) (exB (by unfold m_Threads_take_out_A; rw [s]; rfl)))))
  · exact exIfF (by decide) (exIfF (by decide) (exIfF (by decide) (exIfF (by decide) (exIfT (by decide) (exB (by unfold m_Threads_thread_A; rw [s]; rfl))))))
  · exact exIfF (by decide) (exIfF (by decide) (exIfF (by decide) (exIfF (by decide) (exIfF (by decide) (exIfT (by decide) (exB (by unfold m_Threads_depth_A; rw [s]; rfl)))))))
  · exact exIfF (by decide) (exIfF (by decide) (exIfF (by decide) (exIfF (by decide) (exIfF (by decide) (exIfF (by decide) (exIfF (by decide) (exIfT (by decide) (exB (by unfold m_Index_take_out_A; rw [i]; rfl)))))))))
  · exact exIfF (by decide) (exIfF (by decide) (exIfF (by decide) (exIfF (by decide) (exIfF (by decide) (exIfF (by decide) (exIfF (by decide) (exIfF (by decide) (exB (by unfold m_Index_words_A; rw [i]; rfl)))))))))
theorem pool_ok {r1 : List Int} (hl : r1.length = 60) (hr : ∀ x, x ∈ r1 → 0 ≤ x ∧ x < 2147483629) : Ok (m_law_pool r1) fun ns => 2 ≤ ns.length ∧ ns.length ≤ 10 ∧ ∀ n, n ∈ ns → Nm n := by
  unfold m_law_pool
  refine .idx (by decide) (by omega) fun x1 h1 _ => .lets (.need (by omega) (.need (by rw [rngL_len]; exact le_line (by omega)) ?_))
  refine .comp Nm (fun k hk => ?_) fun ns e hn => .ret ⟨?_, ?_, hn⟩
  · have hk := rngL_mem hk
    refine .idx (by decide) (by omega) fun x0 h0 _ => .bind (nameBy_ok ⟨(hr x0 h0).1, by have := (hr x0 h0).2; omega⟩ ⟨hk.1, by omega⟩) fun n hn => .ret ⟨n, rfl, hn⟩
  · rw [e, rngL_len]; omega
  · rw [e, rngL_len]; omega
theorem asc_names {ns : List Str} (h : ∀ n, n ∈ ns → Nm n) {l : List Str} (hs : ∀ n, n ∈ l → n ∈ ns) : (Lay.lay (sortT l) : Bool) = true := strs_lay fun x hx => (h x (hs x ((sortT_perm l).mem_iff.mp hx))).asc
theorem zf_asc : Asc ("zfresh" : Str) := Asc.lit (by decide +kernel)
/-- a thread with one that answers another that never comes -/
def mkZ (P : Pl24) (m : Int) : Threads := ⟨P.map (fun p => (p.1, ("" : Str))) ++ [(("zfresh" : Str), ("zother" : Str))], P ++ [(("zfresh" : Str), m + 1), (("zother" : Str), m + 1)], P.map (fun p => (p.2, [p.1])) ++ [(m + 1, [("zfresh" : Str), ("zother" : Str)])], cfT P ++ [(("zother" : Str), [(("zfresh" : Str), true)])], m + 1 + 1⟩
theorem ddrop_last {κ β : Type} [DecidableEq κ] {d : List (κ × β)} {k : κ} {v : β} (h : dhas d k = false) : ddrop (d ++ [(k, v)]) k = d := by
  unfold ddrop
  rw [List.filter_append, List.filter_cons_of_neg (by simp), List.filter_nil, List.append_nil]
  exact List.filter_eq_self.mpr fun p hp => decide_eq_true fun e => dhas_false.mp h (List.mem_map.mpr ⟨p, hp, e⟩)
theorem dput_last {κ β : Type} [DecidableEq κ] {d : List (κ × β)} {k : κ} {v w : β} (h : dhas d k = false) : dput (d ++ [(k, v)]) k w = d ++ [(k, w)] := by
  have hh : dhas (d ++ [(k, v)]) k = true := by rw [dhas_iff]; simp
  rw [dput_eq, if_pos hh, List.map_append]
  congr 1
  · refine (List.map_congr_left fun p hp => ?_).trans (List.map_id d)
    rw [if_neg fun e => dhas_false.mp h (List.mem_map.mpr ⟨p, hp, e⟩)]; rfl
  · simp
theorem fresh_ok {ns : List Str} {P : Pl24} {m : Int} (h : GP ns P m) : m_Threads_add (mkT P m) ("zfresh" : Str) ("zother" : Str) = .ok (mkZ P m) := by
  have l := h.len
  have hf : dhas P ("zfresh" : Str) = false := dhas_false.mpr fun q => (h.nm _ (h.sub _ q)).nf rfl
  have ho : dhas P ("zother" : Str) = false := dhas_false.mpr fun q => (h.nm _ (h.sub _ q)).no rfl
  have ne : ¬ ("zfresh" : Str) = ("zother" : Str) := by decide +kernel
  have no : ¬ ("" : Str) = ("zother" : Str) := by decide +kernel
  have hg : dhas (mkT P m).goes_to ("zfresh" : Str) = false := by rw [goes_has, hf]
  have hc : dhas (cfT P) ("zother" : Str) = false := by
    unfold cfT
    split
    · rfl
    · unfold dhas; rw [dget_cons, if_neg no]; rfl
  unfold m_Threads_add
  rw [hg]
  show (R.need _ _) = _
  have lg : (mkT P m).goes_to.length = P.length := List.length_map ..
  have lc : (mkT P m).comes_from.length ≤ 1 := cf_len P
  have gc : dget (mkT P m).comes_from ("zother" : Str) = none := no_of hc
  rw [gc, R.need_pos (line60 (by omega)), R.need_pos (line60 (by omega)), R.need_pos (line60 (by show 0 ≤ 60; decide))]
  have e2 : dput (setE (mkT P m).comes_from ("zother" : Str) []) ("zother" : Str) (dput ((none : Option (List (Str × Bool))).getD []) ("zfresh" : Str) true) = cfT P ++ [(("zother" : Str), [(("zfresh" : Str), true)])] := by
    show dput (setE (cfT P) _ _) _ _ = _
    unfold setE
    rw [if_neg (by rw [hc]; exact Bool.false_ne_true), dput_last hc]; rfl
  rw [e2]
  suffices e3 : m_Threads_hang (⟨dput (mkT P m).goes_to ("zfresh" : Str) ("zother" : Str), (mkT P m).pile_of, (mkT P m).piles, cfT P ++ [(("zother" : Str), [(("zfresh" : Str), true)])], (mkT P m).made⟩ : Threads) ("zfresh" : Str) = .ok (mkZ P m) by
    rw [e3]; rfl
  have lp : (P.map fun p => (p.2, [p.1])).length ≤ 10 := by rw [List.length_map]; omega
  have q1 : dhas (P.map fun p => (p.2, [p.1])) (m + 1) = false := piles_no h (by omega)
  have q2 : dhas (P.map fun p => (p.2, [p.1])) (m + 1 + 1) = false := piles_no h (by omega)
  have q3 : dhas ((P.map fun p => (p.2, [p.1])) ++ [(m + 1, [("zfresh" : Str)])]) (m + 1 + 1) = false := by
    rw [dhas_false, List.map_append]
    intro q
    rcases List.mem_append.mp q with q | q
    · exact dhas_false.mp q2 q
    · have : m + 1 + 1 = m + 1 := by simpa using q
      omega
  have q4 : dhas (P ++ [(("zfresh" : Str), m + 1)]) ("zother" : Str) = false := by
    rw [dhas_false, List.map_append]
    intro q
    rcases List.mem_append.mp q with q | q
    · exact dhas_false.mp ho q
    · have : ("zother" : Str) = ("zfresh" : Str) := List.mem_singleton.mp q
      exact ne this.symm
  refine Ok.eq ?_
  unfold m_Threads_hang
  refine .bindE (pile_new (T := ⟨dput (mkT P m).goes_to ("zfresh" : Str) ("zother" : Str), (mkT P m).pile_of, (mkT P m).piles, cfT P ++ [(("zother" : Str), [(("zfresh" : Str), true)])], (mkT P m).made⟩) hf q1 (by show P.length ≤ _; omega) (by show (P.map fun p => (p.2, [p.1])).length ≤ _; omega)) ?_
  dsimp only
  rw [dput_new hg]
  refine .bindE (dgetR_ok (dget_last hg)) ?_
  refine .bind (Q := fun T => T = mkZ P m) (.ifT (by rw [decide_eq_false (show ¬ ("zother" : Str) = ("" : Str) from fun e => no e.symm)]; rfl) ?_) fun T hT => .ret hT
  refine .bindE (dgetR_ok (dget_last hg)) ?_
  refine .bindE (pile_new (T := ⟨(mkT P m).goes_to ++ [(("zfresh" : Str), ("zother" : Str))], P ++ [(("zfresh" : Str), m + 1)], (P.map fun p => (p.2, [p.1])) ++ [(m + 1, [("zfresh" : Str)])], cfT P ++ [(("zother" : Str), [(("zfresh" : Str), true)])], m + 1⟩) q4 q3 (by rw [List.length_append]; show P.length + 1 ≤ 60; omega) (by rw [List.length_append]; show _ + 1 ≤ 60; omega)) ?_
  dsimp only
  refine .bind (Q := fun T => T = mkZ P m) ?_ fun T hT => .ret hT
  unfold m_Threads_put_together
  refine .ifF (show ¬ decide (m + 1 = m + 1 + 1) = true by rw [decide_eq_true_eq]; omega) ?_
  dsimp only
  have g1 : dget (((P.map fun p => (p.2, [p.1])) ++ [(m + 1, [("zfresh" : Str)])]) ++ [(m + 1 + 1, [("zother" : Str)])]) (m + 1) = some [("zfresh" : Str)] := by
    rw [dget_app, dget_last q1]; rfl
  have g2 : dget (((P.map fun p => (p.2, [p.1])) ++ [(m + 1, [("zfresh" : Str)])]) ++ [(m + 1 + 1, [("zother" : Str)])]) (m + 1 + 1) = some [("zother" : Str)] := dget_last q3
  refine .bindE (dgetR_ok g1) (.bindE (dgetR_ok g2) ?_)
  refine .bind (Q := fun s => s = (m + 1, m + 1 + 1)) (.ifF (show ¬ decide (((1 : Nat) : Int) < ((1 : Nat) : Int)) = true by decide) (.ret rfl)) fun s hs => ?_
  subst hs
  dsimp only
  refine .bindE (dgetR_ok g2) ?_
  rw [forR_one]
  have e4 : dput ((P ++ [(("zfresh" : Str), m + 1)]) ++ [(("zother" : Str), m + 1 + 1)]) ("zother" : Str) (m + 1) = P ++ [(("zfresh" : Str), m + 1), (("zother" : Str), m + 1)] := by
    rw [dput_last q4, List.append_assoc]; rfl
  rw [e4]
  refine .bind (Q := fun s => s = P ++ [(("zfresh" : Str), m + 1), (("zother" : Str), m + 1)]) (.need (line60 (by rw [List.length_append, List.length_append]; show P.length + 1 + 1 ≤ 60; omega)) (.ret rfl)) fun s hs => ?_
  subst hs
  rw [ddrop_last q3]
  refine .bindE (dgetR_ok (dget_last q1)) (.need (line60 (by rw [List.length_append]; show _ + 1 ≤ 60; omega)) (.need (le_line (by show 1 + 1 ≤ _; decide)) (.ret ?_)))
  rw [dput_last q1]
  rfl
theorem zgoes {ns : List Str} {P : Pl24} {m : Int} (h : GP ns P m) {n : Str} : dhas (mkZ P m).goes_to n = (dhas P n || decide (n = ("zfresh" : Str))) := by
  rw [Bool.eq_iff_iff, dhas_iff, Bool.or_eq_true, dhas_iff, decide_eq_true_eq]
  show n ∈ ((P.map fun p => (p.1, ("" : Str))) ++ [(("zfresh" : Str), ("zother" : Str))]).map (·.1) ↔ _
  rw [List.map_append, List.mem_append, mapk (fun _ => ("" : Str))]
  simp
theorem zsure_no {ns : List Str} {P : Pl24} {m : Int} (h : GP ns P m) : m_Threads_sure (mkZ P m) ("zother" : Str) = .exc ⟨4, 0⟩ := by
  have ho : dhas P ("zother" : Str) = false := dhas_false.mpr fun q => (h.nm _ (h.sub _ q)).no rfl
  unfold m_Threads_sure
  rw [zgoes h, ho, decide_eq_false (show ¬ ("zother" : Str) = ("zfresh" : Str) by decide +kernel)]
  have hl : ("zother" : Str).length ≤ 20 := by decide +kernel
  exact said hl (by rw [len_isnt]; omega)
theorem zcalls {ns : List Str} {P : Pl24} {m : Int} (h : GP ns P m) {I : Index} {w : Int} (hw : w ∈ ([2, 3, 1, 2] : List Int)) : m_law_called w (mkZ P m) I ("zother" : Str) true = .exc ⟨4, 0⟩ := by
  have hw : w = 2 ∨ w = 3 ∨ w = 1 := by simp at hw; omega
  have s := zsure_no h
  unfold m_law_called
  rcases hw with rfl | rfl | rfl
  · exact exIfF (by decide) (exIfF (by decide) (exIfF (by decide) (exIfF (by decide) (exIfT (by decide) (exB (by unfold m_Threads_thread; rw [s]; rfl))))))
  · exact exIfF (by decide) (exIfF (by decide) (exIfF (by decide) (exIfF (by decide) (exIfF (by decide) (exIfT (by decide) (exB (by unfold m_Threads_depth; rw [s]; rfl)))))))
  · exact exIfF (by decide) (exIfF (by decide) (exIfF (by decide) (exIfT (by decide) (exB (by unfold m_Threads_take_out; rw [s]; rfl)))))
theorem zthread {ns : List Str} {P : Pl24} {m : Int} (h : GP ns P m) : m_Threads_thread (mkZ P m) ("zfresh" : Str) = .ok [("zfresh" : Str)] := by
  have hf : dhas P ("zfresh" : Str) = false := dhas_false.mpr fun q => (h.nm _ (h.sub _ q)).nf rfl
  have ho : dhas P ("zother" : Str) = false := dhas_false.mpr fun q => (h.nm _ (h.sub _ q)).no rfl
  have q1 : dhas (P.map fun p => (p.2, [p.1])) (m + 1) = false := piles_no h (by omega)
  have zf : dhas (mkZ P m).goes_to ("zfresh" : Str) = true := by rw [zgoes h, decide_eq_true rfl, Bool.or_true]
  have zo : dhas (mkZ P m).goes_to ("zother" : Str) = false := by
    rw [zgoes h, ho, decide_eq_false (show ¬ ("zother" : Str) = ("zfresh" : Str) by decide +kernel)]; rfl
  have g1 : dget (mkZ P m).pile_of ("zfresh" : Str) = some (m + 1) := by
    show dget (P ++ [(("zfresh" : Str), m + 1), (("zother" : Str), m + 1)]) _ = _
    rw [dget_app, no_of hf, dget_cons, if_pos rfl]; rfl
  have g2 : dget (mkZ P m).piles (m + 1) = some [("zfresh" : Str), ("zother" : Str)] := dget_last q1
  refine Ok.eq ?_
  unfold m_Threads_thread
  refine .bindE (a := ()) (by unfold m_Threads_sure; rw [zf]; rfl) (.bindE (dgetR_ok g1) (.bindE (dgetR_ok g2) (.need (le_line (by show 2 ≤ _; decide)) ?_)))
  refine .compF (fun x => if dhas (mkZ P m).goes_to x = true then some x else none) (fun x _ => .ite (fun c => .ret (by rw [if_pos c])) fun c => .ret (by rw [if_neg c])) ?_
  have e : [("zfresh" : Str), ("zother" : Str)].filterMap (fun x => if dhas (mkZ P m).goes_to x = true then some x else none) = [("zfresh" : Str)] := by
    rw [List.filterMap_cons_some (b := ("zfresh" : Str)) (by rw [zf]; rfl), List.filterMap_cons_none (by rw [zo]; rfl)]; rfl
  rw [e]
  exact .need (by show 1 < 64; decide) (.ret (sort_one _))
theorem znames {ns : List Str} {P : Pl24} {m : Int} (h : GP ns P m) : m_Threads_names (mkZ P m) = .ok (sortT (P.map (·.1) ++ [("zfresh" : Str)])) := by
  have l := h.len
  have e : (mkZ P m).goes_to.map (·.1) = P.map (·.1) ++ [("zfresh" : Str)] := by
    show ((P.map fun p => (p.1, ("" : Str))) ++ [(("zfresh" : Str), ("zother" : Str))]).map (·.1) = _
    rw [List.map_append, mapk (fun _ => ("" : Str))]; rfl
  have e2 : (mkZ P m).goes_to.length = P.length + 1 := by
    have := congrArg List.length e
    rw [List.length_map, List.length_append, List.length_map] at this
    exact this
  unfold m_Threads_names
  rw [R.need_pos (by rw [e2]; omega), e]
theorem law_ok (s : Script) (_ : s.ns.length ≤ 63) : m_law s = .ok true := by
  refine Ok.eq ?_
  unfold m_law
  refine .bind (draws_ok s (n := 60) (by decide)) fun r1 ⟨l1, hr⟩ => ?_
  have l1 : r1.length = 60 := by omega
  refine .bind (pool_ok l1 hr) fun ns ⟨a1, a2, hn⟩ => ?_
  refine .bindE (a := mkT [] 0) rfl (.bindE (a := ⟨[], []⟩) rfl (.lets (.idx (by decide) (by omega) fun x2 _ _ => .need (by omega) ?_)))
  refine .forFK (fun s => W24 ns s.1 s.2.1 s.2.2) ⟨[], 0, [], ⟨List.nodup_nil, List.nodup_nil, (fun _ q => nomatch q), (fun _ q => nomatch q), hn, a2⟩, ix0 hn a2, rfl, rfl⟩ ?_ ?_
  · rintro k ⟨T, I, L⟩ hk W
    have hk := rngL_mem hk
    dsimp only at W ⊢
    refine .idx (by omega) (by omega) fun x25 h25 _ => .need (by omega) (.idx (Int.emod_nonneg _ (by omega)) (Int.emod_lt_of_pos _ (by omega)) fun n hnm _ => .idx (by omega) (by omega) fun x28 h28 _ => .lets ?_)
    have w0 : 0 ≤ x28 % 7 := Int.emod_nonneg _ (by decide)
    have w1 : x28 % 7 < 7 := Int.emod_lt_of_pos _ (by decide)
    generalize x28 % 7 = w at *
    refine .bind (step_ok W ⟨w0, w1⟩ hnm) fun r ⟨e, W1⟩ => .ifF (by rw [e]; decide) ?_
    refine .idx w0 (by show w < ((7 : Nat) : Int); omega) fun w2 hw2 _ => .idx (by omega) (by omega) fun x34 h34 _ => ?_
    have hw2 : 0 ≤ w2 ∧ w2 < 7 := by simp at hw2; omega
    refine Ok.bind2 (Z := fun t => W24 ns t.1.1 t.1.2.1 t.1.2.2 ∧ t.2 = false) (.ite (fun _ => .bind (step_ok W1 hw2 hnm) fun r2 ⟨e2, W2⟩ => .ret ⟨W2, by rw [e2]; rfl⟩) fun _ => .ret ⟨W1, rfl⟩) ?_
    rintro ⟨T2, I2, L2⟩ b ⟨W2, rfl⟩
    refine .ifF Bool.false_ne_true ?_
    obtain ⟨P, m, B, hP, hI, rfl, rfl⟩ := W2.ex
    have lP := hP.len
    have lB := hI.len
    refine .bindE (names_ok hP) ?_
    refine Ok.bind2 (Z := fun t => t = (0, P.map (·.1))) (.ret rfl) ?_
    rintro j x ⟨⟩
    refine .need (by rw [List.length_map]; omega) (.need (asc_names hn hP.sub) (.need (asc_names hn hP.sub) ?_))
    refine .bind (Q := fun b => b = false) (.ifF (by rw [decide_eq_true rfl]; decide) (.bindE (having_ok hI) ?_)) fun b hb => ?_
    · refine Ok.bind2 (Z := fun t => t = (1, B)) (.ret rfl) ?_
      rintro j x ⟨⟩
      exact .need (by omega) (.need (asc_names hn hI.sub) (.need (asc_names hn hI.sub) (.ret (by rw [decide_eq_true rfl]; rfl))))
    subst hb
    refine .ifF Bool.false_ne_true ?_
    refine .bindE answers_ok (.need rfl (.need rfl (.bind (Q := fun b => b = false) (.ifF (by decide) (.bindE (having_no hI) (.need rfl (.need rfl (.bind (Q := fun b => b = false) (.ifF (by decide) (.bind (all_no hI) fun r hr => .ret (decide_eq_false hr))) fun b hb => .ret hb))))) fun b hb => ?_)))
    subst hb
    refine .ifF Bool.false_ne_true ?_
    refine .idx (by omega) (by omega) fun x90 _ _ => ?_
    refine Ok.bind2 (Z := fun t => W24 ns t.1.1 t.1.2.1 t.1.2.2 ∧ t.2 = false) (.ite (fun _ => .bind (step_ok W2 ⟨w0, w1⟩ hnm) fun r2 ⟨e2, W3⟩ => .ret ⟨W3, by rw [e2]; rfl⟩) fun _ => .ret ⟨W2, rfl⟩) ?_
    rintro ⟨T3, I3, L3⟩ b ⟨W3, rfl⟩
    exact .ifF Bool.false_ne_true (.ret ⟨_, rfl, W3⟩)
  · rintro ⟨T, I, L⟩ W
    obtain ⟨P, m, B, hP, hI, e1, e2⟩ := W.ex
    dsimp only at e1 e2 hI
    subst e1
    subst e2
    have lP := hP.len
    show Ok (R.bind _ _) _
    refine .forFK (fun s => s = (mkT P m, I)) rfl ?_ ?_
    · rintro w s hw rfl
      refine .idx (by decide) (by omega) fun x102 h102 _ => ?_
      have hw2 : 0 ≤ w ∧ w < 7 := by simp at hw; omega
      refine .need ⟨by omega, by omega⟩ (.idx (Int.emod_nonneg _ (by decide)) (Int.emod_lt_of_pos _ (by decide)) fun x hx _ => ?_)
      exact .bindE (refusedA_of (oddN hx hw)) (.ifF Bool.false_ne_true (.ret ⟨_, rfl, rfl⟩))
    · rintro s rfl
      show Ok (R.bind _ _) _
      refine .bindE (threads_ok hP) ?_
      refine Ok.bind2 (Z := fun t => t = (0, P.map (·.1))) (.ret rfl) ?_
      rintro j x ⟨⟩
      have lA : (P.map (·.1)).length ≤ 10 := by rw [List.length_map]; exact lP
      have lS : (sortT (P.map (·.1))).length ≤ 10 := by rw [(sortT_perm _).length_eq]; exact lA
      have ll : (Lay.lay ((sortT (P.map (·.1))).map fun x => [x]) : Bool) = true := List.all_eq_true.mpr fun y hy => by
        obtain ⟨z, hz, rfl⟩ := List.mem_map.mp hy
        exact strs_lay fun w hw => by rw [List.mem_singleton.mp hw]; exact (hn z (hP.sub z ((sortT_perm _).mem_iff.mp hz))).asc
      refine .need (by omega) (.need (le_line (by omega)) (.compM (fun x => [x]) (fun x _ => .ret rfl) (.need ll (.need ll (.ifF (by rw [decide_eq_true rfl]; decide) ?_)))))
      refine .bindE (fresh_ok hP) ?_
      refine .forFK (fun s => s = (mkZ P m, I)) rfl ?_ ?_
      · rintro w s hw rfl
        exact .bindE (refused_of (zcalls hP hw)) (.ifF Bool.false_ne_true (.ret ⟨_, rfl, rfl⟩))
      · rintro s rfl
        show Ok (R.bind _ _) _
        have l1 : (Lay.lay ([("zfresh" : Str)] : List Str) : Bool) = true := strs_lay fun w hw => by rw [List.mem_singleton.mp hw]; exact zf_asc
        have l2 : (Lay.lay (sortT (P.map (·.1) ++ [("zfresh" : Str)])) : Bool) = true := strs_lay fun w hw => by
          rcases List.mem_append.mp ((sortT_perm _).mem_iff.mp hw) with q | q
          · exact (hn w (hP.sub w q)).asc
          · rw [List.mem_singleton.mp q]; exact zf_asc
        refine .bindE (zthread hP) (.need l1 (.need l1 (.bind (Q := fun b => b = true) (.ifT (by rw [decide_eq_true rfl]) (.bindE (znames hP) ?_)) fun b hb => .ret hb)))
        refine Ok.bind2 (Z := fun t => t = (0, P.map (·.1))) (.ret rfl) ?_
        rintro j x ⟨⟩
        exact .need (le_line (by show _ + 1 ≤ _; omega)) (.need (by rw [List.length_append]; show _ + 1 < 64; omega) (.need l2 (.need l2 (.ret (decide_eq_true rfl)))))
end Lw
namespace Lw
open PySem PySem.Spec PyProof.Rows L2 Ml
def IndexA {G : Gx} (a : Addr) (x : Index) : Asn G := exA fun (dx : Addr) => exA fun (p_rows_of : Addr) => exA fun (p_holders : Addr) => star [cell a (.ins (G.cl 7) dx [("rows_of", .ref p_rows_of), ("holders", .ref p_holders)]), dictA p_rows_of (x.rows_of : (List (Str × (List Str)))), dictE dictA p_holders (x.holders : (List (Str × (List (Str × Bool)))))]
theorem open_Index {G : Gx} {H : Hp} {a : Addr} {x : Index} {M : List (Asn G)} (h : Sep H (IndexA a x :: M)) : ∃ (dx : Addr) (p_rows_of : Addr) (p_holders : Addr), Sep H ([cell a (.ins (G.cl 7) dx [("rows_of", .ref p_rows_of), ("holders", .ref p_holders)]), dictA p_rows_of (x.rows_of : (List (Str × (List Str)))), dictE dictA p_holders (x.holders : (List (Str × (List (Str × Bool)))))] ++ M : List (Asn G)) := by
  unfold IndexA at h
  obtain ⟨dx, h⟩ := Sep.ex h
  obtain ⟨p_rows_of, h⟩ := Sep.ex h
  obtain ⟨p_holders, h⟩ := Sep.ex h
  exact ⟨dx, p_rows_of, p_holders, Sep.star1 h⟩
theorem ins_Index {G : Gx} {H : Hp} {L : List (Asn G)} {i : Nat} {a : Addr} {x : Index} (h : Sep H L) (e : L[i]? = some (IndexA a x)) : ∃ (dx : Addr) (p_rows_of : Addr) (p_holders : Addr), H a = some (.ins (G.cl 7) dx [("rows_of", .ref p_rows_of), ("holders", .ref p_holders)]) := by
  obtain ⟨fp, dx, p_rows_of, p_holders, f1, f2, _, ⟨_, hO⟩, _⟩ := h.at e
  exact ⟨dx, p_rows_of, p_holders, hO⟩
theorem pack_Index {G : Gx} {H : Hp} {a : Addr} {x : Index} {M : List (Asn G)} {dx : Addr} {p_rows_of : Addr} {p_holders : Addr} (h : Sep H ([cell a (.ins (G.cl 7) dx [("rows_of", .ref p_rows_of), ("holders", .ref p_holders)]), dictA p_rows_of (x.rows_of : (List (Str × (List Str)))), dictE dictA p_holders (x.holders : (List (Str × (List (Str × Bool)))))] ++ M : List (Asn G))) : Sep H (IndexA a x :: M) := Sep.exI dx (Sep.exI p_rows_of (Sep.exI p_holders (Sep.unstar1 h)))
def ThreadsA {G : Gx} (a : Addr) (x : Threads) : Asn G := exA fun (dx : Addr) => exA fun (p_goes_to : Addr) => exA fun (p_pile_of : Addr) => exA fun (p_piles : Addr) => exA fun (p_comes_from : Addr) => star [cell a (.ins (G.cl 8) dx [("goes_to", .ref p_goes_to), ("pile_of", .ref p_pile_of), ("piles", .ref p_piles), ("comes_from", .ref p_comes_from), ("made", (.int (x.made)))]), dictA p_goes_to (x.goes_to : (List (Str × Str))), dictA p_pile_of (x.pile_of : (List (Str × Int))), dictE lstA p_piles (x.piles : (List (Int × (List Str)))), dictE dictA p_comes_from (x.comes_from : (List (Str × (List (Str × Bool)))))]
theorem open_Threads {G : Gx} {H : Hp} {a : Addr} {x : Threads} {M : List (Asn G)} (h : Sep H (ThreadsA a x :: M)) : ∃ (dx : Addr) (p_goes_to : Addr) (p_pile_of : Addr) (p_piles : Addr) (p_comes_from : Addr), Sep H ([cell a (.ins (G.cl 8) dx [("goes_to", .ref p_goes_to), ("pile_of", .ref p_pile_of), ("piles", .ref p_piles), ("comes_from", .ref p_comes_from), ("made", (.int (x.made)))]), dictA p_goes_to (x.goes_to : (List (Str × Str))), dictA p_pile_of (x.pile_of : (List (Str × Int))), dictE lstA p_piles (x.piles : (List (Int × (List Str)))), dictE dictA p_comes_from (x.comes_from : (List (Str × (List (Str × Bool)))))] ++ M : List (Asn G)) := by
  unfold ThreadsA at h
  obtain ⟨dx, h⟩ := Sep.ex h
  obtain ⟨p_goes_to, h⟩ := Sep.ex h
  obtain ⟨p_pile_of, h⟩ := Sep.ex h
  obtain ⟨p_piles, h⟩ := Sep.ex h
  obtain ⟨p_comes_from, h⟩ := Sep.ex h
  exact ⟨dx, p_goes_to, p_pile_of, p_piles, p_comes_from, Sep.star1 h⟩
theorem ins_Threads {G : Gx} {H : Hp} {L : List (Asn G)} {i : Nat} {a : Addr} {x : Threads} (h : Sep H L) (e : L[i]? = some (ThreadsA a x)) : ∃ (dx : Addr) (p_goes_to : Addr) (p_pile_of : Addr) (p_piles : Addr) (p_comes_from : Addr), H a = some (.ins (G.cl 8) dx [("goes_to", .ref p_goes_to), ("pile_of", .ref p_pile_of), ("piles", .ref p_piles), ("comes_from", .ref p_comes_from), ("made", (.int (x.made)))]) := by
  obtain ⟨fp, dx, p_goes_to, p_pile_of, p_piles, p_comes_from, f1, f2, _, ⟨_, hO⟩, _⟩ := h.at e
  exact ⟨dx, p_goes_to, p_pile_of, p_piles, p_comes_from, hO⟩
theorem pack_Threads {G : Gx} {H : Hp} {a : Addr} {x : Threads} {M : List (Asn G)} {dx : Addr} {p_goes_to : Addr} {p_pile_of : Addr} {p_piles : Addr} {p_comes_from : Addr} (h : Sep H ([cell a (.ins (G.cl 8) dx [("goes_to", .ref p_goes_to), ("pile_of", .ref p_pile_of), ("piles", .ref p_piles), ("comes_from", .ref p_comes_from), ("made", (.int (x.made)))]), dictA p_goes_to (x.goes_to : (List (Str × Str))), dictA p_pile_of (x.pile_of : (List (Str × Int))), dictE lstA p_piles (x.piles : (List (Int × (List Str)))), dictE dictA p_comes_from (x.comes_from : (List (Str × (List (Str × Bool)))))] ++ M : List (Asn G))) : Sep H (ThreadsA a x :: M) := Sep.exI dx (Sep.exI p_goes_to (Sep.exI p_pile_of (Sep.exI p_piles (Sep.exI p_comes_from (Sep.unstar1 h)))))
structure Txt (G : Gx) (mg : Str → Option Value) where
  a_Index___init__ : Addr
  fd_Index___init__ : FuncData
  F_Index___init__ : Fun G.K "__init__" "Index.__init__" s_Index___init__ a_Index___init__ fd_Index___init__
  b_Index___init__ : Binds G.K fd_Index___init__ ["self"] []
  kp_Index___init__ : PySem.W.keepIn G.K (.ref a_Index___init__) = true
  k_Index : Mk G.K (G.cl 7) a_Index___init__
  a_Index_sure : Addr
  fd_Index_sure : FuncData
  F_Index_sure : Fun G.K "sure" "Index.sure" s_Index_sure a_Index_sure fd_Index_sure
  b_Index_sure : Binds G.K fd_Index_sure ["self", "name"] []
  kp_Index_sure : PySem.W.keepIn G.K (.ref a_Index_sure) = true
  m_Index_sure : Meth G.K (G.cl 7) "sure" a_Index_sure
  a_Index_add : Addr
  fd_Index_add : FuncData
  F_Index_add : Fun G.K "add" "Index.add" s_Index_add a_Index_add fd_Index_add
  b_Index_add : Binds G.K fd_Index_add ["self", "name", "words"] []
  kp_Index_add : PySem.W.keepIn G.K (.ref a_Index_add) = true
  m_Index_add : Meth G.K (G.cl 7) "add" a_Index_add
  a_Index_take_out : Addr
  fd_Index_take_out : FuncData
  F_Index_take_out : Fun G.K "take_out" "Index.take_out" s_Index_take_out a_Index_take_out fd_Index_take_out
  b_Index_take_out : Binds G.K fd_Index_take_out ["self", "name"] []
  kp_Index_take_out : PySem.W.keepIn G.K (.ref a_Index_take_out) = true
  m_Index_take_out : Meth G.K (G.cl 7) "take_out" a_Index_take_out
  a_Index_having : Addr
  fd_Index_having : FuncData
  F_Index_having : Fun G.K "having" "Index.having" s_Index_having a_Index_having fd_Index_having
  b_Index_having : Binds G.K fd_Index_having ["self", "word"] []
  kp_Index_having : PySem.W.keepIn G.K (.ref a_Index_having) = true
  m_Index_having : Meth G.K (G.cl 7) "having" a_Index_having
  a_Index_words : Addr
  fd_Index_words : FuncData
  F_Index_words : Fun G.K "words" "Index.words" s_Index_words a_Index_words fd_Index_words
  b_Index_words : Binds G.K fd_Index_words ["self", "name"] []
  kp_Index_words : PySem.W.keepIn G.K (.ref a_Index_words) = true
  m_Index_words : Meth G.K (G.cl 7) "words" a_Index_words
  a_Index_all_words : Addr
  fd_Index_all_words : FuncData
  F_Index_all_words : Fun G.K "all_words" "Index.all_words" s_Index_all_words a_Index_all_words fd_Index_all_words
  b_Index_all_words : Binds G.K fd_Index_all_words ["self"] []
  kp_Index_all_words : PySem.W.keepIn G.K (.ref a_Index_all_words) = true
  m_Index_all_words : Meth G.K (G.cl 7) "all_words" a_Index_all_words
  a_Threads___init__ : Addr
  fd_Threads___init__ : FuncData
  F_Threads___init__ : Fun G.K "__init__" "Threads.__init__" s_Threads___init__ a_Threads___init__ fd_Threads___init__
  b_Threads___init__ : Binds G.K fd_Threads___init__ ["self"] []
  kp_Threads___init__ : PySem.W.keepIn G.K (.ref a_Threads___init__) = true
  k_Threads : Mk G.K (G.cl 8) a_Threads___init__
  a_Threads_pile : Addr
  fd_Threads_pile : FuncData
  F_Threads_pile : Fun G.K "pile" "Threads.pile" s_Threads_pile a_Threads_pile fd_Threads_pile
  b_Threads_pile : Binds G.K fd_Threads_pile ["self", "name"] []
  kp_Threads_pile : PySem.W.keepIn G.K (.ref a_Threads_pile) = true
  m_Threads_pile : Meth G.K (G.cl 8) "pile" a_Threads_pile
  a_Threads_put_together : Addr
  fd_Threads_put_together : FuncData
  F_Threads_put_together : Fun G.K "put_together" "Threads.put_together" s_Threads_put_together a_Threads_put_together fd_Threads_put_together
  b_Threads_put_together : Binds G.K fd_Threads_put_together ["self", "one", "other"] []
  kp_Threads_put_together : PySem.W.keepIn G.K (.ref a_Threads_put_together) = true
  m_Threads_put_together : Meth G.K (G.cl 8) "put_together" a_Threads_put_together
  a_Threads_hang : Addr
  fd_Threads_hang : FuncData
  F_Threads_hang : Fun G.K "hang" "Threads.hang" s_Threads_hang a_Threads_hang fd_Threads_hang
  b_Threads_hang : Binds G.K fd_Threads_hang ["self", "name"] []
  kp_Threads_hang : PySem.W.keepIn G.K (.ref a_Threads_hang) = true
  m_Threads_hang : Meth G.K (G.cl 8) "hang" a_Threads_hang
  a_Threads_sure : Addr
  fd_Threads_sure : FuncData
  F_Threads_sure : Fun G.K "sure" "Threads.sure" s_Threads_sure a_Threads_sure fd_Threads_sure
  b_Threads_sure : Binds G.K fd_Threads_sure ["self", "name"] []
  kp_Threads_sure : PySem.W.keepIn G.K (.ref a_Threads_sure) = true
  m_Threads_sure : Meth G.K (G.cl 8) "sure" a_Threads_sure
  a_Threads_add : Addr
  fd_Threads_add : FuncData
  F_Threads_add : FunD G.K "add" "Threads.add" (defArgs s_Threads_add) (defBody s_Threads_add) (defScope s_Threads_add) [.str ("" : Str)] [] a_Threads_add fd_Threads_add
  b_Threads_add : Binds G.K fd_Threads_add ["self", "name", "answers"] []
  kp_Threads_add : PySem.W.keepIn G.K (.ref a_Threads_add) = true
  ds_Threads_add_2 : List Value
  bd_Threads_add_2 : Vals (([.str ("" : Str)] : List V).drop 0) ds_Threads_add_2 ∧ Binds G.K fd_Threads_add ["self", "name", "answers"] ds_Threads_add_2
  m_Threads_add : Meth G.K (G.cl 8) "add" a_Threads_add
  a_Threads_take_out : Addr
  fd_Threads_take_out : FuncData
  F_Threads_take_out : Fun G.K "take_out" "Threads.take_out" s_Threads_take_out a_Threads_take_out fd_Threads_take_out
  b_Threads_take_out : Binds G.K fd_Threads_take_out ["self", "name"] []
  kp_Threads_take_out : PySem.W.keepIn G.K (.ref a_Threads_take_out) = true
  m_Threads_take_out : Meth G.K (G.cl 8) "take_out" a_Threads_take_out
  a_Threads_names : Addr
  fd_Threads_names : FuncData
  F_Threads_names : Fun G.K "names" "Threads.names" s_Threads_names a_Threads_names fd_Threads_names
  b_Threads_names : Binds G.K fd_Threads_names ["self"] []
  kp_Threads_names : PySem.W.keepIn G.K (.ref a_Threads_names) = true
  m_Threads_names : Meth G.K (G.cl 8) "names" a_Threads_names
  a_Threads_thread : Addr
  fd_Threads_thread : FuncData
  F_Threads_thread : Fun G.K "thread" "Threads.thread" s_Threads_thread a_Threads_thread fd_Threads_thread
  b_Threads_thread : Binds G.K fd_Threads_thread ["self", "name"] []
  kp_Threads_thread : PySem.W.keepIn G.K (.ref a_Threads_thread) = true
  m_Threads_thread : Meth G.K (G.cl 8) "thread" a_Threads_thread
  a_Threads_threads : Addr
  fd_Threads_threads : FuncData
  F_Threads_threads : Fun G.K "threads" "Threads.threads" s_Threads_threads a_Threads_threads fd_Threads_threads
  b_Threads_threads : Binds G.K fd_Threads_threads ["self"] []
  kp_Threads_threads : PySem.W.keepIn G.K (.ref a_Threads_threads) = true
  m_Threads_threads : Meth G.K (G.cl 8) "threads" a_Threads_threads
  a_Threads_answers_to : Addr
  fd_Threads_answers_to : FuncData
  F_Threads_answers_to : Fun G.K "answers_to" "Threads.answers_to" s_Threads_answers_to a_Threads_answers_to fd_Threads_answers_to
  b_Threads_answers_to : Binds G.K fd_Threads_answers_to ["self", "name"] []
  kp_Threads_answers_to : PySem.W.keepIn G.K (.ref a_Threads_answers_to) = true
  m_Threads_answers_to : Meth G.K (G.cl 8) "answers_to" a_Threads_answers_to
  a_Threads_depth : Addr
  fd_Threads_depth : FuncData
  F_Threads_depth : Fun G.K "depth" "Threads.depth" s_Threads_depth a_Threads_depth fd_Threads_depth
  b_Threads_depth : Binds G.K fd_Threads_depth ["self", "name"] []
  kp_Threads_depth : PySem.W.keepIn G.K (.ref a_Threads_depth) = true
  m_Threads_depth : Meth G.K (G.cl 8) "depth" a_Threads_depth
  a_law_draws : Addr
  fd_law_draws : FuncData
  F_law_draws : Fun G.K "_law_draws" "_law_draws" s_law_draws a_law_draws fd_law_draws
  b_law_draws : Binds G.K fd_law_draws ["_law_script", "_law_many"] []
  kp_law_draws : PySem.W.keepIn G.K (.ref a_law_draws) = true
  g_law_draws : mg "_law_draws" = some (.ref a_law_draws)
  a_law_name_by : Addr
  fd_law_name_by : FuncData
  F_law_name_by : Fun G.K "_law_name_by" "_law_name_by" s_law_name_by a_law_name_by fd_law_name_by
  b_law_name_by : Binds G.K fd_law_name_by ["_law_shape", "_law_k"] []
  kp_law_name_by : PySem.W.keepIn G.K (.ref a_law_name_by) = true
  g_law_name_by : mg "_law_name_by" = some (.ref a_law_name_by)
  a_law_pool : Addr
  fd_law_pool : FuncData
  F_law_pool : Fun G.K "_law_pool" "_law_pool" s_law_pool a_law_pool fd_law_pool
  b_law_pool : Binds G.K fd_law_pool ["_law_draws_here"] []
  kp_law_pool : PySem.W.keepIn G.K (.ref a_law_pool) = true
  g_law_pool : mg "_law_pool" = some (.ref a_law_pool)
  a_law_called : Addr
  fd_law_called : FuncData
  F_law_called : Fun G.K "_law_called" "_law_called" s_law_called a_law_called fd_law_called
  b_law_called : Binds G.K fd_law_called ["_law_call", "_law_threads", "_law_index", "_law_name", "_law_bad"] []
  kp_law_called : PySem.W.keepIn G.K (.ref a_law_called) = true
  g_law_called : mg "_law_called" = some (.ref a_law_called)
  a_law_refused : Addr
  fd_law_refused : FuncData
  F_law_refused : Fun G.K "_law_refused" "_law_refused" s_law_refused a_law_refused fd_law_refused
  b_law_refused : Binds G.K fd_law_refused ["_law_call", "_law_threads", "_law_index", "_law_name"] []
  kp_law_refused : PySem.W.keepIn G.K (.ref a_law_refused) = true
  g_law_refused : mg "_law_refused" = some (.ref a_law_refused)
  a_law_due : Addr
  fd_law_due : FuncData
  F_law_due : Fun G.K "_law_due" "_law_due" s_law_due a_law_due fd_law_due
  b_law_due : Binds G.K fd_law_due ["_law_call", "_law_name"] []
  kp_law_due : PySem.W.keepIn G.K (.ref a_law_due) = true
  g_law_due : mg "_law_due" = some (.ref a_law_due)
  a_law_step : Addr
  fd_law_step : FuncData
  F_law_step : Fun G.K "_law_step" "_law_step" s_law_step a_law_step fd_law_step
  b_law_step : Binds G.K fd_law_step ["_law_call", "_law_threads", "_law_index", "_law_name", "_law_there"] []
  kp_law_step : PySem.W.keepIn G.K (.ref a_law_step) = true
  g_law_step : mg "_law_step" = some (.ref a_law_step)
  a_law : Addr
  fd_law : FuncData
  F_law : Fun G.K "law" "law" s_law a_law fd_law
  b_law : Binds G.K fd_law ["_law_script"] []
  kp_law : PySem.W.keepIn G.K (.ref a_law) = true
  g_law : mg "law" = some (.ref a_law)
  g_MailError : mg "MailError" = some (.ref (G.cl 0))
  ex_MailError : ∀ {i : Nat}, ([0, 1, 2, 3, 4, 5, 6] : List Nat).contains i = true → PySem.W.exmOne G.K (.ref (G.cl i)) (.ref (G.cl 0)) = some (([0, 1, 2, 3, 4, 5, 6] : List Nat).contains i)
  g_NoWord : mg "NoWord" = some (.ref (G.cl 1))
  g_NoLetter : mg "NoLetter" = some (.ref (G.cl 2))
  g_NoRule : mg "NoRule" = some (.ref (G.cl 3))
  g_NoName : mg "NoName" = some (.ref (G.cl 4))
  x_NoName : PySem.W.excIn G.K (G.cl 4) [.type "ValueError", .type "Exception", .type "BaseException", .type "object"] "ValueError.__new__" = true
  kp_NoName : PySem.W.keepIn G.K (.ref (G.cl 4)) = true
  r_NoName : ∀ {X : Cx}, X.K = G.K → Raises X (.ref (G.cl 4))
  g_NoParcel : mg "NoParcel" = some (.ref (G.cl 5))
  g_NoRow : mg "NoRow" = some (.ref (G.cl 6))
  g_Index : mg "Index" = some (.ref (G.cl 7))
  cl_Index : Cls G.K (G.cl 7)
  n_Index_rows_of : NoAttr G.K (G.cl 7) "rows_of"
  n_Index_holders : NoAttr G.K (G.cl 7) "holders"
  fz_Index : G.fz (G.cl 7) = none
  g_Threads : mg "Threads" = some (.ref (G.cl 8))
  cl_Threads : Cls G.K (G.cl 8)
  n_Threads_goes_to : NoAttr G.K (G.cl 8) "goes_to"
  n_Threads_pile_of : NoAttr G.K (G.cl 8) "pile_of"
  n_Threads_piles : NoAttr G.K (G.cl 8) "piles"
  n_Threads_comes_from : NoAttr G.K (G.cl 8) "comes_from"
  n_Threads_made : NoAttr G.K (G.cl 8) "made"
  fz_Threads : G.fz (G.cl 8) = none
  ec_ : ∀ {i : Nat}, ([0, 1, 2, 3, 4, 5, 6] : List Nat).contains i = true → ExcC G.K (G.cl i)
  ki_NoLetter : ∀ {i : Nat}, ([0, 1, 2, 3, 4, 5, 6] : List Nat).contains i = true → PySem.W.kitOne G.K (.ref (G.cl i)) (.ref (G.cl 2)) = some (([2] : List Nat).contains i)
  ki_NoName : ∀ {i : Nat}, ([0, 1, 2, 3, 4, 5, 6] : List Nat).contains i = true → PySem.W.kitOne G.K (.ref (G.cl i)) (.ref (G.cl 4)) = some (([4] : List Nat).contains i)
  ki_NoParcel : ∀ {i : Nat}, ([0, 1, 2, 3, 4, 5, 6] : List Nat).contains i = true → PySem.W.kitOne G.K (.ref (G.cl i)) (.ref (G.cl 5)) = some (([5] : List Nat).contains i)
  ki_NoRow : ∀ {i : Nat}, ([0, 1, 2, 3, 4, 5, 6] : List Nat).contains i = true → PySem.W.kitOne G.K (.ref (G.cl i)) (.ref (G.cl 6)) = some (([6] : List Nat).contains i)
  ki_NoRule : ∀ {i : Nat}, ([0, 1, 2, 3, 4, 5, 6] : List Nat).contains i = true → PySem.W.kitOne G.K (.ref (G.cl i)) (.ref (G.cl 3)) = some (([3] : List Nat).contains i)
  ki_NoWord : ∀ {i : Nat}, ([0, 1, 2, 3, 4, 5, 6] : List Nat).contains i = true → PySem.W.kitOne G.K (.ref (G.cl i)) (.ref (G.cl 1)) = some (([1] : List Nat).contains i)
  ki_ValueError : ∀ {i : Nat}, ([0, 1, 2, 3, 4, 5, 6] : List Nat).contains i = true → PySem.W.kitOne G.K (.ref (G.cl i)) (.type "ValueError") = some (([0, 1, 2, 3, 4, 5, 6] : List Nat).contains i)
  z_ValueError : mg "ValueError" = none
  z_bool : mg "bool" = none
  z_int : mg "int" = none
  z_isinstance : mg "isinstance" = none
  z_len : mg "len" = none
  z_list : mg "list" = none
  z_range : mg "range" = none
  z_set : mg "set" = none
  z_sorted : mg "sorted" = none
section
variable {P : Program} {w : World} {G : Gx} {mg : Str → Option Value} {base : Heap}
def sp_Index___init__ (G : Gx) : Sp := fun vs H Q E => ∃ (a_v_self d_v_self : Addr) (F : Asn G), vs = [.ref a_v_self] ∧ Sep H ([cell a_v_self (.ins (G.cl 7) d_v_self []), F] : List (Asn G)) ∧ R.wp (m_Index___init__ ) (fun r => ∀ H', Sep H' ([IndexA a_v_self r, F] : List (Asn G)) → Q .non H') (fun _ => False)
abbrev N_Index___init__ : List Str := ["self"]
theorem sc_Index___init__ : FnScope N_Index___init__ ["self"] (defScope s_Index___init__) := ⟨rfl, rfl, rfl, by decide +kernel, rfl, by decide +kernel, by decide +kernel⟩
theorem ok_Index___init__ (T : Txt G mg) : FnOk P w G.K mg base CX0 1 T.a_Index___init__ T.fd_Index___init__ ["self"] (sp_Index___init__ G) := by
  have nd := sc_Index___init__.nd
  refine Fun.ok T.F_Index___init__ sc_Index___init__ (fun vs H Q E h => ?_) (fun cdv A outer s H vs Q E hr h => ?_)
  · obtain ⟨a_v_self, d_v_self, F, rfl, _⟩ := h; rfl
  · obtain ⟨a_v_self, d_v_self, F, rfl, hS, hm⟩ := h
    refine ⟨_, (pss_cons (ps_fld (pv 0) pe_dnewK rfl)
      (pss_one (ps_fld (pv 0) pe_dnewK rfl))), ?_⟩
    unfold m_Index___init__ at hm
    refine f_seq ?_
    refine c_sfld ?_
    refine k_dnew (κ := Str) (β := (List Str)) hS fun p1 H hS => ?_
    refine ev_to (ev_var rfl) ?_
    refine k_sfld (fs' := [("rows_of", (.ref p1))]) hS (i := 1) rfl T.cl_Index T.n_Index_rows_of rfl (by show 0 < 1000; decide) (by show decide (G.fz (G.cl 7) = some 1) = false; rw [T.fz_Index]; rfl) rfl fun H hS => ?_
    have hS : Sep H ([dictA p1 (([] : (List (Str × (List Str)))) : (List (Str × (List Str)))), cell a_v_self (.ins (G.cl 7) d_v_self [("rows_of", (.ref p1))]), F] : List (Asn G)) := hS
    refine sq_nx ?_
    refine c_sfld ?_
    refine k_dnewE (κ := Str) (β := (List (Str × Bool))) (E := dictA) hS fun p2 H hS => ?_
    refine ev_to (ev_var rfl) ?_
    refine k_sfld (fs' := [("rows_of", (.ref p1)), ("holders", (.ref p2))]) hS (i := 2) rfl T.cl_Index T.n_Index_holders rfl (by show 1 < 1000; decide) (by show decide (G.fz (G.cl 7) = some 2) = false; rw [T.fz_Index]; rfl) rfl fun H hS => ?_
    have hS : Sep H ([dictE dictA p2 (([] : (List (Str × (List (Str × Bool))))) : (List (Str × (List (Str × Bool))))), dictA p1 (([] : (List (Str × (List Str)))) : (List (Str × (List Str)))), cell a_v_self (.ins (G.cl 7) d_v_self [("rows_of", (.ref p1)), ("holders", (.ref p2))]), F] : List (Asn G)) := hS
    have hS : Sep H (IndexA a_v_self (⟨([] : (List (Str × (List Str)))), ([] : (List (Str × (List (Str × Bool)))))⟩ : Index) :: [F] : List (Asn G)) := pack_Index (hS.sel [2, 1, 0, 3] (by decide) rfl)
    exact hm _ (hS.sel [0, 1] (by decide) rfl)
def sp_Index_sure (G : Gx) : Sp := fun vs H Q E => ∃ (a_v_self : Addr) (v_self : Index) (v_name : Str) (F : Asn G), vs = [.ref a_v_self, (.str (v_name))] ∧ Sep H ([IndexA a_v_self v_self, F] : List (Asn G)) ∧ R.wp (m_Index_sure v_self v_name) (fun r => ∀ H', Sep H' ([IndexA a_v_self v_self, F] : List (Asn G)) → Q .non H') (fun x => ∀ H', Sep H' ([IndexA a_v_self v_self, F] : List (Asn G)) → Eok G x E H')
abbrev N_Index_sure : List Str := ["self", "name"]
theorem sc_Index_sure : FnScope N_Index_sure ["self", "name"] (defScope s_Index_sure) := ⟨rfl, rfl, rfl, by decide +kernel, rfl, by decide +kernel, by decide +kernel⟩
theorem ok_Index_sure (T : Txt G mg) : FnOk P w G.K mg base (L2.CX P w) 1 T.a_Index_sure T.fd_Index_sure ["self", "name"] (sp_Index_sure G) := by
  have nd := sc_Index_sure.nd
  refine Fun.okX T.F_Index_sure sc_Index_sure (fun vs H Q E h => ?_) (fun cdv A outer s H vs Q E hr h => ?_)
  · obtain ⟨a_v_self, v_self, v_name, F, rfl, _⟩ := h; rfl
  · obtain ⟨a_v_self, v_self, v_name, F, rfl, hS, hm⟩ := h
    refine ⟨_, (pss_one (ps_if (pt_cmp (pc_dnotin (hu_of hr) (pv 1) (pe_fld (pv 0) rfl))) (pss_one (ps_raise rfl (takes_of rfl rfl rfl rfl) (SkE.pmk_own1 PySem.F.excBase_ValueError T.x_NoName T.g_NoName T.kp_NoName (T.r_NoName rfl) rfl (pe_joined (.cons (pe_fmt (pv 1)) (.cons pe_str .nil)))))) pss_nil)), ?_⟩
    unfold m_Index_sure at hm
    have hS : Sep H (IndexA a_v_self v_self :: [F] : List (Asn G)) := hS.sel [0, 1] (by decide) rfl
    obtain ⟨dx1, p2, p3, hS⟩ := open_Index hS
    have hS : Sep H ([cell a_v_self (.ins (G.cl 7) dx1 [("rows_of", (.ref p2)), ("holders", (.ref p3))]), dictA p2 (v_self.rows_of : (List (Str × (List Str)))), dictE dictA p3 (v_self.holders : (List (Str × (List (Str × Bool))))), F] : List (Asn G)) := hS
    refine f_if ?_
    refine et_to (et_B (ev_dnotin hS (i := 1) (k := v_name) rfl (ev_var rfl) (ev_fld (ev_var rfl) (hS.getCell (i := 0) rfl) T.cl_Index T.n_Index_rows_of rfl))) ?_
    refine ifK_2 (fun hb4 => ?_) (fun hb4 => ?_)
    · have hm := R.wp_ifY hm hb4
      obtain ⟨h5, hm⟩ := R.wp_need hm
      obtain ⟨h6, hm⟩ := R.wp_need hm
      refine f_fs (ev_var rfl) h5 h6 ?_
      revert hm; refine R.need_rev fun h7 hm => ?_
      refine f_fc ev_c h7 ?_
      refine f_je ?_
      have hS : Sep H (IndexA a_v_self v_self :: [F] : List (Asn G)) := pack_Index (hS.sel [0, 1, 2, 3] (by decide) rfl)
      exact hm _ (hS.sel [0, 1] (by decide) rfl)
    · have hm := R.wp_ifN hm (by first | (rw [hb4]; decide) | simpa using hb4)
      refine st_nx ?_
      have hS : Sep H (IndexA a_v_self v_self :: [F] : List (Asn G)) := pack_Index (hS.sel [0, 1, 2, 3] (by decide) rfl)
      exact hm _ (hS.sel [0, 1] (by decide) rfl)
def sp_Index_sure_A (G : Gx) : Sp := fun vs H Q E => ∃ (a_v_self : Addr) (v_self : Index) (a_v_name : V) (v_name : Any) (F : Asn G), vs = [.ref a_v_self, a_v_name] ∧ Im.im G H a_v_name v_name ∧ Sep H ([IndexA a_v_self v_self, F] : List (Asn G)) ∧ R.wp (m_Index_sure_A v_self v_name) (fun r => ∀ H', Sep H' ([IndexA a_v_self v_self, F] : List (Asn G)) → Q .non H') (fun x => ∀ H', Sep H' ([IndexA a_v_self v_self, F] : List (Asn G)) → Eok G x E H')
abbrev N_Index_sure_A : List Str := ["self", "name"]
theorem sc_Index_sure_A : FnScope N_Index_sure_A ["self", "name"] (defScope s_Index_sure) := ⟨rfl, rfl, rfl, by decide +kernel, rfl, by decide +kernel, by decide +kernel⟩
theorem ok_Index_sure_A (T : Txt G mg) : FnOk P w G.K mg base (L2.CX P w) 1 T.a_Index_sure T.fd_Index_sure ["self", "name"] (sp_Index_sure_A G) := by
  have nd := sc_Index_sure_A.nd
  refine Fun.okX T.F_Index_sure sc_Index_sure_A (fun vs H Q E h => ?_) (fun cdv A outer s H vs Q E hr h => ?_)
  · obtain ⟨a_v_self, v_self, a_v_name, v_name, F, rfl, _⟩ := h; rfl
  · obtain ⟨a_v_self, v_self, a_v_name, v_name, F, rfl, him_v_name, hS, hm⟩ := h
    have hS := hS.addIm him_v_name
    refine ⟨_, (pss_one (ps_if (pt_cmp (pc_dnotinN (hu_of hr) (pv 1) (pe_fld (pv 0) rfl))) (pss_one (ps_raise rfl (takes_of rfl rfl rfl rfl) (SkE.pmk_own1 PySem.F.excBase_ValueError T.x_NoName T.g_NoName T.kp_NoName (T.r_NoName rfl) rfl (pe_joined (.cons (pe_fmtN (pv 1)) (.cons pe_str .nil)))))) pss_nil)), ?_⟩
    unfold m_Index_sure_A at hm
    have hS : Sep H (IndexA a_v_self v_self :: [imA a_v_name (v_name : Any), F] : List (Asn G)) := hS.sel [1, 0, 2] (by decide) rfl
    obtain ⟨dx1, p2, p3, hS⟩ := open_Index hS
    have hS : Sep H ([cell a_v_self (.ins (G.cl 7) dx1 [("rows_of", (.ref p2)), ("holders", (.ref p3))]), dictA p2 (v_self.rows_of : (List (Str × (List Str)))), dictE dictA p3 (v_self.holders : (List (Str × (List (Str × Bool))))), imA a_v_name (v_name : Any), F] : List (Asn G)) := hS
    refine f_if ?_
    obtain ⟨b4, hb4, hm⟩ := wp_hasA hm
    refine et_to (et_B (ev_dniN hS (i := 1) rfl (hS.im (i := 3) rfl) hb4 (ev_var rfl) (ev_fld (ev_var rfl) (hS.getCell (i := 0) rfl) T.cl_Index T.n_Index_rows_of rfl))) ?_
    refine ifK_2 (fun hb5 => ?_) (fun hb5 => ?_)
    · have hm := R.wp_ifY hm hb5
      obtain ⟨tx6, htx6, hm⟩ := wp_fmtA hm
      obtain ⟨h7, hm⟩ := R.wp_need hm
      refine f_fa (ev_var rfl) (hS.im (i := 3) rfl) htx6 h7 ?_
      revert hm; refine R.need_rev fun h8 hm => ?_
      refine f_fc ev_c h8 ?_
      refine f_je ?_
      have hS : Sep H (IndexA a_v_self v_self :: [imA a_v_name (v_name : Any), F] : List (Asn G)) := pack_Index (hS.sel [0, 1, 2, 3, 4] (by decide) rfl)
      exact hm _ (hS.sel [0, 2] (by decide) rfl)
    · have hm := R.wp_ifN hm (by first | (rw [hb5]; decide) | simpa using hb5)
      refine st_nx ?_
      have hS : Sep H (IndexA a_v_self v_self :: [imA a_v_name (v_name : Any), F] : List (Asn G)) := pack_Index (hS.sel [0, 1, 2, 3, 4] (by decide) rfl)
      exact hm _ (hS.sel [0, 2] (by decide) rfl)
def sp_Index_add (G : Gx) : Sp := fun vs H Q E => ∃ (a_v_self : Addr) (v_self : Index) (v_name : Str) (a_v_words : Addr) (v_words : (List Str)) (F : Asn G), vs = [.ref a_v_self, (.str (v_name)), .ref a_v_words] ∧ Sep H ([IndexA a_v_self v_self, lstA a_v_words (v_words : (List Str)), F] : List (Asn G)) ∧ R.wp (m_Index_add v_self v_name v_words) (fun r => ∀ H', Sep H' ([IndexA a_v_self r, lstA a_v_words (v_words : (List Str)), F] : List (Asn G)) → Q .non H') (fun x => ∀ H', Sep H' ([IndexA a_v_self v_self, lstA a_v_words (v_words : (List Str)), F] : List (Asn G)) → Eok G x E H')
abbrev N_Index_add : List Str := ["self", "name", "words", "word"]
theorem sc_Index_add : FnScope N_Index_add ["self", "name", "words"] (defScope s_Index_add) := ⟨rfl, rfl, rfl, by decide +kernel, rfl, by decide +kernel, by decide +kernel⟩
theorem ok_Index_add (T : Txt G mg) : FnOk P w G.K mg base (L2.CX P w) 1 T.a_Index_add T.fd_Index_add ["self", "name", "words"] (sp_Index_add G) := by
  have nd := sc_Index_add.nd
  refine Fun.okX T.F_Index_add sc_Index_add (fun vs H Q E h => ?_) (fun cdv A outer s H vs Q E hr h => ?_)
  · obtain ⟨a_v_self, v_self, v_name, a_v_words, v_words, F, rfl, _⟩ := h; rfl
  · obtain ⟨a_v_self, v_self, v_name, a_v_words, v_words, F, rfl, hS, hm⟩ := h
    refine ⟨_, (pss_cons (ps_if (pt_cmp (pc_din (hu_of hr) (pv 1) (pe_fld (pv 0) rfl))) (pss_one (ps_raise rfl (takes_of rfl rfl rfl rfl) (SkE.pmk_own1 PySem.F.excBase_ValueError T.x_NoName T.g_NoName T.kp_NoName (T.r_NoName rfl) rfl (pe_joined (.cons (pe_fmt (pv 1)) (.cons pe_str .nil)))))) pss_nil)
      (pss_cons (ps_asg (pe_fz (pe_sortSetK G.K rfl (by rfl) T.z_sorted (by rfl) T.z_set (pe_fz (pv 2)))) (pg_sub (pe_fld (pv 0) rfl) (pv 1) (set_dict (hu_of hr))))
      (pss_one (ps_for (passes_of rfl) rfl (pi_listK G.K (pe_dget (hu_of hr) (pe_fld (pv 0) rfl) (pv 1) (fun _ _ => rfl))) (pg_name (i := 3) nd rfl (Or.inl rfl)) (pss_one (ps_asg pe_bl (pg_sub (pe_dsetd (pe_fld (pv 0) rfl) (pv 3) pe_dnewK m2) (pv 1) (set_dict (hu_of hr))))))))), ?_⟩
    unfold m_Index_add at hm
    have hS : Sep H (IndexA a_v_self v_self :: [lstA a_v_words (v_words : (List Str)), F] : List (Asn G)) := hS.sel [0, 1, 2] (by decide) rfl
    obtain ⟨dx1, p2, p3, hS⟩ := open_Index hS
    have hS : Sep H ([cell a_v_self (.ins (G.cl 7) dx1 [("rows_of", (.ref p2)), ("holders", (.ref p3))]), dictA p2 (v_self.rows_of : (List (Str × (List Str)))), dictE dictA p3 (v_self.holders : (List (Str × (List (Str × Bool))))), lstA a_v_words (v_words : (List Str)), F] : List (Asn G)) := hS
    refine f_seq ?_
    refine f_if ?_
    refine et_to (et_B (ev_din hS (i := 1) (k := v_name) rfl (ev_var rfl) (ev_fld (ev_var rfl) (hS.getCell (i := 0) rfl) T.cl_Index T.n_Index_rows_of rfl))) ?_
    refine ifK_2 (fun hb4 => ?_) (fun hb4 => ?_)
    · have hm := R.wp_ifY hm hb4
      obtain ⟨h5, hm⟩ := R.wp_need hm
      obtain ⟨h6, hm⟩ := R.wp_need hm
      refine f_fs (ev_var rfl) h5 h6 ?_
      revert hm; refine R.need_rev fun h7 hm => ?_
      refine f_fc ev_c h7 ?_
      refine f_je ?_
      have hS : Sep H (IndexA a_v_self v_self :: [lstA a_v_words (v_words : (List Str)), F] : List (Asn G)) := pack_Index (hS.sel [0, 1, 2, 3, 4] (by decide) rfl)
      exact hm _ (hS.sel [0, 1, 2] (by decide) rfl)
    · have hm := R.wp_ifN hm (by first | (rw [hb4]; decide) | simpa using hb4)
      refine st_nx ?_
      refine sq_nx ?_
      refine f_seq ?_
      refine c_asgS ?_
      refine c_fz ?_
      refine c_sortSet ?_
      refine ev_to (ev_fz (ev_var rfl)) ?_
      obtain ⟨h9, hm⟩ := R.wp_need hm
      refine k_sortSet hS (.inl (hS.sqF (i := 3) rfl)) h9 fun p8 H hS => ?_
      refine fz_yes (xs := (ssetT v_words : (List Str))) hS (i := 0) rfl fun H hS => ?_
      have hS : Sep H ([imA (.ref p8) (ssetT v_words : (List Str)), cell a_v_self (.ins (G.cl 7) dx1 [("rows_of", (.ref p2)), ("holders", (.ref p3))]), dictA p2 (v_self.rows_of : (List (Str × (List Str)))), dictE dictA p3 (v_self.holders : (List (Str × (List (Str × Bool))))), lstA a_v_words (v_words : (List Str)), F] : List (Asn G)) := hS
      refine ev_to (ev_fld (ev_var rfl) (hS.getCell (i := 1) rfl) T.cl_Index T.n_Index_rows_of rfl) ?_
      refine ev_to (ev_var rfl) ?_
      obtain ⟨h11, hm⟩ := R.wp_need hm
      refine k_setD (k := v_name) (y := ssetT v_words) hS (i := 2) rfl (hS.im (i := 0) rfl) h11 rfl fun H hS => ?_
      have hS : Sep H ([imA (.ref p8) (ssetT v_words : (List Str)), cell a_v_self (.ins (G.cl 7) dx1 [("rows_of", (.ref p2)), ("holders", (.ref p3))]), dictA p2 (dput v_self.rows_of v_name (ssetT v_words) : (List (Str × (List Str)))), dictE dictA p3 (v_self.holders : (List (Str × (List (Str × Bool))))), lstA a_v_words (v_words : (List Str)), F] : List (Asn G)) := hS
      refine sq_nx ?_
      refine c_for ?_
      refine c_il ?_
      obtain ⟨y12, hy12, hm⟩ := wp_dget hm
      obtain ⟨v13, g14, hv15⟩ := dget_some hS (i := 2) rfl hy12
      obtain ⟨a16, rfl⟩ := isref hv15
      refine ev_to (ev_dget (y := y12) hS (i := 2) rfl (ev_fld (ev_var rfl) (hS.getCell (i := 1) rfl) T.cl_Index T.n_Index_rows_of rfl) (ev_var rfl) g14) ?_
      have hS := hS.addIm (v := (.ref a16)) (x := (y12 : (List Str))) hv15
      refine k_ilG (imPl (hS.im (i := 0) rfl)) ?_
      refine k_for (τ := (List (Str × (List (Str × Bool))))) (fun (s18 : (List (Str × (List (Str × Bool))))) (σ : L2.St) (H : Hp) => ∃ (w21 : Option V), σ = [some (.ref a_v_self), some (.str (v_name)), some (.ref a_v_words), w21] ∧ Sep H ([imA (.ref a16) (y12 : (List Str)), imA (.ref p8) (ssetT v_words : (List Str)), cell a_v_self (.ins (G.cl 7) dx1 [("rows_of", (.ref p2)), ("holders", (.ref p3))]), dictA p2 (dput v_self.rows_of v_name (ssetT v_words) : (List (Str × (List Str)))), dictE dictA p3 (s18 : (List (Str × (List (Str × Bool))))), lstA a_v_words (v_words : (List Str)), F] : List (Asn G))) (im := (Im.im G)) (s := (v_self.holders)) (fun _ => wk_list fun _ _ ⟨_, _, h⟩ => imPl (h.im (i := 0) rfl)) ⟨_, rfl, hS.sel [0, 1, 2, 3, 4, 5, 6] (by decide) rfl⟩ hm (fun s18 x19 v20 σ H q N hI hx hm nx => ?_) (fun s18 σ H hm hI => ?_)
      ·
        obtain ⟨w21, rfl, hS⟩ := hI
        cases hx
        refine c_gN (σ' := [some (.ref a_v_self), some (.str (v_name)), some (.ref a_v_words), some (.str (x19))]) rfl ?_
        refine c_asgS ?_
        refine ev_to ev_c ?_
        refine c_dsetd ?_
        refine ev_to (ev_fld (ev_var rfl) (hS.getCell (i := 2) rfl) T.cl_Index T.n_Index_holders rfl) ?_
        refine k_setda (isD_Ei hS (i := 4) rfl) ?_
        refine ev_to (ev_var rfl) ?_
        refine k_setdb ?_
        refine k_dnew (κ := Str) (β := Bool) hS fun p22 H hS => ?_
        obtain ⟨h24, hm⟩ := R.wp_need hm
        refine k_setdE3 (k := x19) (hS.sel [5, 0, 1, 2, 3, 4, 6, 7] (by decide) rfl : Sep _ (dictE dictA p3 (s18 : (List (Str × (List (Str × Bool))))) :: dictA p22 (([] : (List (Str × Bool))) : (List (Str × Bool))) :: [imA (.ref a16) (y12 : (List Str)), imA (.ref p8) (ssetT v_words : (List Str)), cell a_v_self (.ins (G.cl 7) dx1 [("rows_of", (.ref p2)), ("holders", (.ref p3))]), dictA p2 (dput v_self.rows_of v_name (ssetT v_words) : (List (Str × (List Str)))), lstA a_v_words (v_words : (List Str)), F] : List (Asn G))) h24 fun ps25 p26 j27 H hl28 hj29 hp30 hS => ?_
        have hS : Sep H ([dictA p26 ((dget s18 x19).getD ([] : (List (Str × Bool))) : (List (Str × Bool))), dictXH id dictA p3 ps25 (setE s18 x19 ([] : (List (Str × Bool))) : (List (Str × (List (Str × Bool))))) j27, imA (.ref a16) (y12 : (List Str)), imA (.ref p8) (ssetT v_words : (List Str)), cell a_v_self (.ins (G.cl 7) dx1 [("rows_of", (.ref p2)), ("holders", (.ref p3))]), dictA p2 (dput v_self.rows_of v_name (ssetT v_words) : (List (Str × (List Str)))), lstA a_v_words (v_words : (List Str)), F] : List (Asn G)) := hS
        refine ev_to (ev_var rfl) ?_
        obtain ⟨h31, hm⟩ := R.wp_need hm
        refine k_setD (k := v_name) (y := true) hS (i := 0) rfl rfl h31 rfl fun H hS => ?_
        have hS : Sep H ([dictA p26 (dput ((dget s18 x19).getD ([] : (List (Str × Bool)))) v_name true : (List (Str × Bool))), dictXH id dictA p3 ps25 (setE s18 x19 ([] : (List (Str × Bool))) : (List (Str × (List (Str × Bool))))) j27, imA (.ref a16) (y12 : (List Str)), imA (.ref p8) (ssetT v_words : (List Str)), cell a_v_self (.ins (G.cl 7) dx1 [("rows_of", (.ref p2)), ("holders", (.ref p3))]), dictA p2 (dput v_self.rows_of v_name (ssetT v_words) : (List (Str × (List Str)))), lstA a_v_words (v_words : (List Str)), F] : List (Asn G)) := hS
        have hS : Sep H ([dictE dictA p3 (dput (setE s18 x19 ([] : (List (Str × Bool)))) x19 (dput ((dget s18 x19).getD ([] : (List (Str × Bool)))) v_name true) : (List (Str × (List (Str × Bool))))), imA (.ref a16) (y12 : (List Str)), imA (.ref p8) (ssetT v_words : (List Str)), cell a_v_self (.ins (G.cl 7) dx1 [("rows_of", (.ref p2)), ("holders", (.ref p3))]), dictA p2 (dput v_self.rows_of v_name (ssetT v_words) : (List (Str × (List Str)))), lstA a_v_words (v_words : (List Str)), F] : List (Asn G)) := unfocDE (z := (dput ((dget s18 x19).getD ([] : (List (Str × Bool)))) v_name true : (List (Str × Bool)))) hl28 hj29 hp30 (hS.sel [0, 1, 2, 3, 4, 5, 6, 7] (by decide) rfl)
        exact nx _ _ _ hm ⟨_, rfl, hS.sel [1, 2, 3, 4, 0, 5, 6] (by decide) rfl⟩
      · obtain ⟨w21, rfl, hS⟩ := hI
        have hS : Sep H (IndexA a_v_self (⟨dput v_self.rows_of v_name (ssetT v_words), s18⟩ : Index) :: [imA (.ref a16) (y12 : (List Str)), imA (.ref p8) (ssetT v_words : (List Str)), lstA a_v_words (v_words : (List Str)), F] : List (Asn G)) := pack_Index (hS.sel [2, 3, 4, 0, 1, 5, 6] (by decide) rfl)
        exact hm _ (hS.sel [0, 3, 4] (by decide) rfl)
def sp_Index_take_out (G : Gx) : Sp := fun vs H Q E => ∃ (a_v_self : Addr) (v_self : Index) (v_name : Str) (F : Asn G), vs = [.ref a_v_self, (.str (v_name))] ∧ Sep H ([IndexA a_v_self v_self, F] : List (Asn G)) ∧ R.wp (m_Index_take_out v_self v_name) (fun r => ∀ H', Sep H' ([IndexA a_v_self r, F] : List (Asn G)) → Q .non H') (fun x => ∀ H', Sep H' ([IndexA a_v_self v_self, F] : List (Asn G)) → Eok G x E H')
abbrev N_Index_take_out : List Str := ["self", "name", "word"]
theorem sc_Index_take_out : FnScope N_Index_take_out ["self", "name"] (defScope s_Index_take_out) := ⟨rfl, rfl, rfl, by decide +kernel, rfl, by decide +kernel, by decide +kernel⟩
theorem ok_Index_take_out (T : Txt G mg) : FnOk P w G.K mg base (L2.CX P w) 2 T.a_Index_take_out T.fd_Index_take_out ["self", "name"] (sp_Index_take_out G) := by
  have nd := sc_Index_take_out.nd
  refine Fun.okX T.F_Index_take_out sc_Index_take_out (fun vs H Q E h => ?_) (fun cdv A outer s H vs Q E hr h => ?_)
  · obtain ⟨a_v_self, v_self, v_name, F, rfl, _⟩ := h; rfl
  · obtain ⟨a_v_self, v_self, v_name, F, rfl, hS, hm⟩ := h
    refine ⟨_, (pss_cons (ps_expr (pe_meth (pv 0) T.cl_Index T.m_Index_sure (ok_Index_sure T) (hr.mono (by decide)) T.b_Index_sure .nil (passes_call (takes_of rfl rfl rfl rfl) (fun _ _ _ _ h => h)) (pa_cons (pv 1) pa_nil)))
      (pss_one (ps_for (passes_of rfl) rfl (pi_listK G.K (pe_dpop1 (pe_fld (pv 0) rfl) (pv 1) m1)) (pg_name (i := 2) nd rfl (Or.inl rfl)) (pss_cons (ps_expr (pe_dpop1 (pe_dget (hu_of hr) (pe_fld (pv 0) rfl) (pv 2) (fun _ _ => rfl)) (pv 1) m1))
      (pss_one (ps_if (pt_cmpR op_eq (pe_callB call_lenD (by rfl) T.z_len PySem.boot_len (pa_cons (pe_dget (hu_of hr) (pe_fld (pv 0) rfl) (pv 2) (fun _ _ => rfl)) pa_nil)) pe_int (nomark _)) (pss_one (ps_expr (pe_dpop1 (pe_fld (pv 0) rfl) (pv 2) m1))) pss_nil)))))), ?_⟩
    unfold m_Index_take_out at hm
    have hS : Sep H (IndexA a_v_self v_self :: [F] : List (Asn G)) := hS.sel [0, 1] (by decide) rfl
    obtain ⟨dx1, p2, p3, hS⟩ := open_Index hS
    have hS : Sep H ([cell a_v_self (.ins (G.cl 7) dx1 [("rows_of", (.ref p2)), ("holders", (.ref p3))]), dictA p2 (v_self.rows_of : (List (Str × (List Str)))), dictE dictA p3 (v_self.holders : (List (Str × (List (Str × Bool))))), F] : List (Asn G)) := hS
    refine f_seq ?_
    refine c_drop ?_
    refine c_meth ?_
    refine ev_to (ev_var rfl) ?_
    refine ⟨_, _, _, rfl, (hS.getCell (i := 0) rfl), rfl, ?_⟩
    refine ea_to (ea_cons (ev_var rfl) ea_nil) ?_
    have hS : Sep H (IndexA a_v_self v_self :: [F] : List (Asn G)) := pack_Index (hS.sel [0, 1, 2, 3] (by decide) rfl)
    refine ⟨a_v_self, (v_self : Index), v_name, star [F], rfl, Sep.unstar (M := [IndexA a_v_self v_self]) (hS.sel [0, 1] (by decide) rfl : Sep H (([IndexA a_v_self v_self] ++ [F] : List (Asn G)))), R.wp_mono (R.wp_bind hm) (fun r4 hm H hS => ?_) (fun x hx H hS => ?_)⟩
    ·
      have hS : Sep H ([IndexA a_v_self v_self, F] : List (Asn G)) := Sep.star (M := [IndexA a_v_self v_self]) hS
      have hS : Sep H (IndexA a_v_self v_self :: [F] : List (Asn G)) := hS.sel [0, 1] (by decide) rfl
      obtain ⟨dx5, p6, p7, hS⟩ := open_Index hS
      have hS : Sep H ([cell a_v_self (.ins (G.cl 7) dx5 [("rows_of", (.ref p6)), ("holders", (.ref p7))]), dictA p6 (v_self.rows_of : (List (Str × (List Str)))), dictE dictA p7 (v_self.holders : (List (Str × (List (Str × Bool))))), F] : List (Asn G)) := hS
      refine sq_nx ?_
      refine c_for ?_
      refine c_il ?_
      refine c_dpop1 ?_
      refine ev_to (ev_fld (ev_var rfl) (hS.getCell (i := 0) rfl) T.cl_Index T.n_Index_rows_of rfl) ?_
      refine k_pop1a (isD_of hS (i := 1) rfl) ?_
      refine ev_to (ev_var rfl) ?_
      obtain ⟨y8, hy8, hm⟩ := wp_dgetX hm
      refine k_pop1A (k := v_name) hS (i := 1) rfl hy8 rfl fun v9 H hS => ?_
      obtain ⟨a11, rfl⟩ := isref (hS.im (i := 0) rfl)
      have hS : Sep H ([imA (.ref a11) (y8 : (List Str)), cell a_v_self (.ins (G.cl 7) dx5 [("rows_of", (.ref p6)), ("holders", (.ref p7))]), dictA p6 (ddrop v_self.rows_of v_name : (List (Str × (List Str)))), dictE dictA p7 (v_self.holders : (List (Str × (List (Str × Bool))))), F] : List (Asn G)) := hS
      refine k_ilG (imPl (hS.im (i := 0) rfl)) ?_
      refine k_for (τ := (List (Str × (List Str))) × (List (Str × (List (Str × Bool))))) (fun (s12 : (List (Str × (List Str))) × (List (Str × (List (Str × Bool))))) (σ : L2.St) (H : Hp) => ∃ (w15 : Option V), σ = [some (.ref a_v_self), some (.str (v_name)), w15] ∧ Sep H ([imA (.ref a11) (y8 : (List Str)), cell a_v_self (.ins (G.cl 7) dx5 [("rows_of", (.ref p6)), ("holders", (.ref p7))]), dictA p6 (s12.1 : (List (Str × (List Str)))), dictE dictA p7 (s12.2 : (List (Str × (List (Str × Bool))))), F] : List (Asn G))) (im := (Im.im G)) (s := (ddrop v_self.rows_of v_name, v_self.holders)) (fun _ => wk_list fun _ _ ⟨_, _, h⟩ => imPl (h.im (i := 0) rfl)) ⟨_, rfl, hS.sel [0, 1, 2, 3, 4] (by decide) rfl⟩ hm (fun s12 x13 v14 σ H q N hI hx hm nx => ?_) (fun s12 σ H hm hI => ?_)
      ·
        obtain ⟨w15, rfl, hS⟩ := hI
        cases hx
        refine c_gN (σ' := [some (.ref a_v_self), some (.str (v_name)), some (.str (x13))]) rfl ?_
        refine f_seq ?_
        refine c_drop ?_
        refine c_dpop1 ?_
        refine c_dget ?_
        refine ev_to (ev_fld (ev_var rfl) (hS.getCell (i := 1) rfl) T.cl_Index T.n_Index_holders rfl) ?_
        refine k_dget1 ?_
        refine ev_to (ev_var rfl) ?_
        obtain ⟨x16, h17, hm⟩ := wp_dgetX hm
        refine k_dgetE (y := (x16 : (List (Str × Bool)))) (hS.sel [3, 0, 1, 2, 4] (by decide) rfl : Sep _ (dictE dictA p7 (s12.2 : (List (Str × (List (Str × Bool))))) :: [imA (.ref a11) (y8 : (List Str)), cell a_v_self (.ins (G.cl 7) dx5 [("rows_of", (.ref p6)), ("holders", (.ref p7))]), dictA p6 (s12.1 : (List (Str × (List Str)))), F] : List (Asn G))) h17 fun ps18 p19 j20 hl21 hj22 hp23 hS => ?_
        have hS : Sep H ([dictA p19 (x16 : (List (Str × Bool))), dictXH id dictA p7 ps18 (s12.2 : (List (Str × (List (Str × Bool))))) j20, imA (.ref a11) (y8 : (List Str)), cell a_v_self (.ins (G.cl 7) dx5 [("rows_of", (.ref p6)), ("holders", (.ref p7))]), dictA p6 (s12.1 : (List (Str × (List Str)))), F] : List (Asn G)) := hS
        refine k_pop1a (isD_of hS (i := 0) rfl) ?_
        refine ev_to (ev_var rfl) ?_
        obtain ⟨y24, hy24, hm⟩ := wp_dgetX hm
        refine k_pop1A (k := v_name) hS (i := 0) rfl hy24 rfl fun v25 H hS => ?_
        obtain rfl : v25 = (.bl (y24)) := hS.im (i := 0) rfl
        have hS := hS.tail
        have hS : Sep H ([dictA p19 (ddrop x16 v_name : (List (Str × Bool))), dictXH id dictA p7 ps18 (s12.2 : (List (Str × (List (Str × Bool))))) j20, imA (.ref a11) (y8 : (List Str)), cell a_v_self (.ins (G.cl 7) dx5 [("rows_of", (.ref p6)), ("holders", (.ref p7))]), dictA p6 (s12.1 : (List (Str × (List Str)))), F] : List (Asn G)) := hS
        have hS : Sep H ([dictE dictA p7 (dput s12.2 x13 (ddrop x16 v_name) : (List (Str × (List (Str × Bool))))), imA (.ref a11) (y8 : (List Str)), cell a_v_self (.ins (G.cl 7) dx5 [("rows_of", (.ref p6)), ("holders", (.ref p7))]), dictA p6 (s12.1 : (List (Str × (List Str)))), F] : List (Asn G)) := unfocDE (z := (ddrop x16 v_name : (List (Str × Bool)))) hl21 hj22 hp23 (hS.sel [0, 1, 2, 3, 4, 5] (by decide) rfl)
        refine sq_nx ?_
        refine f_if ?_
        refine f_test ?_
        refine c_op ?_
        refine c_cb ?_
        refine c_cons ?_
        refine c_dget ?_
        refine ev_to (ev_fld (ev_var rfl) (hS.getCell (i := 2) rfl) T.cl_Index T.n_Index_holders rfl) ?_
        refine k_dget1 ?_
        refine ev_to (ev_var rfl) ?_
        obtain ⟨x26, h27, hm⟩ := wp_dgetX hm
        refine k_dgetE (y := (x26 : (List (Str × Bool)))) (hS.sel [0, 1, 2, 3, 4] (by decide) rfl : Sep _ (dictE dictA p7 (dput s12.2 x13 (ddrop x16 v_name) : (List (Str × (List (Str × Bool))))) :: [imA (.ref a11) (y8 : (List Str)), cell a_v_self (.ins (G.cl 7) dx5 [("rows_of", (.ref p6)), ("holders", (.ref p7))]), dictA p6 (s12.1 : (List (Str × (List Str)))), F] : List (Asn G))) h27 fun ps28 p29 j30 hl31 hj32 hp33 hS => ?_
        have hS : Sep H ([dictA p29 (x26 : (List (Str × Bool))), dictXH id dictA p7 ps28 (dput s12.2 x13 (ddrop x16 v_name) : (List (Str × (List (Str × Bool))))) j30, imA (.ref a11) (y8 : (List Str)), cell a_v_self (.ins (G.cl 7) dx5 [("rows_of", (.ref p6)), ("holders", (.ref p7))]), dictA p6 (s12.1 : (List (Str × (List Str)))), F] : List (Asn G)) := hS
        refine c_nil ?_
        obtain ⟨ps34, hp35, hl36⟩ := lenD_at hS (i := 0) rfl
        refine ⟨_, ps34, rfl, hp35, ?_⟩
        rw [hl36]
        have hS : Sep H ([dictE dictA p7 (dput s12.2 x13 (ddrop x16 v_name) : (List (Str × (List (Str × Bool))))), imA (.ref a11) (y8 : (List Str)), cell a_v_self (.ins (G.cl 7) dx5 [("rows_of", (.ref p6)), ("holders", (.ref p7))]), dictA p6 (s12.1 : (List (Str × (List Str)))), F] : List (Asn G)) := unfocDE0 hl31 hj32 hp33 (hS.sel [0, 1, 2, 3, 4, 5] (by decide) rfl)
        refine ev_to ev_c ?_
        refine ev_op2 (ev_eqI ev_c ev_c) ?_
        refine f_bl ?_
        refine ifK_J (τ := (List (Str × (List (Str × Bool))))) (fun (s37 : (List (Str × (List (Str × Bool))))) (σ : L2.St) (H : Hp) => σ = [some (.ref a_v_self), some (.str (v_name)), some (.str (x13))] ∧ Sep H ([dictE dictA p7 (s37 : (List (Str × (List (Str × Bool))))), imA (.ref a11) (y8 : (List Str)), cell a_v_self (.ins (G.cl 7) dx5 [("rows_of", (.ref p6)), ("holders", (.ref p7))]), dictA p6 (s12.1 : (List (Str × (List Str)))), F] : List (Asn G))) hm (fun hb q hm nx => ?_) (fun hb q hm nx => ?_) (fun s37 σ H hm hI => ?_)
        ·
          refine c_drop ?_
          refine c_dpop1 ?_
          refine ev_to (ev_fld (ev_var rfl) (hS.getCell (i := 2) rfl) T.cl_Index T.n_Index_holders rfl) ?_
          refine k_pop1a (isD_Ei hS (i := 0) rfl) ?_
          refine ev_to (ev_var rfl) ?_
          obtain ⟨y38, hy38, hm⟩ := wp_dgetX hm
          refine k_pop1E (hS.sel [0, 1, 2, 3, 4] (by decide) rfl : Sep _ (dictE dictA p7 (dput s12.2 x13 (ddrop x16 v_name) : (List (Str × (List (Str × Bool))))) :: [imA (.ref a11) (y8 : (List Str)), cell a_v_self (.ins (G.cl 7) dx5 [("rows_of", (.ref p6)), ("holders", (.ref p7))]), dictA p6 (s12.1 : (List (Str × (List Str)))), F] : List (Asn G))) hy38 fun v39 H hS => ?_
          have hS : Sep H ([dictA v39 (y38 : (List (Str × Bool))), dictE dictA p7 (ddrop (dput s12.2 x13 (ddrop x16 v_name)) x13 : (List (Str × (List (Str × Bool))))), imA (.ref a11) (y8 : (List Str)), cell a_v_self (.ins (G.cl 7) dx5 [("rows_of", (.ref p6)), ("holders", (.ref p7))]), dictA p6 (s12.1 : (List (Str × (List Str)))), F] : List (Asn G)) := hS
          exact nx _ _ _ hm ⟨rfl, hS.sel [1, 2, 3, 4, 5] (by decide) rfl⟩
        ·
          refine st_nx ?_
          exact nx _ _ _ hm ⟨rfl, hS.sel [0, 1, 2, 3, 4] (by decide) rfl⟩
        · obtain ⟨rfl, hS⟩ := hI
          exact nx _ _ _ hm ⟨_, rfl, hS.sel [1, 2, 3, 0, 4] (by decide) rfl⟩
      · obtain ⟨w15, rfl, hS⟩ := hI
        have hS : Sep H (IndexA a_v_self (⟨s12.1, s12.2⟩ : Index) :: [imA (.ref a11) (y8 : (List Str)), F] : List (Asn G)) := pack_Index (hS.sel [1, 2, 3, 0, 4] (by decide) rfl)
        exact hm _ (hS.sel [0, 2] (by decide) rfl)
    ·
      have hS : Sep H ([IndexA a_v_self v_self, F] : List (Asn G)) := Sep.star (M := [IndexA a_v_self v_self]) hS
      exact hx _ (hS.sel [0, 1] (by decide) rfl)
def sp_Index_take_out_A (G : Gx) : Sp := fun vs H Q E => ∃ (a_v_self : Addr) (v_self : Index) (a_v_name : V) (v_name : Any) (F : Asn G), vs = [.ref a_v_self, a_v_name] ∧ Im.im G H a_v_name v_name ∧ Sep H ([IndexA a_v_self v_self, F] : List (Asn G)) ∧ R.wp (m_Index_take_out_A v_self v_name) (fun r => ∀ H', Sep H' ([IndexA a_v_self r, F] : List (Asn G)) → Q .non H') (fun x => ∀ H', Sep H' ([IndexA a_v_self v_self, F] : List (Asn G)) → Eok G x E H')
abbrev N_Index_take_out_A : List Str := ["self", "name", "word"]
theorem sc_Index_take_out_A : FnScope N_Index_take_out_A ["self", "name"] (defScope s_Index_take_out) := ⟨rfl, rfl, rfl, by decide +kernel, rfl, by decide +kernel, by decide +kernel⟩
theorem ok_Index_take_out_A (T : Txt G mg) : FnOk P w G.K mg base (L2.CX P w) 2 T.a_Index_take_out T.fd_Index_take_out ["self", "name"] (sp_Index_take_out_A G) := by
  have nd := sc_Index_take_out_A.nd
  refine Fun.okX T.F_Index_take_out sc_Index_take_out_A (fun vs H Q E h => ?_) (fun cdv A outer s H vs Q E hr h => ?_)
  · obtain ⟨a_v_self, v_self, a_v_name, v_name, F, rfl, _⟩ := h; rfl
  · obtain ⟨a_v_self, v_self, a_v_name, v_name, F, rfl, him_v_name, hS, hm⟩ := h
    have hS := hS.addIm him_v_name
    refine ⟨_, (pss_cons (ps_expr (pe_meth (pv 0) T.cl_Index T.m_Index_sure (ok_Index_sure_A T) (hr.mono (by decide)) T.b_Index_sure .nil (passes_call (takes_of rfl rfl rfl rfl) (fun _ _ _ _ h => h)) (pa_cons (pv 1) pa_nil)))
      (pss_one (ps_for (passes_of rfl) rfl (pi_listK G.K (pe_dpop1 (pe_fld (pv 0) rfl) (pv 1) m1)) (pg_name (i := 2) nd rfl (Or.inl rfl)) (pss_cons (ps_expr (pe_dpop1 (pe_dget (hu_of hr) (pe_fld (pv 0) rfl) (pv 2) (fun _ _ => rfl)) (pv 1) m1))
      (pss_one (ps_if (pt_cmpR op_eq (pe_callB call_lenD (by rfl) T.z_len PySem.boot_len (pa_cons (pe_dget (hu_of hr) (pe_fld (pv 0) rfl) (pv 2) (fun _ _ => rfl)) pa_nil)) pe_int (nomark _)) (pss_one (ps_expr (pe_dpop1 (pe_fld (pv 0) rfl) (pv 2) m1))) pss_nil)))))), ?_⟩
    unfold m_Index_take_out_A at hm
    have hS : Sep H (IndexA a_v_self v_self :: [imA a_v_name (v_name : Any), F] : List (Asn G)) := hS.sel [1, 0, 2] (by decide) rfl
    obtain ⟨dx1, p2, p3, hS⟩ := open_Index hS
    have hS : Sep H ([cell a_v_self (.ins (G.cl 7) dx1 [("rows_of", (.ref p2)), ("holders", (.ref p3))]), dictA p2 (v_self.rows_of : (List (Str × (List Str)))), dictE dictA p3 (v_self.holders : (List (Str × (List (Str × Bool))))), imA a_v_name (v_name : Any), F] : List (Asn G)) := hS
    refine f_seq ?_
    refine c_drop ?_
    refine c_meth ?_
    refine ev_to (ev_var rfl) ?_
    refine ⟨_, _, _, rfl, (hS.getCell (i := 0) rfl), rfl, ?_⟩
    refine ea_to (ea_cons (ev_var rfl) ea_nil) ?_
    have hS : Sep H (IndexA a_v_self v_self :: [imA a_v_name (v_name : Any), F] : List (Asn G)) := pack_Index (hS.sel [0, 1, 2, 3, 4] (by decide) rfl)
    refine ⟨a_v_self, (v_self : Index), a_v_name, (v_name : Any), star [imA a_v_name (v_name : Any), F], rfl, (hS.im (i := 1) rfl), Sep.unstar (M := [IndexA a_v_self v_self]) (hS.sel [0, 1, 2] (by decide) rfl : Sep H (([IndexA a_v_self v_self] ++ [imA a_v_name (v_name : Any), F] : List (Asn G)))), R.wp_mono (R.wp_bind hm) (fun r4 hm H hS => ?_) (fun x hx H hS => ?_)⟩
    ·
      have hS : Sep H ([IndexA a_v_self v_self, imA a_v_name (v_name : Any), F] : List (Asn G)) := Sep.star (M := [IndexA a_v_self v_self]) hS
      have hS : Sep H (IndexA a_v_self v_self :: [imA a_v_name (v_name : Any), F] : List (Asn G)) := hS.sel [0, 1, 2] (by decide) rfl
      obtain ⟨dx5, p6, p7, hS⟩ := open_Index hS
      have hS : Sep H ([cell a_v_self (.ins (G.cl 7) dx5 [("rows_of", (.ref p6)), ("holders", (.ref p7))]), dictA p6 (v_self.rows_of : (List (Str × (List Str)))), dictE dictA p7 (v_self.holders : (List (Str × (List (Str × Bool))))), imA a_v_name (v_name : Any), F] : List (Asn G)) := hS
      refine sq_nx ?_
      refine c_for ?_
      refine c_il ?_
      refine c_dpop1 ?_
      refine ev_to (ev_fld (ev_var rfl) (hS.getCell (i := 0) rfl) T.cl_Index T.n_Index_rows_of rfl) ?_
      refine k_pop1a (isD_of hS (i := 1) rfl) ?_
      refine ev_to (ev_var rfl) ?_
      obtain ⟨s8, hs9, hm⟩ := Ml.wp_asStr hm
      have hv10 := v_str (hS.im (i := 3) rfl) hs9
      subst hv10
      obtain ⟨y11, hy11, hm⟩ := wp_dgetX hm
      refine k_pop1A (k := s8) hS (i := 1) rfl hy11 rfl fun v12 H hS => ?_
      obtain ⟨a14, rfl⟩ := isref (hS.im (i := 0) rfl)
      have hS : Sep H ([imA (.ref a14) (y11 : (List Str)), cell a_v_self (.ins (G.cl 7) dx5 [("rows_of", (.ref p6)), ("holders", (.ref p7))]), dictA p6 (ddrop v_self.rows_of s8 : (List (Str × (List Str)))), dictE dictA p7 (v_self.holders : (List (Str × (List (Str × Bool))))), imA (.str (s8)) (v_name : Any), F] : List (Asn G)) := hS
      refine k_ilG (imPl (hS.im (i := 0) rfl)) ?_
      refine k_for (τ := (List (Str × (List Str))) × (List (Str × (List (Str × Bool))))) (fun (s15 : (List (Str × (List Str))) × (List (Str × (List (Str × Bool))))) (σ : L2.St) (H : Hp) => ∃ (w18 : Option V), σ = [some (.ref a_v_self), some (.str (s8)), w18] ∧ Sep H ([imA (.ref a14) (y11 : (List Str)), cell a_v_self (.ins (G.cl 7) dx5 [("rows_of", (.ref p6)), ("holders", (.ref p7))]), dictA p6 (s15.1 : (List (Str × (List Str)))), dictE dictA p7 (s15.2 : (List (Str × (List (Str × Bool))))), imA (.str (s8)) (v_name : Any), F] : List (Asn G))) (im := (Im.im G)) (s := (ddrop v_self.rows_of s8, v_self.holders)) (fun _ => wk_list fun _ _ ⟨_, _, h⟩ => imPl (h.im (i := 0) rfl)) ⟨_, rfl, hS.sel [0, 1, 2, 3, 4, 5] (by decide) rfl⟩ hm (fun s15 x16 v17 σ H q N hI hx hm nx => ?_) (fun s15 σ H hm hI => ?_)
      ·
        obtain ⟨w18, rfl, hS⟩ := hI
        cases hx
        refine c_gN (σ' := [some (.ref a_v_self), some (.str (s8)), some (.str (x16))]) rfl ?_
        refine f_seq ?_
        refine c_drop ?_
        refine c_dpop1 ?_
        refine c_dget ?_
        refine ev_to (ev_fld (ev_var rfl) (hS.getCell (i := 1) rfl) T.cl_Index T.n_Index_holders rfl) ?_
        refine k_dget1 ?_
        refine ev_to (ev_var rfl) ?_
        obtain ⟨x19, h20, hm⟩ := wp_dgetX hm
        refine k_dgetE (y := (x19 : (List (Str × Bool)))) (hS.sel [3, 0, 1, 2, 4, 5] (by decide) rfl : Sep _ (dictE dictA p7 (s15.2 : (List (Str × (List (Str × Bool))))) :: [imA (.ref a14) (y11 : (List Str)), cell a_v_self (.ins (G.cl 7) dx5 [("rows_of", (.ref p6)), ("holders", (.ref p7))]), dictA p6 (s15.1 : (List (Str × (List Str)))), imA (.str (s8)) (v_name : Any), F] : List (Asn G))) h20 fun ps21 p22 j23 hl24 hj25 hp26 hS => ?_
        have hS : Sep H ([dictA p22 (x19 : (List (Str × Bool))), dictXH id dictA p7 ps21 (s15.2 : (List (Str × (List (Str × Bool))))) j23, imA (.ref a14) (y11 : (List Str)), cell a_v_self (.ins (G.cl 7) dx5 [("rows_of", (.ref p6)), ("holders", (.ref p7))]), dictA p6 (s15.1 : (List (Str × (List Str)))), imA (.str (s8)) (v_name : Any), F] : List (Asn G)) := hS
        refine k_pop1a (isD_of hS (i := 0) rfl) ?_
        refine ev_to (ev_var rfl) ?_
        obtain ⟨s27, hs28, hm⟩ := Ml.wp_asStr hm
        have hv29 := v_str (hS.im (i := 5) rfl) hs28
        injection hv29 with hv29; subst hv29
        obtain ⟨y30, hy30, hm⟩ := wp_dgetX hm
        refine k_pop1A (k := s8) hS (i := 0) rfl hy30 rfl fun v31 H hS => ?_
        obtain rfl : v31 = (.bl (y30)) := hS.im (i := 0) rfl
        have hS := hS.tail
        have hS : Sep H ([dictA p22 (ddrop x19 s8 : (List (Str × Bool))), dictXH id dictA p7 ps21 (s15.2 : (List (Str × (List (Str × Bool))))) j23, imA (.ref a14) (y11 : (List Str)), cell a_v_self (.ins (G.cl 7) dx5 [("rows_of", (.ref p6)), ("holders", (.ref p7))]), dictA p6 (s15.1 : (List (Str × (List Str)))), imA (.str (s8)) (v_name : Any), F] : List (Asn G)) := hS
        have hS : Sep H ([dictE dictA p7 (dput s15.2 x16 (ddrop x19 s8) : (List (Str × (List (Str × Bool))))), imA (.ref a14) (y11 : (List Str)), cell a_v_self (.ins (G.cl 7) dx5 [("rows_of", (.ref p6)), ("holders", (.ref p7))]), dictA p6 (s15.1 : (List (Str × (List Str)))), imA (.str (s8)) (v_name : Any), F] : List (Asn G)) := unfocDE (z := (ddrop x19 s8 : (List (Str × Bool)))) hl24 hj25 hp26 (hS.sel [0, 1, 2, 3, 4, 5, 6] (by decide) rfl)
        refine sq_nx ?_
        refine f_if ?_
        refine f_test ?_
        refine c_op ?_
        refine c_cb ?_
        refine c_cons ?_
        refine c_dget ?_
        refine ev_to (ev_fld (ev_var rfl) (hS.getCell (i := 2) rfl) T.cl_Index T.n_Index_holders rfl) ?_
        refine k_dget1 ?_
        refine ev_to (ev_var rfl) ?_
        obtain ⟨x32, h33, hm⟩ := wp_dgetX hm
        refine k_dgetE (y := (x32 : (List (Str × Bool)))) (hS.sel [0, 1, 2, 3, 4, 5] (by decide) rfl : Sep _ (dictE dictA p7 (dput s15.2 x16 (ddrop x19 s8) : (List (Str × (List (Str × Bool))))) :: [imA (.ref a14) (y11 : (List Str)), cell a_v_self (.ins (G.cl 7) dx5 [("rows_of", (.ref p6)), ("holders", (.ref p7))]), dictA p6 (s15.1 : (List (Str × (List Str)))), imA (.str (s8)) (v_name : Any), F] : List (Asn G))) h33 fun ps34 p35 j36 hl37 hj38 hp39 hS => ?_
        have hS : Sep H ([dictA p35 (x32 : (List (Str × Bool))), dictXH id dictA p7 ps34 (dput s15.2 x16 (ddrop x19 s8) : (List (Str × (List (Str × Bool))))) j36, imA (.ref a14) (y11 : (List Str)), cell a_v_self (.ins (G.cl 7) dx5 [("rows_of", (.ref p6)), ("holders", (.ref p7))]), dictA p6 (s15.1 : (List (Str × (List Str)))), imA (.str (s8)) (v_name : Any), F] : List (Asn G)) := hS
        refine c_nil ?_
        obtain ⟨ps40, hp41, hl42⟩ := lenD_at hS (i := 0) rfl
        refine ⟨_, ps40, rfl, hp41, ?_⟩
        rw [hl42]
        have hS : Sep H ([dictE dictA p7 (dput s15.2 x16 (ddrop x19 s8) : (List (Str × (List (Str × Bool))))), imA (.ref a14) (y11 : (List Str)), cell a_v_self (.ins (G.cl 7) dx5 [("rows_of", (.ref p6)), ("holders", (.ref p7))]), dictA p6 (s15.1 : (List (Str × (List Str)))), imA (.str (s8)) (v_name : Any), F] : List (Asn G)) := unfocDE0 hl37 hj38 hp39 (hS.sel [0, 1, 2, 3, 4, 5, 6] (by decide) rfl)
        refine ev_to ev_c ?_
        refine ev_op2 (ev_eqI ev_c ev_c) ?_
        refine f_bl ?_
        refine ifK_J (τ := (List (Str × (List (Str × Bool))))) (fun (s43 : (List (Str × (List (Str × Bool))))) (σ : L2.St) (H : Hp) => σ = [some (.ref a_v_self), some (.str (s8)), some (.str (x16))] ∧ Sep H ([dictE dictA p7 (s43 : (List (Str × (List (Str × Bool))))), imA (.ref a14) (y11 : (List Str)), cell a_v_self (.ins (G.cl 7) dx5 [("rows_of", (.ref p6)), ("holders", (.ref p7))]), dictA p6 (s15.1 : (List (Str × (List Str)))), imA (.str (s8)) (v_name : Any), F] : List (Asn G))) hm (fun hb q hm nx => ?_) (fun hb q hm nx => ?_) (fun s43 σ H hm hI => ?_)
        ·
          refine c_drop ?_
          refine c_dpop1 ?_
          refine ev_to (ev_fld (ev_var rfl) (hS.getCell (i := 2) rfl) T.cl_Index T.n_Index_holders rfl) ?_
          refine k_pop1a (isD_Ei hS (i := 0) rfl) ?_
          refine ev_to (ev_var rfl) ?_
          obtain ⟨y44, hy44, hm⟩ := wp_dgetX hm
          refine k_pop1E (hS.sel [0, 1, 2, 3, 4, 5] (by decide) rfl : Sep _ (dictE dictA p7 (dput s15.2 x16 (ddrop x19 s8) : (List (Str × (List (Str × Bool))))) :: [imA (.ref a14) (y11 : (List Str)), cell a_v_self (.ins (G.cl 7) dx5 [("rows_of", (.ref p6)), ("holders", (.ref p7))]), dictA p6 (s15.1 : (List (Str × (List Str)))), imA (.str (s8)) (v_name : Any), F] : List (Asn G))) hy44 fun v45 H hS => ?_
          have hS : Sep H ([dictA v45 (y44 : (List (Str × Bool))), dictE dictA p7 (ddrop (dput s15.2 x16 (ddrop x19 s8)) x16 : (List (Str × (List (Str × Bool))))), imA (.ref a14) (y11 : (List Str)), cell a_v_self (.ins (G.cl 7) dx5 [("rows_of", (.ref p6)), ("holders", (.ref p7))]), dictA p6 (s15.1 : (List (Str × (List Str)))), imA (.str (s8)) (v_name : Any), F] : List (Asn G)) := hS
          exact nx _ _ _ hm ⟨rfl, hS.sel [1, 2, 3, 4, 5, 6] (by decide) rfl⟩
        ·
          refine st_nx ?_
          exact nx _ _ _ hm ⟨rfl, hS.sel [0, 1, 2, 3, 4, 5] (by decide) rfl⟩
        · obtain ⟨rfl, hS⟩ := hI
          exact nx _ _ _ hm ⟨_, rfl, hS.sel [1, 2, 3, 0, 4, 5] (by decide) rfl⟩
      · obtain ⟨w18, rfl, hS⟩ := hI
        have hS : Sep H (IndexA a_v_self (⟨s15.1, s15.2⟩ : Index) :: [imA (.ref a14) (y11 : (List Str)), imA (.str (s8)) (v_name : Any), F] : List (Asn G)) := pack_Index (hS.sel [1, 2, 3, 0, 4, 5] (by decide) rfl)
        exact hm _ (hS.sel [0, 3] (by decide) rfl)
    ·
      have hS : Sep H ([IndexA a_v_self v_self, imA a_v_name (v_name : Any), F] : List (Asn G)) := Sep.star (M := [IndexA a_v_self v_self]) hS
      exact hx _ (hS.sel [0, 2] (by decide) rfl)
def sp_Index_having (G : Gx) : Sp := fun vs H Q E => ∃ (a_v_self : Addr) (v_self : Index) (v_word : Str) (F : Asn G), vs = [.ref a_v_self, (.str (v_word))] ∧ Sep H ([IndexA a_v_self v_self, F] : List (Asn G)) ∧ R.wp (m_Index_having v_self v_word) (fun r => ∀ p H', Sep H' ([lstA p (r : (List Str)), IndexA a_v_self v_self, F] : List (Asn G)) → Q (.ref p) H') (fun _ => False)
abbrev N_Index_having : List Str := ["self", "word"]
theorem sc_Index_having : FnScope N_Index_having ["self", "word"] (defScope s_Index_having) := ⟨rfl, rfl, rfl, by decide +kernel, rfl, by decide +kernel, by decide +kernel⟩
theorem ok_Index_having (T : Txt G mg) : FnOk P w G.K mg base CX0 1 T.a_Index_having T.fd_Index_having ["self", "word"] (sp_Index_having G) := by
  have nd := sc_Index_having.nd
  refine Fun.ok T.F_Index_having sc_Index_having (fun vs H Q E h => ?_) (fun cdv A outer s H vs Q E hr h => ?_)
  · obtain ⟨a_v_self, v_self, v_word, F, rfl, _⟩ := h; rfl
  · obtain ⟨a_v_self, v_self, v_word, F, rfl, hS, hm⟩ := h
    refine ⟨_, (pss_one (ps_ret (pe_fz (pe_callB (cr_sortD rfl) (by rfl) T.z_sorted (by decide +kernel) (pa_cons (pe_dget2 (hu_of hr) (pe_fld (pv 0) rfl) (pv 1) pe_dnewK m2) pa_nil))))), ?_⟩
    unfold m_Index_having at hm
    have hS : Sep H (IndexA a_v_self v_self :: [F] : List (Asn G)) := hS.sel [0, 1] (by decide) rfl
    obtain ⟨dx1, p2, p3, hS⟩ := open_Index hS
    have hS : Sep H ([cell a_v_self (.ins (G.cl 7) dx1 [("rows_of", (.ref p2)), ("holders", (.ref p3))]), dictA p2 (v_self.rows_of : (List (Str × (List Str)))), dictE dictA p3 (v_self.holders : (List (Str × (List (Str × Bool))))), F] : List (Asn G)) := hS
    refine c_ret ?_
    refine c_fz ?_
    refine c_cb ?_
    refine c_cons ?_
    refine c_dget2 ?_
    refine ev_to (ev_fld (ev_var rfl) (hS.getCell (i := 0) rfl) T.cl_Index T.n_Index_holders rfl) ?_
    refine k_get2a (isD_Ei hS (i := 2) rfl) ?_
    refine ev_to (ev_var rfl) ?_
    refine k_get2b ?_
    refine k_dnew (κ := Str) (β := Bool) hS fun p4 H hS => ?_
    refine k_get2E (k := v_word) (hS.sel [3, 0, 1, 2, 4] (by decide) rfl : Sep _ (dictE dictA p3 (v_self.holders : (List (Str × (List (Str × Bool))))) :: dictA p4 (([] : (List (Str × Bool))) : (List (Str × Bool))) :: [cell a_v_self (.ins (G.cl 7) dx1 [("rows_of", (.ref p2)), ("holders", (.ref p3))]), dictA p2 (v_self.rows_of : (List (Str × (List Str)))), F] : List (Asn G))) fun p6 R7 hb8 hS => ?_
    have hS : Sep H ([dictA p6 ((dget v_self.holders v_word).getD ([] : (List (Str × Bool))) : (List (Str × Bool))), R7, cell a_v_self (.ins (G.cl 7) dx1 [("rows_of", (.ref p2)), ("holders", (.ref p3))]), dictA p2 (v_self.rows_of : (List (Str × (List Str)))), F] : List (Asn G)) := hS
    refine c_nil ?_
    obtain ⟨h10, hm⟩ := R.wp_need hm
    refine k_sortDA hS (i := 0) rfl h10 fun p9 H hS => ?_
    refine fz_no ?_
    have hS : Sep H ([dictE dictA p3 (v_self.holders : (List (Str × (List (Str × Bool))))), lstA p9 (sortT (((dget v_self.holders v_word).getD ([] : (List (Str × Bool)))).map (·.1)) : (List Str)), cell a_v_self (.ins (G.cl 7) dx1 [("rows_of", (.ref p2)), ("holders", (.ref p3))]), dictA p2 (v_self.rows_of : (List (Str × (List Str)))), F] : List (Asn G)) := hb8 _ _ (hS.sel [1, 2, 0, 3, 4, 5] (by decide) rfl)
    have hS : Sep H (IndexA a_v_self v_self :: [lstA p9 (sortT (((dget v_self.holders v_word).getD ([] : (List (Str × Bool)))).map (·.1)) : (List Str)), F] : List (Asn G)) := pack_Index (hS.sel [2, 3, 0, 1, 4] (by decide) rfl)
    exact hm _ _ (hS.sel [1, 0, 2] (by decide) rfl)
def sp_Index_words (G : Gx) : Sp := fun vs H Q E => ∃ (a_v_self : Addr) (v_self : Index) (v_name : Str) (F : Asn G), vs = [.ref a_v_self, (.str (v_name))] ∧ Sep H ([IndexA a_v_self v_self, F] : List (Asn G)) ∧ R.wp (m_Index_words v_self v_name) (fun r => ∀ p H', Sep H' ([lstA p (r : (List Str)), IndexA a_v_self v_self, F] : List (Asn G)) → Q (.ref p) H') (fun x => ∀ H', Sep H' ([IndexA a_v_self v_self, F] : List (Asn G)) → Eok G x E H')
abbrev N_Index_words : List Str := ["self", "name"]
theorem sc_Index_words : FnScope N_Index_words ["self", "name"] (defScope s_Index_words) := ⟨rfl, rfl, rfl, by decide +kernel, rfl, by decide +kernel, by decide +kernel⟩
theorem ok_Index_words (T : Txt G mg) : FnOk P w G.K mg base (L2.CX P w) 2 T.a_Index_words T.fd_Index_words ["self", "name"] (sp_Index_words G) := by
  have nd := sc_Index_words.nd
  refine Fun.okX T.F_Index_words sc_Index_words (fun vs H Q E h => ?_) (fun cdv A outer s H vs Q E hr h => ?_)
  · obtain ⟨a_v_self, v_self, v_name, F, rfl, _⟩ := h; rfl
  · obtain ⟨a_v_self, v_self, v_name, F, rfl, hS, hm⟩ := h
    refine ⟨_, (pss_cons (ps_expr (pe_meth (pv 0) T.cl_Index T.m_Index_sure (ok_Index_sure T) (hr.mono (by decide)) T.b_Index_sure .nil (passes_call (takes_of rfl rfl rfl rfl) (fun _ _ _ _ h => h)) (pa_cons (pv 1) pa_nil)))
      (pss_one (ps_ret (pe_fz (pe_callTy (listSqK G.K) (by rfl) T.z_list (by decide +kernel) (pa_cons (pe_dget (hu_of hr) (pe_fld (pv 0) rfl) (pv 1) (fun _ _ => rfl)) pa_nil)))))), ?_⟩
    unfold m_Index_words at hm
    have hS : Sep H (IndexA a_v_self v_self :: [F] : List (Asn G)) := hS.sel [0, 1] (by decide) rfl
    obtain ⟨dx1, p2, p3, hS⟩ := open_Index hS
    have hS : Sep H ([cell a_v_self (.ins (G.cl 7) dx1 [("rows_of", (.ref p2)), ("holders", (.ref p3))]), dictA p2 (v_self.rows_of : (List (Str × (List Str)))), dictE dictA p3 (v_self.holders : (List (Str × (List (Str × Bool))))), F] : List (Asn G)) := hS
    refine f_seq ?_
    refine c_drop ?_
    refine c_meth ?_
    refine ev_to (ev_var rfl) ?_
    refine ⟨_, _, _, rfl, (hS.getCell (i := 0) rfl), rfl, ?_⟩
    refine ea_to (ea_cons (ev_var rfl) ea_nil) ?_
    have hS : Sep H (IndexA a_v_self v_self :: [F] : List (Asn G)) := pack_Index (hS.sel [0, 1, 2, 3] (by decide) rfl)
    refine ⟨a_v_self, (v_self : Index), v_name, star [F], rfl, Sep.unstar (M := [IndexA a_v_self v_self]) (hS.sel [0, 1] (by decide) rfl : Sep H (([IndexA a_v_self v_self] ++ [F] : List (Asn G)))), R.wp_mono (R.wp_bind hm) (fun r4 hm H hS => ?_) (fun x hx H hS => ?_)⟩
    ·
      have hS : Sep H ([IndexA a_v_self v_self, F] : List (Asn G)) := Sep.star (M := [IndexA a_v_self v_self]) hS
      have hS : Sep H (IndexA a_v_self v_self :: [F] : List (Asn G)) := hS.sel [0, 1] (by decide) rfl
      obtain ⟨dx5, p6, p7, hS⟩ := open_Index hS
      have hS : Sep H ([cell a_v_self (.ins (G.cl 7) dx5 [("rows_of", (.ref p6)), ("holders", (.ref p7))]), dictA p6 (v_self.rows_of : (List (Str × (List Str)))), dictE dictA p7 (v_self.holders : (List (Str × (List (Str × Bool))))), F] : List (Asn G)) := hS
      refine sq_nx ?_
      refine c_ret ?_
      refine c_fz ?_
      refine c_cb ?_
      obtain ⟨y8, hy8, hm⟩ := wp_dget hm
      obtain ⟨v9, g10, hv11⟩ := dget_some hS (i := 1) rfl hy8
      obtain ⟨a12, rfl⟩ := isref hv11
      refine ea_to (ea_cons (ev_dget (y := y8) hS (i := 1) rfl (ev_fld (ev_var rfl) (hS.getCell (i := 0) rfl) T.cl_Index T.n_Index_rows_of rfl) (ev_var rfl) g10) ea_nil) ?_
      have hS := hS.addIm (v := (.ref a12)) (x := (y8 : (List Str))) hv11
      refine k_listG hS (imPl (hS.im (i := 0) rfl)) fun p14 H hS => ?_
      refine fz_no ?_
      have hS : Sep H (IndexA a_v_self v_self :: [lstA p14 (y8 : (List Str)), imA (.ref a12) (y8 : (List Str)), F] : List (Asn G)) := pack_Index (hS.sel [2, 3, 4, 0, 1, 5] (by decide) rfl)
      exact hm _ _ (hS.sel [1, 0, 3] (by decide) rfl)
    ·
      have hS : Sep H ([IndexA a_v_self v_self, F] : List (Asn G)) := Sep.star (M := [IndexA a_v_self v_self]) hS
      exact hx _ (hS.sel [0, 1] (by decide) rfl)
def sp_Index_words_A (G : Gx) : Sp := fun vs H Q E => ∃ (a_v_self : Addr) (v_self : Index) (a_v_name : V) (v_name : Any) (F : Asn G), vs = [.ref a_v_self, a_v_name] ∧ Im.im G H a_v_name v_name ∧ Sep H ([IndexA a_v_self v_self, F] : List (Asn G)) ∧ R.wp (m_Index_words_A v_self v_name) (fun r => ∀ p H', Sep H' ([lstA p (r : (List Str)), IndexA a_v_self v_self, F] : List (Asn G)) → Q (.ref p) H') (fun x => ∀ H', Sep H' ([IndexA a_v_self v_self, F] : List (Asn G)) → Eok G x E H')
abbrev N_Index_words_A : List Str := ["self", "name"]
theorem sc_Index_words_A : FnScope N_Index_words_A ["self", "name"] (defScope s_Index_words) := ⟨rfl, rfl, rfl, by decide +kernel, rfl, by decide +kernel, by decide +kernel⟩
theorem ok_Index_words_A (T : Txt G mg) : FnOk P w G.K mg base (L2.CX P w) 2 T.a_Index_words T.fd_Index_words ["self", "name"] (sp_Index_words_A G) := by
  have nd := sc_Index_words_A.nd
  refine Fun.okX T.F_Index_words sc_Index_words_A (fun vs H Q E h => ?_) (fun cdv A outer s H vs Q E hr h => ?_)
  · obtain ⟨a_v_self, v_self, a_v_name, v_name, F, rfl, _⟩ := h; rfl
  · obtain ⟨a_v_self, v_self, a_v_name, v_name, F, rfl, him_v_name, hS, hm⟩ := h
    have hS := hS.addIm him_v_name
    refine ⟨_, (pss_cons (ps_expr (pe_meth (pv 0) T.cl_Index T.m_Index_sure (ok_Index_sure_A T) (hr.mono (by decide)) T.b_Index_sure .nil (passes_call (takes_of rfl rfl rfl rfl) (fun _ _ _ _ h => h)) (pa_cons (pv 1) pa_nil)))
      (pss_one (ps_ret (pe_fz (pe_callTy (listSqK G.K) (by rfl) T.z_list (by decide +kernel) (pa_cons (pe_dget (hu_of hr) (pe_fld (pv 0) rfl) (pv 1) (fun _ _ => rfl)) pa_nil)))))), ?_⟩
    unfold m_Index_words_A at hm
    have hS : Sep H (IndexA a_v_self v_self :: [imA a_v_name (v_name : Any), F] : List (Asn G)) := hS.sel [1, 0, 2] (by decide) rfl
    obtain ⟨dx1, p2, p3, hS⟩ := open_Index hS
    have hS : Sep H ([cell a_v_self (.ins (G.cl 7) dx1 [("rows_of", (.ref p2)), ("holders", (.ref p3))]), dictA p2 (v_self.rows_of : (List (Str × (List Str)))), dictE dictA p3 (v_self.holders : (List (Str × (List (Str × Bool))))), imA a_v_name (v_name : Any), F] : List (Asn G)) := hS
    refine f_seq ?_
    refine c_drop ?_
    refine c_meth ?_
    refine ev_to (ev_var rfl) ?_
    refine ⟨_, _, _, rfl, (hS.getCell (i := 0) rfl), rfl, ?_⟩
    refine ea_to (ea_cons (ev_var rfl) ea_nil) ?_
    have hS : Sep H (IndexA a_v_self v_self :: [imA a_v_name (v_name : Any), F] : List (Asn G)) := pack_Index (hS.sel [0, 1, 2, 3, 4] (by decide) rfl)
    refine ⟨a_v_self, (v_self : Index), a_v_name, (v_name : Any), star [imA a_v_name (v_name : Any), F], rfl, (hS.im (i := 1) rfl), Sep.unstar (M := [IndexA a_v_self v_self]) (hS.sel [0, 1, 2] (by decide) rfl : Sep H (([IndexA a_v_self v_self] ++ [imA a_v_name (v_name : Any), F] : List (Asn G)))), R.wp_mono (R.wp_bind hm) (fun r4 hm H hS => ?_) (fun x hx H hS => ?_)⟩
    ·
      have hS : Sep H ([IndexA a_v_self v_self, imA a_v_name (v_name : Any), F] : List (Asn G)) := Sep.star (M := [IndexA a_v_self v_self]) hS
      have hS : Sep H (IndexA a_v_self v_self :: [imA a_v_name (v_name : Any), F] : List (Asn G)) := hS.sel [0, 1, 2] (by decide) rfl
      obtain ⟨dx5, p6, p7, hS⟩ := open_Index hS
      have hS : Sep H ([cell a_v_self (.ins (G.cl 7) dx5 [("rows_of", (.ref p6)), ("holders", (.ref p7))]), dictA p6 (v_self.rows_of : (List (Str × (List Str)))), dictE dictA p7 (v_self.holders : (List (Str × (List (Str × Bool))))), imA a_v_name (v_name : Any), F] : List (Asn G)) := hS
      refine sq_nx ?_
      refine c_ret ?_
      refine c_fz ?_
      refine c_cb ?_
      obtain ⟨s8, hs9, hm⟩ := Ml.wp_asStr hm
      have hv10 := v_str (hS.im (i := 3) rfl) hs9
      subst hv10
      obtain ⟨y11, hy11, hm⟩ := wp_dget hm
      obtain ⟨v12, g13, hv14⟩ := dget_some hS (i := 1) rfl hy11
      obtain ⟨a15, rfl⟩ := isref hv14
      refine ea_to (ea_cons (ev_dget (y := y11) hS (i := 1) rfl (ev_fld (ev_var rfl) (hS.getCell (i := 0) rfl) T.cl_Index T.n_Index_rows_of rfl) (ev_var rfl) g13) ea_nil) ?_
      have hS := hS.addIm (v := (.ref a15)) (x := (y11 : (List Str))) hv14
      refine k_listG hS (imPl (hS.im (i := 0) rfl)) fun p17 H hS => ?_
      refine fz_no ?_
      have hS : Sep H (IndexA a_v_self v_self :: [lstA p17 (y11 : (List Str)), imA (.ref a15) (y11 : (List Str)), imA (.str (s8)) (v_name : Any), F] : List (Asn G)) := pack_Index (hS.sel [2, 3, 4, 0, 1, 5, 6] (by decide) rfl)
      exact hm _ _ (hS.sel [1, 0, 4] (by decide) rfl)
    ·
      have hS : Sep H ([IndexA a_v_self v_self, imA a_v_name (v_name : Any), F] : List (Asn G)) := Sep.star (M := [IndexA a_v_self v_self]) hS
      exact hx _ (hS.sel [0, 2] (by decide) rfl)
def sp_Index_all_words (G : Gx) : Sp := fun vs H Q E => ∃ (a_v_self : Addr) (v_self : Index) (F : Asn G), vs = [.ref a_v_self] ∧ Sep H ([IndexA a_v_self v_self, F] : List (Asn G)) ∧ R.wp (m_Index_all_words v_self) (fun r => ∀ p H', Sep H' ([lstA p (r : (List Str)), IndexA a_v_self v_self, F] : List (Asn G)) → Q (.ref p) H') (fun _ => False)
abbrev N_Index_all_words : List Str := ["self"]
theorem sc_Index_all_words : FnScope N_Index_all_words ["self"] (defScope s_Index_all_words) := ⟨rfl, rfl, rfl, by decide +kernel, rfl, by decide +kernel, by decide +kernel⟩
theorem ok_Index_all_words (T : Txt G mg) : FnOk P w G.K mg base CX0 1 T.a_Index_all_words T.fd_Index_all_words ["self"] (sp_Index_all_words G) := by
  have nd := sc_Index_all_words.nd
  refine Fun.ok T.F_Index_all_words sc_Index_all_words (fun vs H Q E h => ?_) (fun cdv A outer s H vs Q E hr h => ?_)
  · obtain ⟨a_v_self, v_self, F, rfl, _⟩ := h; rfl
  · obtain ⟨a_v_self, v_self, F, rfl, hS, hm⟩ := h
    refine ⟨_, (pss_one (ps_ret (pe_fz (pe_callB (cr_sortD rfl) (by rfl) T.z_sorted (by decide +kernel) (pa_cons (pe_fld (pv 0) rfl) pa_nil))))), ?_⟩
    unfold m_Index_all_words at hm
    have hS : Sep H (IndexA a_v_self v_self :: [F] : List (Asn G)) := hS.sel [0, 1] (by decide) rfl
    obtain ⟨dx1, p2, p3, hS⟩ := open_Index hS
    have hS : Sep H ([cell a_v_self (.ins (G.cl 7) dx1 [("rows_of", (.ref p2)), ("holders", (.ref p3))]), dictA p2 (v_self.rows_of : (List (Str × (List Str)))), dictE dictA p3 (v_self.holders : (List (Str × (List (Str × Bool))))), F] : List (Asn G)) := hS
    refine c_ret ?_
    refine c_fz ?_
    refine c_cb ?_
    refine ea_to (ea_cons (ev_fld (ev_var rfl) (hS.getCell (i := 0) rfl) T.cl_Index T.n_Index_holders rfl) ea_nil) ?_
    obtain ⟨h5, hm⟩ := R.wp_need hm
    refine k_sortDEi hS (i := 2) rfl h5 fun p4 H hS => ?_
    refine fz_no ?_
    have hS : Sep H (IndexA a_v_self v_self :: [lstA p4 (sortT (v_self.holders.map (·.1)) : (List Str)), F] : List (Asn G)) := pack_Index (hS.sel [1, 2, 3, 0, 4] (by decide) rfl)
    exact hm _ _ (hS.sel [1, 0, 2] (by decide) rfl)
def sp_Threads___init__ (G : Gx) : Sp := fun vs H Q E => ∃ (a_v_self d_v_self : Addr) (F : Asn G), vs = [.ref a_v_self] ∧ Sep H ([cell a_v_self (.ins (G.cl 8) d_v_self []), F] : List (Asn G)) ∧ R.wp (m_Threads___init__ ) (fun r => ∀ H', Sep H' ([ThreadsA a_v_self r, F] : List (Asn G)) → Q .non H') (fun _ => False)
abbrev N_Threads___init__ : List Str := ["self"]
theorem sc_Threads___init__ : FnScope N_Threads___init__ ["self"] (defScope s_Threads___init__) := ⟨rfl, rfl, rfl, by decide +kernel, rfl, by decide +kernel, by decide +kernel⟩
theorem ok_Threads___init__ (T : Txt G mg) : FnOk P w G.K mg base CX0 1 T.a_Threads___init__ T.fd_Threads___init__ ["self"] (sp_Threads___init__ G) := by
  have nd := sc_Threads___init__.nd
  refine Fun.ok T.F_Threads___init__ sc_Threads___init__ (fun vs H Q E h => ?_) (fun cdv A outer s H vs Q E hr h => ?_)
  · obtain ⟨a_v_self, d_v_self, F, rfl, _⟩ := h; rfl
  · obtain ⟨a_v_self, d_v_self, F, rfl, hS, hm⟩ := h
    refine ⟨_, (pss_cons (ps_fld (pv 0) pe_dnewK rfl)
      (pss_cons (ps_fld (pv 0) pe_dnewK rfl)
      (pss_cons (ps_fld (pv 0) pe_dnewK rfl)
      (pss_cons (ps_fld (pv 0) pe_dnewK rfl)
      (pss_one (ps_fld (pv 0) pe_int rfl)))))), ?_⟩
    unfold m_Threads___init__ at hm
    refine f_seq ?_
    refine c_sfld ?_
    refine k_dnew (κ := Str) (β := Str) hS fun p1 H hS => ?_
    refine ev_to (ev_var rfl) ?_
    refine k_sfld (fs' := [("goes_to", (.ref p1))]) hS (i := 1) rfl T.cl_Threads T.n_Threads_goes_to rfl (by show 0 < 1000; decide) (by show decide (G.fz (G.cl 8) = some 1) = false; rw [T.fz_Threads]; rfl) rfl fun H hS => ?_
    have hS : Sep H ([dictA p1 (([] : (List (Str × Str))) : (List (Str × Str))), cell a_v_self (.ins (G.cl 8) d_v_self [("goes_to", (.ref p1))]), F] : List (Asn G)) := hS
    refine sq_nx ?_
    refine f_seq ?_
    refine c_sfld ?_
    refine k_dnew (κ := Str) (β := Int) hS fun p2 H hS => ?_
    refine ev_to (ev_var rfl) ?_
    refine k_sfld (fs' := [("goes_to", (.ref p1)), ("pile_of", (.ref p2))]) hS (i := 2) rfl T.cl_Threads T.n_Threads_pile_of rfl (by show 1 < 1000; decide) (by show decide (G.fz (G.cl 8) = some 2) = false; rw [T.fz_Threads]; rfl) rfl fun H hS => ?_
    have hS : Sep H ([dictA p2 (([] : (List (Str × Int))) : (List (Str × Int))), dictA p1 (([] : (List (Str × Str))) : (List (Str × Str))), cell a_v_self (.ins (G.cl 8) d_v_self [("goes_to", (.ref p1)), ("pile_of", (.ref p2))]), F] : List (Asn G)) := hS
    refine sq_nx ?_
    refine f_seq ?_
    refine c_sfld ?_
    refine k_dnewE (κ := Int) (β := (List Str)) (E := lstA) hS fun p3 H hS => ?_
    refine ev_to (ev_var rfl) ?_
    refine k_sfld (fs' := [("goes_to", (.ref p1)), ("pile_of", (.ref p2)), ("piles", (.ref p3))]) hS (i := 3) rfl T.cl_Threads T.n_Threads_piles rfl (by show 2 < 1000; decide) (by show decide (G.fz (G.cl 8) = some 3) = false; rw [T.fz_Threads]; rfl) rfl fun H hS => ?_
    have hS : Sep H ([dictE lstA p3 (([] : (List (Int × (List Str)))) : (List (Int × (List Str)))), dictA p2 (([] : (List (Str × Int))) : (List (Str × Int))), dictA p1 (([] : (List (Str × Str))) : (List (Str × Str))), cell a_v_self (.ins (G.cl 8) d_v_self [("goes_to", (.ref p1)), ("pile_of", (.ref p2)), ("piles", (.ref p3))]), F] : List (Asn G)) := hS
    refine sq_nx ?_
    refine f_seq ?_
    refine c_sfld ?_
    refine k_dnewE (κ := Str) (β := (List (Str × Bool))) (E := dictA) hS fun p4 H hS => ?_
    refine ev_to (ev_var rfl) ?_
    refine k_sfld (fs' := [("goes_to", (.ref p1)), ("pile_of", (.ref p2)), ("piles", (.ref p3)), ("comes_from", (.ref p4))]) hS (i := 4) rfl T.cl_Threads T.n_Threads_comes_from rfl (by show 3 < 1000; decide) (by show decide (G.fz (G.cl 8) = some 4) = false; rw [T.fz_Threads]; rfl) rfl fun H hS => ?_
    have hS : Sep H ([dictE dictA p4 (([] : (List (Str × (List (Str × Bool))))) : (List (Str × (List (Str × Bool))))), dictE lstA p3 (([] : (List (Int × (List Str)))) : (List (Int × (List Str)))), dictA p2 (([] : (List (Str × Int))) : (List (Str × Int))), dictA p1 (([] : (List (Str × Str))) : (List (Str × Str))), cell a_v_self (.ins (G.cl 8) d_v_self [("goes_to", (.ref p1)), ("pile_of", (.ref p2)), ("piles", (.ref p3)), ("comes_from", (.ref p4))]), F] : List (Asn G)) := hS
    refine sq_nx ?_
    refine c_sfld ?_
    refine ev_to ev_c ?_
    refine ev_to (ev_var rfl) ?_
    refine k_sfld (fs' := [("goes_to", (.ref p1)), ("pile_of", (.ref p2)), ("piles", (.ref p3)), ("comes_from", (.ref p4)), ("made", (.int (0)))]) hS (i := 4) rfl T.cl_Threads T.n_Threads_made rfl (by show 4 < 1000; decide) (by show decide (G.fz (G.cl 8) = some 5) = false; rw [T.fz_Threads]; rfl) rfl fun H hS => ?_
    have hS : Sep H ([dictE dictA p4 (([] : (List (Str × (List (Str × Bool))))) : (List (Str × (List (Str × Bool))))), dictE lstA p3 (([] : (List (Int × (List Str)))) : (List (Int × (List Str)))), dictA p2 (([] : (List (Str × Int))) : (List (Str × Int))), dictA p1 (([] : (List (Str × Str))) : (List (Str × Str))), cell a_v_self (.ins (G.cl 8) d_v_self [("goes_to", (.ref p1)), ("pile_of", (.ref p2)), ("piles", (.ref p3)), ("comes_from", (.ref p4)), ("made", (.int (0)))]), F] : List (Asn G)) := hS
    have hS : Sep H (ThreadsA a_v_self (⟨([] : (List (Str × Str))), ([] : (List (Str × Int))), ([] : (List (Int × (List Str)))), ([] : (List (Str × (List (Str × Bool))))), 0⟩ : Threads) :: [F] : List (Asn G)) := pack_Threads (hS.sel [4, 3, 2, 1, 0, 5] (by decide) rfl)
    exact hm _ (hS.sel [0, 1] (by decide) rfl)
def sp_Threads_pile (G : Gx) : Sp := fun vs H Q E => ∃ (a_v_self : Addr) (v_self : Threads) (v_name : Str) (F : Asn G), vs = [.ref a_v_self, (.str (v_name))] ∧ Sep H ([ThreadsA a_v_self v_self, F] : List (Asn G)) ∧ R.wp (m_Threads_pile v_self v_name) (fun r => ∀ H', Sep H' ([ThreadsA a_v_self r.2, F] : List (Asn G)) → Q (.int (r.1)) H') (fun _ => False)
abbrev N_Threads_pile : List Str := ["self", "name"]
theorem sc_Threads_pile : FnScope N_Threads_pile ["self", "name"] (defScope s_Threads_pile) := ⟨rfl, rfl, rfl, by decide +kernel, rfl, by decide +kernel, by decide +kernel⟩
theorem ok_Threads_pile (T : Txt G mg) : FnOk P w G.K mg base CX0 1 T.a_Threads_pile T.fd_Threads_pile ["self", "name"] (sp_Threads_pile G) := by
  have nd := sc_Threads_pile.nd
  refine Fun.ok T.F_Threads_pile sc_Threads_pile (fun vs H Q E h => ?_) (fun cdv A outer s H vs Q E hr h => ?_)
  · obtain ⟨a_v_self, v_self, v_name, F, rfl, _⟩ := h; rfl
  · obtain ⟨a_v_self, v_self, v_name, F, rfl, hS, hm⟩ := h
    refine ⟨_, (pss_cons (ps_if (pt_cmp (pc_dnotin (hu_of hr) (pv 1) (pe_fld (pv 0) rfl))) (pss_cons (ps_fldaug (pv 0) pe_int ip_add)
      (pss_cons (ps_asg (pe_fld (pv 0) rfl) (pg_sub (pe_fld (pv 0) rfl) (pv 1) (set_dict (hu_of hr))))
      (pss_one (ps_asg (pe_fz (pe_lst (pa_cons (pv 1) pa_nil))) (pg_sub (pe_fld (pv 0) rfl) (pe_fld (pv 0) rfl) (set_dict (hu_of hr))))))) pss_nil)
      (pss_one (ps_ret (pe_dget (hu_of hr) (pe_fld (pv 0) rfl) (pv 1) (fun _ _ => rfl))))), ?_⟩
    unfold m_Threads_pile at hm
    have hS : Sep H (ThreadsA a_v_self v_self :: [F] : List (Asn G)) := hS.sel [0, 1] (by decide) rfl
    obtain ⟨dx1, p2, p3, p4, p5, hS⟩ := open_Threads hS
    have hS : Sep H ([cell a_v_self (.ins (G.cl 8) dx1 [("goes_to", (.ref p2)), ("pile_of", (.ref p3)), ("piles", (.ref p4)), ("comes_from", (.ref p5)), ("made", (.int (v_self.made)))]), dictA p2 (v_self.goes_to : (List (Str × Str))), dictA p3 (v_self.pile_of : (List (Str × Int))), dictE lstA p4 (v_self.piles : (List (Int × (List Str)))), dictE dictA p5 (v_self.comes_from : (List (Str × (List (Str × Bool))))), F] : List (Asn G)) := hS
    refine f_seq ?_
    refine f_if ?_
    refine et_to (et_B (ev_dnotin hS (i := 2) (k := v_name) rfl (ev_var rfl) (ev_fld (ev_var rfl) (hS.getCell (i := 0) rfl) T.cl_Threads T.n_Threads_pile_of rfl))) ?_
    refine ifK_J (τ := (List (Str × Int)) × (List (Int × (List Str))) × Int) (fun (s6 : (List (Str × Int)) × (List (Int × (List Str))) × Int) (σ : L2.St) (H : Hp) => σ = [some (.ref a_v_self), some (.str (v_name))] ∧ Sep H ([cell a_v_self (.ins (G.cl 8) dx1 [("goes_to", (.ref p2)), ("pile_of", (.ref p3)), ("piles", (.ref p4)), ("comes_from", (.ref p5)), ("made", (.int (s6.2.2)))]), dictA p2 (v_self.goes_to : (List (Str × Str))), dictA p3 (s6.1 : (List (Str × Int))), dictE lstA p4 (s6.2.1 : (List (Int × (List Str)))), dictE dictA p5 (v_self.comes_from : (List (Str × (List (Str × Bool))))), F] : List (Asn G))) hm (fun hb q hm nx => ?_) (fun hb q hm nx => ?_) (fun s6 σ H hm hI => ?_)
    ·
      refine f_seq ?_
      refine c_fldaug ?_
      refine ev_to (ev_var rfl) ?_
      refine ⟨_, _, _, _, _, rfl, hS.getCell (i := 0) rfl, T.cl_Threads, T.n_Threads_made, rfl, ?_⟩
      refine ev_to ev_c ?_
      refine ⟨_, _, rfl, rfl, ?_⟩
      refine k_fldaug2 hS (i := 0) rfl (by show 5 < 1000; decide) (by show decide (G.fz (G.cl 8) = some 5) = false; rw [T.fz_Threads]; rfl) rfl fun H hS => ?_
      have hS : Sep H ([cell a_v_self (.ins (G.cl 8) dx1 [("goes_to", (.ref p2)), ("pile_of", (.ref p3)), ("piles", (.ref p4)), ("comes_from", (.ref p5)), ("made", (.int (v_self.made + 1)))]), dictA p2 (v_self.goes_to : (List (Str × Str))), dictA p3 (v_self.pile_of : (List (Str × Int))), dictE lstA p4 (v_self.piles : (List (Int × (List Str)))), dictE dictA p5 (v_self.comes_from : (List (Str × (List (Str × Bool))))), F] : List (Asn G)) := hS
      refine sq_nx ?_
      refine f_seq ?_
      refine c_asgS ?_
      refine ev_to (ev_fld (ev_var rfl) (hS.getCell (i := 0) rfl) T.cl_Threads T.n_Threads_made rfl) ?_
      refine ev_to (ev_fld (ev_var rfl) (hS.getCell (i := 0) rfl) T.cl_Threads T.n_Threads_pile_of rfl) ?_
      refine ev_to (ev_var rfl) ?_
      obtain ⟨h7, hm⟩ := R.wp_need hm
      refine k_setD (k := v_name) (y := v_self.made + 1) hS (i := 2) rfl rfl h7 rfl fun H hS => ?_
      have hS : Sep H ([cell a_v_self (.ins (G.cl 8) dx1 [("goes_to", (.ref p2)), ("pile_of", (.ref p3)), ("piles", (.ref p4)), ("comes_from", (.ref p5)), ("made", (.int (v_self.made + 1)))]), dictA p2 (v_self.goes_to : (List (Str × Str))), dictA p3 (dput v_self.pile_of v_name (v_self.made + 1) : (List (Str × Int))), dictE lstA p4 (v_self.piles : (List (Int × (List Str)))), dictE dictA p5 (v_self.comes_from : (List (Str × (List (Str × Bool))))), F] : List (Asn G)) := hS
      refine sq_nx ?_
      refine c_asgS ?_
      refine c_fz ?_
      refine c_lst ?_
      refine ea_to (ea_cons (ev_var rfl) ea_nil) ?_
      refine k_lst (α := Str) (vs := [(.str (v_name))]) (xs := [v_name]) hS ⟨rfl, True.intro⟩ (by show 1 ≤ sizeLine; decide) fun p8 H hS => ?_
      refine fz_no ?_
      refine ev_to (ev_fld (ev_var rfl) (hS.getCell (i := 1) rfl) T.cl_Threads T.n_Threads_piles rfl) ?_
      refine ev_to (ev_fld (ev_var rfl) (hS.getCell (i := 1) rfl) T.cl_Threads T.n_Threads_made rfl) ?_
      obtain ⟨h9, hm⟩ := R.wp_need hm
      obtain ⟨h10, hm⟩ := R.wp_need hm
      refine k_newE' (k := v_self.made + 1) (hS.sel [4, 0, 1, 2, 3, 5, 6] (by decide) rfl : Sep H (dictE lstA p4 (v_self.piles : (List (Int × (List Str)))) :: lstA p8 ([v_name] : (List Str)) :: [cell a_v_self (.ins (G.cl 8) dx1 [("goes_to", (.ref p2)), ("pile_of", (.ref p3)), ("piles", (.ref p4)), ("comes_from", (.ref p5)), ("made", (.int (v_self.made + 1)))]), dictA p2 (v_self.goes_to : (List (Str × Str))), dictA p3 (dput v_self.pile_of v_name (v_self.made + 1) : (List (Str × Int))), dictE dictA p5 (v_self.comes_from : (List (Str × (List (Str × Bool))))), F] : List (Asn G))) h10 h9 fun H hS => ?_
      have hS : Sep H ([dictE lstA p4 (v_self.piles ++ [(v_self.made + 1, [v_name])] : (List (Int × (List Str)))), cell a_v_self (.ins (G.cl 8) dx1 [("goes_to", (.ref p2)), ("pile_of", (.ref p3)), ("piles", (.ref p4)), ("comes_from", (.ref p5)), ("made", (.int (v_self.made + 1)))]), dictA p2 (v_self.goes_to : (List (Str × Str))), dictA p3 (dput v_self.pile_of v_name (v_self.made + 1) : (List (Str × Int))), dictE dictA p5 (v_self.comes_from : (List (Str × (List (Str × Bool))))), F] : List (Asn G)) := hS
      exact nx _ _ _ hm ⟨rfl, hS.sel [1, 2, 3, 0, 4, 5] (by decide) rfl⟩
    ·
      refine st_nx ?_
      exact nx _ _ _ hm ⟨rfl, hS.sel [0, 1, 2, 3, 4, 5] (by decide) rfl⟩
    · obtain ⟨rfl, hS⟩ := hI
      refine sq_nx ?_
      refine c_ret ?_
      obtain ⟨y11, hy11, hm⟩ := wp_dget hm
      obtain ⟨v12, g13, hv14⟩ := dget_some hS (i := 2) rfl hy11
      have hv14 : v12 = (.int (y11)) := hv14
      subst hv14
      refine ev_to (ev_dget (y := y11) hS (i := 2) rfl (ev_fld (ev_var rfl) (hS.getCell (i := 0) rfl) T.cl_Threads T.n_Threads_pile_of rfl) (ev_var rfl) g13) ?_
      have hS : Sep H (ThreadsA a_v_self (⟨v_self.goes_to, s6.1, s6.2.1, v_self.comes_from, s6.2.2⟩ : Threads) :: [F] : List (Asn G)) := pack_Threads (hS.sel [0, 1, 2, 3, 4, 5] (by decide) rfl)
      exact hm _ (hS.sel [0, 1] (by decide) rfl)
def sp_Threads_put_together (G : Gx) : Sp := fun vs H Q E => ∃ (a_v_self : Addr) (v_self : Threads) (v_one : Int) (v_other : Int) (F : Asn G), vs = [.ref a_v_self, (.int (v_one)), (.int (v_other))] ∧ Sep H ([ThreadsA a_v_self v_self, F] : List (Asn G)) ∧ R.wp (m_Threads_put_together v_self v_one v_other) (fun r => ∀ H', Sep H' ([ThreadsA a_v_self r, F] : List (Asn G)) → Q .non H') (fun _ => False)
abbrev N_Threads_put_together : List Str := ["self", "one", "other", "moved", "name"]
theorem sc_Threads_put_together : FnScope N_Threads_put_together ["self", "one", "other"] (defScope s_Threads_put_together) := ⟨rfl, rfl, rfl, by decide +kernel, rfl, by decide +kernel, by decide +kernel⟩
theorem ok_Threads_put_together (T : Txt G mg) : FnOk P w G.K mg base CX0 1 T.a_Threads_put_together T.fd_Threads_put_together ["self", "one", "other"] (sp_Threads_put_together G) := by
  have nd := sc_Threads_put_together.nd
  refine Fun.ok T.F_Threads_put_together sc_Threads_put_together (fun vs H Q E h => ?_) (fun cdv A outer s H vs Q E hr h => ?_)
  · obtain ⟨a_v_self, v_self, v_one, v_other, F, rfl, _⟩ := h; rfl
  · obtain ⟨a_v_self, v_self, v_one, v_other, F, rfl, hS, hm⟩ := h
    refine ⟨_, (pss_cons (ps_if (pt_cmpR op_eq (pv 1) (pv 2) (nomark _)) (pss_one ps_retN) pss_nil)
      (pss_cons (ps_if (pt_cmpR op_lt (pe_callB (lenSqK G.K) (by rfl) T.z_len PySem.boot_len (pa_cons (pe_fz (pe_dget (hu_of hr) (pe_fld (pv 0) rfl) (pv 1) (fun _ _ => rfl))) pa_nil)) (pe_callB (lenSqK G.K) (by rfl) T.z_len PySem.boot_len (pa_cons (pe_fz (pe_dget (hu_of hr) (pe_fld (pv 0) rfl) (pv 2) (fun _ _ => rfl))) pa_nil)) (nomark _)) (pss_one (ps_par (i := 1) (j := 2) rfl nd rfl rfl (by decide) rfl rfl (pa_cons (pv 2) (pa_cons (pv 1) pa_nil)) rfl)) pss_nil)
      (pss_cons (ps_set (i := 3) nd rfl (Or.inl rfl) (pe_fz (pe_dpop1 (pe_fld (pv 0) rfl) (pv 2) m1)))
      (pss_cons (ps_for PassesOwn.never rfl (pi_listK G.K (pe_fz (pv 3))) (pg_name (i := 4) nd rfl (Or.inl rfl)) (pss_one (ps_asg (pv 1) (pg_sub (pe_fld (pv 0) rfl) (pv 4) (set_dict (hu_of hr))))))
      (pss_one (ps_daug (hu_of hr) (pe_fld (pv 0) rfl) (pv 1) (pe_fz (pv 3)) iop_ext (fun _ _ _ => rfl))))))), ?_⟩
    unfold m_Threads_put_together at hm
    have hS : Sep H (ThreadsA a_v_self v_self :: [F] : List (Asn G)) := hS.sel [0, 1] (by decide) rfl
    obtain ⟨dx1, p2, p3, p4, p5, hS⟩ := open_Threads hS
    have hS : Sep H ([cell a_v_self (.ins (G.cl 8) dx1 [("goes_to", (.ref p2)), ("pile_of", (.ref p3)), ("piles", (.ref p4)), ("comes_from", (.ref p5)), ("made", (.int (v_self.made)))]), dictA p2 (v_self.goes_to : (List (Str × Str))), dictA p3 (v_self.pile_of : (List (Str × Int))), dictE lstA p4 (v_self.piles : (List (Int × (List Str)))), dictE dictA p5 (v_self.comes_from : (List (Str × (List (Str × Bool))))), F] : List (Asn G)) := hS
    refine f_seq ?_
    refine f_if ?_
    refine et_to (et_test (ev_eqI (ev_var rfl) (ev_var rfl))) ?_
    refine ifK_2 (fun hb6 => ?_) (fun hb6 => ?_)
    · have hm := R.wp_ifY hm hb6
      refine c_retN ?_
      have hS : Sep H (ThreadsA a_v_self v_self :: [F] : List (Asn G)) := pack_Threads (hS.sel [0, 1, 2, 3, 4, 5] (by decide) rfl)
      exact hm _ (hS.sel [0, 1] (by decide) rfl)
    · have hm := R.wp_ifN hm (by first | (rw [hb6]; decide) | simpa using hb6)
      refine st_nx ?_
      refine sq_nx ?_
      refine f_seq ?_
      refine f_if ?_
      refine f_test ?_
      refine c_op ?_
      refine c_cb ?_
      refine c_cons ?_
      refine c_fz ?_
      refine c_dget ?_
      refine ev_to (ev_fld (ev_var rfl) (hS.getCell (i := 0) rfl) T.cl_Threads T.n_Threads_piles rfl) ?_
      refine k_dget1 ?_
      refine ev_to (ev_var rfl) ?_
      obtain ⟨x7, h8, hm⟩ := wp_dgetX hm
      refine k_dgetE (y := (x7 : (List Str))) (hS.sel [3, 0, 1, 2, 4, 5] (by decide) rfl : Sep _ (dictE lstA p4 (v_self.piles : (List (Int × (List Str)))) :: [cell a_v_self (.ins (G.cl 8) dx1 [("goes_to", (.ref p2)), ("pile_of", (.ref p3)), ("piles", (.ref p4)), ("comes_from", (.ref p5)), ("made", (.int (v_self.made)))]), dictA p2 (v_self.goes_to : (List (Str × Str))), dictA p3 (v_self.pile_of : (List (Str × Int))), dictE dictA p5 (v_self.comes_from : (List (Str × (List (Str × Bool))))), F] : List (Asn G))) h8 fun ps9 p10 j11 hl12 hj13 hp14 hS => ?_
      have hS : Sep H ([lstA p10 (x7 : (List Str)), dictXH id lstA p4 ps9 (v_self.piles : (List (Int × (List Str)))) j11, cell a_v_self (.ins (G.cl 8) dx1 [("goes_to", (.ref p2)), ("pile_of", (.ref p3)), ("piles", (.ref p4)), ("comes_from", (.ref p5)), ("made", (.int (v_self.made)))]), dictA p2 (v_self.goes_to : (List (Str × Str))), dictA p3 (v_self.pile_of : (List (Str × Int))), dictE dictA p5 (v_self.comes_from : (List (Str × (List (Str × Bool))))), F] : List (Asn G)) := hS
      refine fz_no ?_
      refine c_nil ?_
      refine k_lenG (hS.sq (i := 0) rfl) ?_
      have hS : Sep H ([dictE lstA p4 (v_self.piles : (List (Int × (List Str)))), cell a_v_self (.ins (G.cl 8) dx1 [("goes_to", (.ref p2)), ("pile_of", (.ref p3)), ("piles", (.ref p4)), ("comes_from", (.ref p5)), ("made", (.int (v_self.made)))]), dictA p2 (v_self.goes_to : (List (Str × Str))), dictA p3 (v_self.pile_of : (List (Str × Int))), dictE dictA p5 (v_self.comes_from : (List (Str × (List (Str × Bool))))), F] : List (Asn G)) := unfocDE0 hl12 hj13 hp14 (hS.sel [0, 1, 2, 3, 4, 5, 6] (by decide) rfl)
      refine c_cb ?_
      refine c_cons ?_
      refine c_fz ?_
      refine c_dget ?_
      refine ev_to (ev_fld (ev_var rfl) (hS.getCell (i := 1) rfl) T.cl_Threads T.n_Threads_piles rfl) ?_
      refine k_dget1 ?_
      refine ev_to (ev_var rfl) ?_
      obtain ⟨x15, h16, hm⟩ := wp_dgetX hm
      refine k_dgetE (y := (x15 : (List Str))) (hS.sel [0, 1, 2, 3, 4, 5] (by decide) rfl : Sep _ (dictE lstA p4 (v_self.piles : (List (Int × (List Str)))) :: [cell a_v_self (.ins (G.cl 8) dx1 [("goes_to", (.ref p2)), ("pile_of", (.ref p3)), ("piles", (.ref p4)), ("comes_from", (.ref p5)), ("made", (.int (v_self.made)))]), dictA p2 (v_self.goes_to : (List (Str × Str))), dictA p3 (v_self.pile_of : (List (Str × Int))), dictE dictA p5 (v_self.comes_from : (List (Str × (List (Str × Bool))))), F] : List (Asn G))) h16 fun ps17 p18 j19 hl20 hj21 hp22 hS => ?_
      have hS : Sep H ([lstA p18 (x15 : (List Str)), dictXH id lstA p4 ps17 (v_self.piles : (List (Int × (List Str)))) j19, cell a_v_self (.ins (G.cl 8) dx1 [("goes_to", (.ref p2)), ("pile_of", (.ref p3)), ("piles", (.ref p4)), ("comes_from", (.ref p5)), ("made", (.int (v_self.made)))]), dictA p2 (v_self.goes_to : (List (Str × Str))), dictA p3 (v_self.pile_of : (List (Str × Int))), dictE dictA p5 (v_self.comes_from : (List (Str × (List (Str × Bool))))), F] : List (Asn G)) := hS
      refine fz_no ?_
      refine c_nil ?_
      refine k_lenG (hS.sq (i := 0) rfl) ?_
      have hS : Sep H ([dictE lstA p4 (v_self.piles : (List (Int × (List Str)))), cell a_v_self (.ins (G.cl 8) dx1 [("goes_to", (.ref p2)), ("pile_of", (.ref p3)), ("piles", (.ref p4)), ("comes_from", (.ref p5)), ("made", (.int (v_self.made)))]), dictA p2 (v_self.goes_to : (List (Str × Str))), dictA p3 (v_self.pile_of : (List (Str × Int))), dictE dictA p5 (v_self.comes_from : (List (Str × (List (Str × Bool))))), F] : List (Asn G)) := unfocDE0 hl20 hj21 hp22 (hS.sel [0, 1, 2, 3, 4, 5, 6] (by decide) rfl)
      refine ev_op2 (ev_i0 ev_c ev_c) ?_
      refine f_bl ?_
      refine ifK_J (τ := Int × Int) (fun (s23 : Int × Int) (σ : L2.St) (H : Hp) => σ = [some (.ref a_v_self), some (.int (s23.1)), some (.int (s23.2)), none, none] ∧ Sep H ([dictE lstA p4 (v_self.piles : (List (Int × (List Str)))), cell a_v_self (.ins (G.cl 8) dx1 [("goes_to", (.ref p2)), ("pile_of", (.ref p3)), ("piles", (.ref p4)), ("comes_from", (.ref p5)), ("made", (.int (v_self.made)))]), dictA p2 (v_self.goes_to : (List (Str × Str))), dictA p3 (v_self.pile_of : (List (Str × Int))), dictE dictA p5 (v_self.comes_from : (List (Str × (List (Str × Bool))))), F] : List (Asn G))) hm (fun hb q hm nx => ?_) (fun hb q hm nx => ?_) (fun s23 σ H hm hI => ?_)
      ·
        refine ea_to (ea_cons (ev_var rfl) (ea_cons (ev_var rfl) ea_nil)) ?_
        refine ⟨_, _, rfl, ?_⟩
        refine c_set (σ' := [some (.ref a_v_self), some (.int (v_other)), some (.int (v_one)), none, none]) rfl ?_
        exact nx _ _ _ hm ⟨rfl, hS.sel [0, 1, 2, 3, 4, 5] (by decide) rfl⟩
      ·
        refine st_nx ?_
        exact nx _ _ _ hm ⟨rfl, hS.sel [0, 1, 2, 3, 4, 5] (by decide) rfl⟩
      · obtain ⟨rfl, hS⟩ := hI
        refine sq_nx ?_
        refine f_seq ?_
        refine c_asg ?_
        refine c_fz ?_
        refine c_dpop1 ?_
        refine ev_to (ev_fld (ev_var rfl) (hS.getCell (i := 1) rfl) T.cl_Threads T.n_Threads_piles rfl) ?_
        refine k_pop1a (isD_Ei hS (i := 0) rfl) ?_
        refine ev_to (ev_var rfl) ?_
        obtain ⟨y24, hy24, hm⟩ := wp_dgetX hm
        refine k_pop1E (hS.sel [0, 1, 2, 3, 4, 5] (by decide) rfl : Sep _ (dictE lstA p4 (v_self.piles : (List (Int × (List Str)))) :: [cell a_v_self (.ins (G.cl 8) dx1 [("goes_to", (.ref p2)), ("pile_of", (.ref p3)), ("piles", (.ref p4)), ("comes_from", (.ref p5)), ("made", (.int (v_self.made)))]), dictA p2 (v_self.goes_to : (List (Str × Str))), dictA p3 (v_self.pile_of : (List (Str × Int))), dictE dictA p5 (v_self.comes_from : (List (Str × (List (Str × Bool))))), F] : List (Asn G))) hy24 fun v25 H hS => ?_
        have hS : Sep H ([lstA v25 (y24 : (List Str)), dictE lstA p4 (ddrop v_self.piles s23.2 : (List (Int × (List Str)))), cell a_v_self (.ins (G.cl 8) dx1 [("goes_to", (.ref p2)), ("pile_of", (.ref p3)), ("piles", (.ref p4)), ("comes_from", (.ref p5)), ("made", (.int (v_self.made)))]), dictA p2 (v_self.goes_to : (List (Str × Str))), dictA p3 (v_self.pile_of : (List (Str × Int))), dictE dictA p5 (v_self.comes_from : (List (Str × (List (Str × Bool))))), F] : List (Asn G)) := hS
        refine fz_no ?_
        refine c_set (σ' := [some (.ref a_v_self), some (.int (s23.1)), some (.int (s23.2)), some (.ref v25), none]) rfl ?_
        refine sq_nx ?_
        refine f_seq ?_
        refine c_for ?_
        refine c_il ?_
        refine ev_to (ev_fz (ev_var rfl)) ?_
        refine k_il hS (i := 0) rfl ?_
        refine k_for (τ := (List (Str × Int))) (fun (s26 : (List (Str × Int))) (σ : L2.St) (H : Hp) => ∃ (w29 : Option V), σ = [some (.ref a_v_self), some (.int (s23.1)), some (.int (s23.2)), some (.ref v25), w29] ∧ Sep H ([lstA v25 (y24 : (List Str)), dictE lstA p4 (ddrop v_self.piles s23.2 : (List (Int × (List Str)))), cell a_v_self (.ins (G.cl 8) dx1 [("goes_to", (.ref p2)), ("pile_of", (.ref p3)), ("piles", (.ref p4)), ("comes_from", (.ref p5)), ("made", (.int (v_self.made)))]), dictA p2 (v_self.goes_to : (List (Str × Str))), dictA p3 (s26 : (List (Str × Int))), dictE dictA p5 (v_self.comes_from : (List (Str × (List (Str × Bool))))), F] : List (Asn G))) (im := (Im.im G)) (s := (v_self.pile_of)) (fun _ => wk_list fun _ _ ⟨_, _, h⟩ => h.sq (i := 0) rfl) ⟨_, rfl, hS.sel [0, 1, 2, 3, 4, 5, 6] (by decide) rfl⟩ hm (fun s26 x27 v28 σ H q N hI hx hm nx => ?_) (fun s26 σ H hm hI => ?_)
        ·
          obtain ⟨w29, rfl, hS⟩ := hI
          cases hx
          refine c_gN (σ' := [some (.ref a_v_self), some (.int (s23.1)), some (.int (s23.2)), some (.ref v25), some (.str (x27))]) rfl ?_
          refine c_asgS ?_
          refine ev_to (ev_var rfl) ?_
          refine ev_to (ev_fld (ev_var rfl) (hS.getCell (i := 2) rfl) T.cl_Threads T.n_Threads_pile_of rfl) ?_
          refine ev_to (ev_var rfl) ?_
          obtain ⟨h30, hm⟩ := R.wp_need hm
          refine k_setD (k := x27) (y := s23.1) hS (i := 4) rfl rfl h30 rfl fun H hS => ?_
          have hS : Sep H ([lstA v25 (y24 : (List Str)), dictE lstA p4 (ddrop v_self.piles s23.2 : (List (Int × (List Str)))), cell a_v_self (.ins (G.cl 8) dx1 [("goes_to", (.ref p2)), ("pile_of", (.ref p3)), ("piles", (.ref p4)), ("comes_from", (.ref p5)), ("made", (.int (v_self.made)))]), dictA p2 (v_self.goes_to : (List (Str × Str))), dictA p3 (dput s26 x27 s23.1 : (List (Str × Int))), dictE dictA p5 (v_self.comes_from : (List (Str × (List (Str × Bool))))), F] : List (Asn G)) := hS
          exact nx _ _ _ hm ⟨_, rfl, hS.sel [0, 1, 2, 3, 4, 5, 6] (by decide) rfl⟩
        · obtain ⟨w29, rfl, hS⟩ := hI
          refine sq_nx ?_
          obtain ⟨y31, hy31, hm⟩ := wp_dgetX hm
          obtain ⟨h32, hm⟩ := R.wp_need hm
          obtain ⟨h33, hm⟩ := R.wp_need hm
          refine k_daugE (k := s23.1) (hS.sel [1, 0, 2, 3, 4, 5, 6] (by decide) rfl : Sep _ (dictE lstA p4 (ddrop v_self.piles s23.2 : (List (Int × (List Str)))) :: lstA v25 (y24 : (List Str)) :: [cell a_v_self (.ins (G.cl 8) dx1 [("goes_to", (.ref p2)), ("pile_of", (.ref p3)), ("piles", (.ref p4)), ("comes_from", (.ref p5)), ("made", (.int (v_self.made)))]), dictA p2 (v_self.goes_to : (List (Str × Str))), dictA p3 (s26 : (List (Str × Int))), dictE dictA p5 (v_self.comes_from : (List (Str × (List (Str × Bool))))), F] : List (Asn G))) (ev_fld (ev_var rfl) (hS.getCell (i := 2) rfl) T.cl_Threads T.n_Threads_piles rfl) (ev_var rfl) (ev_fz (ev_var rfl)) hy31 h32 h33 fun H hS => ?_
          have hS : Sep H ([dictE lstA p4 (dput (ddrop v_self.piles s23.2) s23.1 (y31 ++ y24) : (List (Int × (List Str)))), lstA v25 (y24 : (List Str)), cell a_v_self (.ins (G.cl 8) dx1 [("goes_to", (.ref p2)), ("pile_of", (.ref p3)), ("piles", (.ref p4)), ("comes_from", (.ref p5)), ("made", (.int (v_self.made)))]), dictA p2 (v_self.goes_to : (List (Str × Str))), dictA p3 (s26 : (List (Str × Int))), dictE dictA p5 (v_self.comes_from : (List (Str × (List (Str × Bool))))), F] : List (Asn G)) := hS
          have hS : Sep H (ThreadsA a_v_self (⟨v_self.goes_to, s26, dput (ddrop v_self.piles s23.2) s23.1 (y31 ++ y24), v_self.comes_from, v_self.made⟩ : Threads) :: [lstA v25 (y24 : (List Str)), F] : List (Asn G)) := pack_Threads (hS.sel [2, 3, 4, 0, 5, 1, 6] (by decide) rfl)
          exact hm _ (hS.sel [0, 2] (by decide) rfl)
def sp_Threads_hang (G : Gx) : Sp := fun vs H Q E => ∃ (a_v_self : Addr) (v_self : Threads) (v_name : Str) (F : Asn G), vs = [.ref a_v_self, (.str (v_name))] ∧ Sep H ([ThreadsA a_v_self v_self, F] : List (Asn G)) ∧ R.wp (m_Threads_hang v_self v_name) (fun r => ∀ H', Sep H' ([ThreadsA a_v_self r, F] : List (Asn G)) → Q .non H') (fun _ => False)
abbrev N_Threads_hang : List Str := ["self", "name", "here"]
theorem sc_Threads_hang : FnScope N_Threads_hang ["self", "name"] (defScope s_Threads_hang) := ⟨rfl, rfl, rfl, by decide +kernel, rfl, by decide +kernel, by decide +kernel⟩
theorem ok_Threads_hang (T : Txt G mg) : FnOk P w G.K mg base CX0 2 T.a_Threads_hang T.fd_Threads_hang ["self", "name"] (sp_Threads_hang G) := by
  have nd := sc_Threads_hang.nd
  refine Fun.ok T.F_Threads_hang sc_Threads_hang (fun vs H Q E h => ?_) (fun cdv A outer s H vs Q E hr h => ?_)
  · obtain ⟨a_v_self, v_self, v_name, F, rfl, _⟩ := h; rfl
  · obtain ⟨a_v_self, v_self, v_name, F, rfl, hS, hm⟩ := h
    refine ⟨_, (pss_cons (ps_set (i := 2) nd rfl (Or.inl rfl) (pe_meth (pv 0) T.cl_Threads T.m_Threads_pile (ok_Threads_pile T) (hr.mono (by decide)) T.b_Threads_pile .nil pass0 (pa_cons (pv 1) pa_nil)))
      (pss_one (ps_if (pt_cmpR op_ne (pe_dget (hu_of hr) (pe_fld (pv 0) rfl) (pv 1) (fun _ _ => rfl)) pe_str (nomark _)) (pss_one (ps_expr (pe_meth (pv 0) T.cl_Threads T.m_Threads_put_together (ok_Threads_put_together T) (hr.mono (by decide)) T.b_Threads_put_together .nil pass0 (pa_cons (pv 2) (pa_cons (pe_meth (pv 0) T.cl_Threads T.m_Threads_pile (ok_Threads_pile T) (hr.mono (by decide)) T.b_Threads_pile .nil pass0 (pa_cons (pe_dget (hu_of hr) (pe_fld (pv 0) rfl) (pv 1) (fun _ _ => rfl)) pa_nil)) pa_nil))))) pss_nil))), ?_⟩
    unfold m_Threads_hang at hm
    have hS : Sep H (ThreadsA a_v_self v_self :: [F] : List (Asn G)) := hS.sel [0, 1] (by decide) rfl
    obtain ⟨dx1, p2, p3, p4, p5, hS⟩ := open_Threads hS
    have hS : Sep H ([cell a_v_self (.ins (G.cl 8) dx1 [("goes_to", (.ref p2)), ("pile_of", (.ref p3)), ("piles", (.ref p4)), ("comes_from", (.ref p5)), ("made", (.int (v_self.made)))]), dictA p2 (v_self.goes_to : (List (Str × Str))), dictA p3 (v_self.pile_of : (List (Str × Int))), dictE lstA p4 (v_self.piles : (List (Int × (List Str)))), dictE dictA p5 (v_self.comes_from : (List (Str × (List (Str × Bool))))), F] : List (Asn G)) := hS
    refine f_seq ?_
    refine c_asg ?_
    refine c_meth ?_
    refine ev_to (ev_var rfl) ?_
    refine ⟨_, _, _, rfl, (hS.getCell (i := 0) rfl), rfl, ?_⟩
    refine ea_to (ea_cons (ev_var rfl) ea_nil) ?_
    have hS : Sep H (ThreadsA a_v_self v_self :: [F] : List (Asn G)) := pack_Threads (hS.sel [0, 1, 2, 3, 4, 5] (by decide) rfl)
    refine ⟨a_v_self, (v_self : Threads), v_name, star [F], rfl, Sep.unstar (M := [ThreadsA a_v_self v_self]) (hS.sel [0, 1] (by decide) rfl : Sep H (([ThreadsA a_v_self v_self] ++ [F] : List (Asn G)))), R.wp_mono (R.wp_bind hm) (fun r6 hm H hS => ?_) (fun _ z => z)⟩
    have hS : Sep H ([ThreadsA a_v_self r6.2, F] : List (Asn G)) := Sep.star (M := [ThreadsA a_v_self r6.2]) hS
    have hS : Sep H (ThreadsA a_v_self r6.2 :: [F] : List (Asn G)) := hS.sel [0, 1] (by decide) rfl
    obtain ⟨dx7, p8, p9, p10, p11, hS⟩ := open_Threads hS
    have hS : Sep H ([cell a_v_self (.ins (G.cl 8) dx7 [("goes_to", (.ref p8)), ("pile_of", (.ref p9)), ("piles", (.ref p10)), ("comes_from", (.ref p11)), ("made", (.int (r6.2.made)))]), dictA p8 (r6.2.goes_to : (List (Str × Str))), dictA p9 (r6.2.pile_of : (List (Str × Int))), dictE lstA p10 (r6.2.piles : (List (Int × (List Str)))), dictE dictA p11 (r6.2.comes_from : (List (Str × (List (Str × Bool))))), F] : List (Asn G)) := hS
    refine c_set (σ' := [some (.ref a_v_self), some (.str (v_name)), some (.int (r6.1))]) rfl ?_
    refine sq_nx ?_
    refine f_if ?_
    obtain ⟨y12, hy12, hm⟩ := wp_dget hm
    obtain ⟨v13, g14, hv15⟩ := dget_some hS (i := 1) rfl hy12
    have hv15 : v13 = (.str (y12)) := hv15
    subst hv15
    refine et_to (et_test (ev_neS (ev_dget (y := y12) hS (i := 1) rfl (ev_fld (ev_var rfl) (hS.getCell (i := 0) rfl) T.cl_Threads T.n_Threads_goes_to rfl) (ev_var rfl) g14) ev_c)) ?_
    have hS : Sep H (ThreadsA a_v_self r6.2 :: [F] : List (Asn G)) := pack_Threads (hS.sel [0, 1, 2, 3, 4, 5] (by decide) rfl)
    refine ifK_J (τ := Threads) (fun (s16 : Threads) (σ : L2.St) (H : Hp) => σ = [some (.ref a_v_self), some (.str (v_name)), some (.int (r6.1))] ∧ Sep H ([ThreadsA a_v_self s16, F] : List (Asn G))) hm (fun hb q hm nx => ?_) (fun hb q hm nx => ?_) (fun s16 σ H hm hI => ?_)
    ·
      have hS : Sep H (ThreadsA a_v_self r6.2 :: [F] : List (Asn G)) := hS.sel [0, 1] (by decide) rfl
      obtain ⟨dx17, p18, p19, p20, p21, hS⟩ := open_Threads hS
      have hS : Sep H ([cell a_v_self (.ins (G.cl 8) dx17 [("goes_to", (.ref p18)), ("pile_of", (.ref p19)), ("piles", (.ref p20)), ("comes_from", (.ref p21)), ("made", (.int (r6.2.made)))]), dictA p18 (r6.2.goes_to : (List (Str × Str))), dictA p19 (r6.2.pile_of : (List (Str × Int))), dictE lstA p20 (r6.2.piles : (List (Int × (List Str)))), dictE dictA p21 (r6.2.comes_from : (List (Str × (List (Str × Bool))))), F] : List (Asn G)) := hS
      refine c_drop ?_
      refine c_meth ?_
      refine ev_to (ev_var rfl) ?_
      refine ⟨_, _, _, rfl, (hS.getCell (i := 0) rfl), rfl, ?_⟩
      refine c_cons ?_
      refine ev_to (ev_var rfl) ?_
      refine c_cons ?_
      refine c_meth ?_
      refine ev_to (ev_var rfl) ?_
      refine ⟨_, _, _, rfl, (hS.getCell (i := 0) rfl), rfl, ?_⟩
      obtain ⟨y22, hy22, hm⟩ := wp_dget hm
      obtain ⟨v23, g24, hv25⟩ := dget_some hS (i := 1) rfl hy22
      have hv25 : v23 = (.str (y22)) := hv25
      subst hv25
      refine ea_to (ea_cons (ev_dget (y := y22) hS (i := 1) rfl (ev_fld (ev_var rfl) (hS.getCell (i := 0) rfl) T.cl_Threads T.n_Threads_goes_to rfl) (ev_var rfl) g24) ea_nil) ?_
      have hS : Sep H (ThreadsA a_v_self r6.2 :: [F] : List (Asn G)) := pack_Threads (hS.sel [0, 1, 2, 3, 4, 5] (by decide) rfl)
      refine ⟨a_v_self, (r6.2 : Threads), y22, star [F], rfl, Sep.unstar (M := [ThreadsA a_v_self r6.2]) (hS.sel [0, 1] (by decide) rfl : Sep H (([ThreadsA a_v_self r6.2] ++ [F] : List (Asn G)))), R.wp_mono (R.wp_bind hm) (fun r26 hm H hS => ?_) (fun _ z => z)⟩
      have hS : Sep H ([ThreadsA a_v_self r26.2, F] : List (Asn G)) := Sep.star (M := [ThreadsA a_v_self r26.2]) hS
      have hS : Sep H (ThreadsA a_v_self r26.2 :: [F] : List (Asn G)) := hS.sel [0, 1] (by decide) rfl
      obtain ⟨dx27, p28, p29, p30, p31, hS⟩ := open_Threads hS
      have hS : Sep H ([cell a_v_self (.ins (G.cl 8) dx27 [("goes_to", (.ref p28)), ("pile_of", (.ref p29)), ("piles", (.ref p30)), ("comes_from", (.ref p31)), ("made", (.int (r26.2.made)))]), dictA p28 (r26.2.goes_to : (List (Str × Str))), dictA p29 (r26.2.pile_of : (List (Str × Int))), dictE lstA p30 (r26.2.piles : (List (Int × (List Str)))), dictE dictA p31 (r26.2.comes_from : (List (Str × (List (Str × Bool))))), F] : List (Asn G)) := hS
      refine c_nil ?_
      have hS : Sep H (ThreadsA a_v_self r26.2 :: [F] : List (Asn G)) := pack_Threads (hS.sel [0, 1, 2, 3, 4, 5] (by decide) rfl)
      refine ⟨a_v_self, (r26.2 : Threads), r6.1, r26.1, star [F], rfl, Sep.unstar (M := [ThreadsA a_v_self r26.2]) (hS.sel [0, 1] (by decide) rfl : Sep H (([ThreadsA a_v_self r26.2] ++ [F] : List (Asn G)))), R.wp_mono (R.wp_bind hm) (fun r32 hm H hS => ?_) (fun _ z => z)⟩
      have hS : Sep H ([ThreadsA a_v_self r32, F] : List (Asn G)) := Sep.star (M := [ThreadsA a_v_self r32]) hS
      have hS : Sep H (ThreadsA a_v_self r32 :: [F] : List (Asn G)) := hS.sel [0, 1] (by decide) rfl
      obtain ⟨dx33, p34, p35, p36, p37, hS⟩ := open_Threads hS
      have hS : Sep H ([cell a_v_self (.ins (G.cl 8) dx33 [("goes_to", (.ref p34)), ("pile_of", (.ref p35)), ("piles", (.ref p36)), ("comes_from", (.ref p37)), ("made", (.int (r32.made)))]), dictA p34 (r32.goes_to : (List (Str × Str))), dictA p35 (r32.pile_of : (List (Str × Int))), dictE lstA p36 (r32.piles : (List (Int × (List Str)))), dictE dictA p37 (r32.comes_from : (List (Str × (List (Str × Bool))))), F] : List (Asn G)) := hS
      have hS : Sep H (ThreadsA a_v_self r32 :: [F] : List (Asn G)) := pack_Threads (hS.sel [0, 1, 2, 3, 4, 5] (by decide) rfl)
      exact nx _ _ _ hm ⟨rfl, hS.sel [0, 1] (by decide) rfl⟩
    ·
      have hS : Sep H (ThreadsA a_v_self r6.2 :: [F] : List (Asn G)) := hS.sel [0, 1] (by decide) rfl
      obtain ⟨dx38, p39, p40, p41, p42, hS⟩ := open_Threads hS
      have hS : Sep H ([cell a_v_self (.ins (G.cl 8) dx38 [("goes_to", (.ref p39)), ("pile_of", (.ref p40)), ("piles", (.ref p41)), ("comes_from", (.ref p42)), ("made", (.int (r6.2.made)))]), dictA p39 (r6.2.goes_to : (List (Str × Str))), dictA p40 (r6.2.pile_of : (List (Str × Int))), dictE lstA p41 (r6.2.piles : (List (Int × (List Str)))), dictE dictA p42 (r6.2.comes_from : (List (Str × (List (Str × Bool))))), F] : List (Asn G)) := hS
      refine st_nx ?_
      have hS : Sep H (ThreadsA a_v_self r6.2 :: [F] : List (Asn G)) := pack_Threads (hS.sel [0, 1, 2, 3, 4, 5] (by decide) rfl)
      exact nx _ _ _ hm ⟨rfl, hS.sel [0, 1] (by decide) rfl⟩
    · obtain ⟨rfl, hS⟩ := hI
      have hS : Sep H (ThreadsA a_v_self s16 :: [F] : List (Asn G)) := hS.sel [0, 1] (by decide) rfl
      obtain ⟨dx43, p44, p45, p46, p47, hS⟩ := open_Threads hS
      have hS : Sep H ([cell a_v_self (.ins (G.cl 8) dx43 [("goes_to", (.ref p44)), ("pile_of", (.ref p45)), ("piles", (.ref p46)), ("comes_from", (.ref p47)), ("made", (.int (s16.made)))]), dictA p44 (s16.goes_to : (List (Str × Str))), dictA p45 (s16.pile_of : (List (Str × Int))), dictE lstA p46 (s16.piles : (List (Int × (List Str)))), dictE dictA p47 (s16.comes_from : (List (Str × (List (Str × Bool))))), F] : List (Asn G)) := hS
      have hS : Sep H (ThreadsA a_v_self s16 :: [F] : List (Asn G)) := pack_Threads (hS.sel [0, 1, 2, 3, 4, 5] (by decide) rfl)
      exact hm _ (hS.sel [0, 1] (by decide) rfl)
def sp_Threads_sure (G : Gx) : Sp := fun vs H Q E => ∃ (a_v_self : Addr) (v_self : Threads) (v_name : Str) (F : Asn G), vs = [.ref a_v_self, (.str (v_name))] ∧ Sep H ([ThreadsA a_v_self v_self, F] : List (Asn G)) ∧ R.wp (m_Threads_sure v_self v_name) (fun r => ∀ H', Sep H' ([ThreadsA a_v_self v_self, F] : List (Asn G)) → Q .non H') (fun x => ∀ H', Sep H' ([ThreadsA a_v_self v_self, F] : List (Asn G)) → Eok G x E H')
abbrev N_Threads_sure : List Str := ["self", "name"]
theorem sc_Threads_sure : FnScope N_Threads_sure ["self", "name"] (defScope s_Threads_sure) := ⟨rfl, rfl, rfl, by decide +kernel, rfl, by decide +kernel, by decide +kernel⟩
theorem ok_Threads_sure (T : Txt G mg) : FnOk P w G.K mg base (L2.CX P w) 1 T.a_Threads_sure T.fd_Threads_sure ["self", "name"] (sp_Threads_sure G) := by
  have nd := sc_Threads_sure.nd
  refine Fun.okX T.F_Threads_sure sc_Threads_sure (fun vs H Q E h => ?_) (fun cdv A outer s H vs Q E hr h => ?_)
  · obtain ⟨a_v_self, v_self, v_name, F, rfl, _⟩ := h; rfl
  · obtain ⟨a_v_self, v_self, v_name, F, rfl, hS, hm⟩ := h
    refine ⟨_, (pss_one (ps_if (pt_cmp (pc_dnotin (hu_of hr) (pv 1) (pe_fld (pv 0) rfl))) (pss_one (ps_raise rfl (takes_of rfl rfl rfl rfl) (SkE.pmk_own1 PySem.F.excBase_ValueError T.x_NoName T.g_NoName T.kp_NoName (T.r_NoName rfl) rfl (pe_joined (.cons (pe_fmt (pv 1)) (.cons pe_str .nil)))))) pss_nil)), ?_⟩
    unfold m_Threads_sure at hm
    have hS : Sep H (ThreadsA a_v_self v_self :: [F] : List (Asn G)) := hS.sel [0, 1] (by decide) rfl
    obtain ⟨dx1, p2, p3, p4, p5, hS⟩ := open_Threads hS
    have hS : Sep H ([cell a_v_self (.ins (G.cl 8) dx1 [("goes_to", (.ref p2)), ("pile_of", (.ref p3)), ("piles", (.ref p4)), ("comes_from", (.ref p5)), ("made", (.int (v_self.made)))]), dictA p2 (v_self.goes_to : (List (Str × Str))), dictA p3 (v_self.pile_of : (List (Str × Int))), dictE lstA p4 (v_self.piles : (List (Int × (List Str)))), dictE dictA p5 (v_self.comes_from : (List (Str × (List (Str × Bool))))), F] : List (Asn G)) := hS
    refine f_if ?_
    refine et_to (et_B (ev_dnotin hS (i := 1) (k := v_name) rfl (ev_var rfl) (ev_fld (ev_var rfl) (hS.getCell (i := 0) rfl) T.cl_Threads T.n_Threads_goes_to rfl))) ?_
    refine ifK_2 (fun hb6 => ?_) (fun hb6 => ?_)
    · have hm := R.wp_ifY hm hb6
      obtain ⟨h7, hm⟩ := R.wp_need hm
      obtain ⟨h8, hm⟩ := R.wp_need hm
      refine f_fs (ev_var rfl) h7 h8 ?_
      revert hm; refine R.need_rev fun h9 hm => ?_
      refine f_fc ev_c h9 ?_
      refine f_je ?_
      have hS : Sep H (ThreadsA a_v_self v_self :: [F] : List (Asn G)) := pack_Threads (hS.sel [0, 1, 2, 3, 4, 5] (by decide) rfl)
      exact hm _ (hS.sel [0, 1] (by decide) rfl)
    · have hm := R.wp_ifN hm (by first | (rw [hb6]; decide) | simpa using hb6)
      refine st_nx ?_
      have hS : Sep H (ThreadsA a_v_self v_self :: [F] : List (Asn G)) := pack_Threads (hS.sel [0, 1, 2, 3, 4, 5] (by decide) rfl)
      exact hm _ (hS.sel [0, 1] (by decide) rfl)
def sp_Threads_sure_A (G : Gx) : Sp := fun vs H Q E => ∃ (a_v_self : Addr) (v_self : Threads) (a_v_name : V) (v_name : Any) (F : Asn G), vs = [.ref a_v_self, a_v_name] ∧ Im.im G H a_v_name v_name ∧ Sep H ([ThreadsA a_v_self v_self, F] : List (Asn G)) ∧ R.wp (m_Threads_sure_A v_self v_name) (fun r => ∀ H', Sep H' ([ThreadsA a_v_self v_self, F] : List (Asn G)) → Q .non H') (fun x => ∀ H', Sep H' ([ThreadsA a_v_self v_self, F] : List (Asn G)) → Eok G x E H')
abbrev N_Threads_sure_A : List Str := ["self", "name"]
theorem sc_Threads_sure_A : FnScope N_Threads_sure_A ["self", "name"] (defScope s_Threads_sure) := ⟨rfl, rfl, rfl, by decide +kernel, rfl, by decide +kernel, by decide +kernel⟩
theorem ok_Threads_sure_A (T : Txt G mg) : FnOk P w G.K mg base (L2.CX P w) 1 T.a_Threads_sure T.fd_Threads_sure ["self", "name"] (sp_Threads_sure_A G) := by
  have nd := sc_Threads_sure_A.nd
  refine Fun.okX T.F_Threads_sure sc_Threads_sure_A (fun vs H Q E h => ?_) (fun cdv A outer s H vs Q E hr h => ?_)
  · obtain ⟨a_v_self, v_self, a_v_name, v_name, F, rfl, _⟩ := h; rfl
  · obtain ⟨a_v_self, v_self, a_v_name, v_name, F, rfl, him_v_name, hS, hm⟩ := h
    have hS := hS.addIm him_v_name
    refine ⟨_, (pss_one (ps_if (pt_cmp (pc_dnotinN (hu_of hr) (pv 1) (pe_fld (pv 0) rfl))) (pss_one (ps_raise rfl (takes_of rfl rfl rfl rfl) (SkE.pmk_own1 PySem.F.excBase_ValueError T.x_NoName T.g_NoName T.kp_NoName (T.r_NoName rfl) rfl (pe_joined (.cons (pe_fmtN (pv 1)) (.cons pe_str .nil)))))) pss_nil)), ?_⟩
    unfold m_Threads_sure_A at hm
    have hS : Sep H (ThreadsA a_v_self v_self :: [imA a_v_name (v_name : Any), F] : List (Asn G)) := hS.sel [1, 0, 2] (by decide) rfl
    obtain ⟨dx1, p2, p3, p4, p5, hS⟩ := open_Threads hS
    have hS : Sep H ([cell a_v_self (.ins (G.cl 8) dx1 [("goes_to", (.ref p2)), ("pile_of", (.ref p3)), ("piles", (.ref p4)), ("comes_from", (.ref p5)), ("made", (.int (v_self.made)))]), dictA p2 (v_self.goes_to : (List (Str × Str))), dictA p3 (v_self.pile_of : (List (Str × Int))), dictE lstA p4 (v_self.piles : (List (Int × (List Str)))), dictE dictA p5 (v_self.comes_from : (List (Str × (List (Str × Bool))))), imA a_v_name (v_name : Any), F] : List (Asn G)) := hS
    refine f_if ?_
    obtain ⟨b6, hb6, hm⟩ := wp_hasA hm
    refine et_to (et_B (ev_dniN hS (i := 1) rfl (hS.im (i := 5) rfl) hb6 (ev_var rfl) (ev_fld (ev_var rfl) (hS.getCell (i := 0) rfl) T.cl_Threads T.n_Threads_goes_to rfl))) ?_
    refine ifK_2 (fun hb7 => ?_) (fun hb7 => ?_)
    · have hm := R.wp_ifY hm hb7
      obtain ⟨tx8, htx8, hm⟩ := wp_fmtA hm
      obtain ⟨h9, hm⟩ := R.wp_need hm
      refine f_fa (ev_var rfl) (hS.im (i := 5) rfl) htx8 h9 ?_
      revert hm; refine R.need_rev fun h10 hm => ?_
      refine f_fc ev_c h10 ?_
      refine f_je ?_
      have hS : Sep H (ThreadsA a_v_self v_self :: [imA a_v_name (v_name : Any), F] : List (Asn G)) := pack_Threads (hS.sel [0, 1, 2, 3, 4, 5, 6] (by decide) rfl)
      exact hm _ (hS.sel [0, 2] (by decide) rfl)
    · have hm := R.wp_ifN hm (by first | (rw [hb7]; decide) | simpa using hb7)
      refine st_nx ?_
      have hS : Sep H (ThreadsA a_v_self v_self :: [imA a_v_name (v_name : Any), F] : List (Asn G)) := pack_Threads (hS.sel [0, 1, 2, 3, 4, 5, 6] (by decide) rfl)
      exact hm _ (hS.sel [0, 2] (by decide) rfl)
def sp_Threads_add (G : Gx) : Sp := fun vs H Q E => ∃ (a_v_self : Addr) (v_self : Threads) (v_name : Str) (v_answers : Str) (F : Asn G), vs = [.ref a_v_self, (.str (v_name)), (.str (v_answers))] ∧ Sep H ([ThreadsA a_v_self v_self, F] : List (Asn G)) ∧ R.wp (m_Threads_add v_self v_name v_answers) (fun r => ∀ H', Sep H' ([ThreadsA a_v_self r, F] : List (Asn G)) → Q .non H') (fun x => ∀ H', Sep H' ([ThreadsA a_v_self v_self, F] : List (Asn G)) → Eok G x E H')
abbrev N_Threads_add : List Str := ["self", "name", "answers"]
theorem sc_Threads_add : FnScope N_Threads_add ["self", "name", "answers"] (defScope s_Threads_add) := ⟨rfl, rfl, rfl, by decide +kernel, rfl, by decide +kernel, by decide +kernel⟩
theorem ok_Threads_add (T : Txt G mg) : FnOk P w G.K mg base (L2.CX P w) 3 T.a_Threads_add T.fd_Threads_add ["self", "name", "answers"] (sp_Threads_add G) := by
  have nd := sc_Threads_add.nd
  refine FunD.ok T.F_Threads_add sc_Threads_add (fun vs H Q E h => ?_) (fun cdv A outer s H vs Q E hr h => ?_)
  · obtain ⟨a_v_self, v_self, v_name, v_answers, F, rfl, _⟩ := h; rfl
  · obtain ⟨a_v_self, v_self, v_name, v_answers, F, rfl, hS, hm⟩ := h
    refine ⟨_, (pss_cons (ps_if (pt_cmp (pc_din (hu_of hr) (pv 1) (pe_fld (pv 0) rfl))) (pss_one (ps_raise rfl (takes_of rfl rfl rfl rfl) (SkE.pmk_own1 PySem.F.excBase_ValueError T.x_NoName T.g_NoName T.kp_NoName (T.r_NoName rfl) rfl (pe_joined (.cons (pe_fmt (pv 1)) (.cons pe_str .nil)))))) pss_nil)
      (pss_cons (ps_asg (pv 2) (pg_sub (pe_fld (pv 0) rfl) (pv 1) (set_dict (hu_of hr))))
      (pss_cons (ps_asg pe_bl (pg_sub (pe_dsetd (pe_fld (pv 0) rfl) (pv 2) pe_dnewK m2) (pv 1) (set_dict (hu_of hr))))
      (pss_one (ps_expr (pe_meth (pv 0) T.cl_Threads T.m_Threads_hang (ok_Threads_hang T) (hr.mono (by decide)) T.b_Threads_hang .nil pass0 (pa_cons (pv 1) pa_nil))))))), ?_⟩
    unfold m_Threads_add at hm
    have hS : Sep H (ThreadsA a_v_self v_self :: [F] : List (Asn G)) := hS.sel [0, 1] (by decide) rfl
    obtain ⟨dx1, p2, p3, p4, p5, hS⟩ := open_Threads hS
    have hS : Sep H ([cell a_v_self (.ins (G.cl 8) dx1 [("goes_to", (.ref p2)), ("pile_of", (.ref p3)), ("piles", (.ref p4)), ("comes_from", (.ref p5)), ("made", (.int (v_self.made)))]), dictA p2 (v_self.goes_to : (List (Str × Str))), dictA p3 (v_self.pile_of : (List (Str × Int))), dictE lstA p4 (v_self.piles : (List (Int × (List Str)))), dictE dictA p5 (v_self.comes_from : (List (Str × (List (Str × Bool))))), F] : List (Asn G)) := hS
    refine f_seq ?_
    refine f_if ?_
    refine et_to (et_B (ev_din hS (i := 1) (k := v_name) rfl (ev_var rfl) (ev_fld (ev_var rfl) (hS.getCell (i := 0) rfl) T.cl_Threads T.n_Threads_goes_to rfl))) ?_
    refine ifK_2 (fun hb6 => ?_) (fun hb6 => ?_)
    · have hm := R.wp_ifY hm hb6
      obtain ⟨h7, hm⟩ := R.wp_need hm
      obtain ⟨h8, hm⟩ := R.wp_need hm
      refine f_fs (ev_var rfl) h7 h8 ?_
      revert hm; refine R.need_rev fun h9 hm => ?_
      refine f_fc ev_c h9 ?_
      refine f_je ?_
      have hS : Sep H (ThreadsA a_v_self v_self :: [F] : List (Asn G)) := pack_Threads (hS.sel [0, 1, 2, 3, 4, 5] (by decide) rfl)
      exact hm _ (hS.sel [0, 1] (by decide) rfl)
    · have hm := R.wp_ifN hm (by first | (rw [hb6]; decide) | simpa using hb6)
      refine st_nx ?_
      refine sq_nx ?_
      refine f_seq ?_
      refine c_asgS ?_
      refine ev_to (ev_var rfl) ?_
      refine ev_to (ev_fld (ev_var rfl) (hS.getCell (i := 0) rfl) T.cl_Threads T.n_Threads_goes_to rfl) ?_
      refine ev_to (ev_var rfl) ?_
      obtain ⟨h10, hm⟩ := R.wp_need hm
      refine k_setD (k := v_name) (y := v_answers) hS (i := 1) rfl rfl h10 rfl fun H hS => ?_
      have hS : Sep H ([cell a_v_self (.ins (G.cl 8) dx1 [("goes_to", (.ref p2)), ("pile_of", (.ref p3)), ("piles", (.ref p4)), ("comes_from", (.ref p5)), ("made", (.int (v_self.made)))]), dictA p2 (dput v_self.goes_to v_name v_answers : (List (Str × Str))), dictA p3 (v_self.pile_of : (List (Str × Int))), dictE lstA p4 (v_self.piles : (List (Int × (List Str)))), dictE dictA p5 (v_self.comes_from : (List (Str × (List (Str × Bool))))), F] : List (Asn G)) := hS
      refine sq_nx ?_
      refine f_seq ?_
      refine c_asgS ?_
      refine ev_to ev_c ?_
      refine c_dsetd ?_
      refine ev_to (ev_fld (ev_var rfl) (hS.getCell (i := 0) rfl) T.cl_Threads T.n_Threads_comes_from rfl) ?_
      refine k_setda (isD_Ei hS (i := 4) rfl) ?_
      refine ev_to (ev_var rfl) ?_
      refine k_setdb ?_
      refine k_dnew (κ := Str) (β := Bool) hS fun p11 H hS => ?_
      obtain ⟨h13, hm⟩ := R.wp_need hm
      refine k_setdE3 (k := v_answers) (hS.sel [5, 0, 1, 2, 3, 4, 6] (by decide) rfl : Sep _ (dictE dictA p5 (v_self.comes_from : (List (Str × (List (Str × Bool))))) :: dictA p11 (([] : (List (Str × Bool))) : (List (Str × Bool))) :: [cell a_v_self (.ins (G.cl 8) dx1 [("goes_to", (.ref p2)), ("pile_of", (.ref p3)), ("piles", (.ref p4)), ("comes_from", (.ref p5)), ("made", (.int (v_self.made)))]), dictA p2 (dput v_self.goes_to v_name v_answers : (List (Str × Str))), dictA p3 (v_self.pile_of : (List (Str × Int))), dictE lstA p4 (v_self.piles : (List (Int × (List Str)))), F] : List (Asn G))) h13 fun ps14 p15 j16 H hl17 hj18 hp19 hS => ?_
      have hS : Sep H ([dictA p15 ((dget v_self.comes_from v_answers).getD ([] : (List (Str × Bool))) : (List (Str × Bool))), dictXH id dictA p5 ps14 (setE v_self.comes_from v_answers ([] : (List (Str × Bool))) : (List (Str × (List (Str × Bool))))) j16, cell a_v_self (.ins (G.cl 8) dx1 [("goes_to", (.ref p2)), ("pile_of", (.ref p3)), ("piles", (.ref p4)), ("comes_from", (.ref p5)), ("made", (.int (v_self.made)))]), dictA p2 (dput v_self.goes_to v_name v_answers : (List (Str × Str))), dictA p3 (v_self.pile_of : (List (Str × Int))), dictE lstA p4 (v_self.piles : (List (Int × (List Str)))), F] : List (Asn G)) := hS
      refine ev_to (ev_var rfl) ?_
      obtain ⟨h20, hm⟩ := R.wp_need hm
      refine k_setD (k := v_name) (y := true) hS (i := 0) rfl rfl h20 rfl fun H hS => ?_
      have hS : Sep H ([dictA p15 (dput ((dget v_self.comes_from v_answers).getD ([] : (List (Str × Bool)))) v_name true : (List (Str × Bool))), dictXH id dictA p5 ps14 (setE v_self.comes_from v_answers ([] : (List (Str × Bool))) : (List (Str × (List (Str × Bool))))) j16, cell a_v_self (.ins (G.cl 8) dx1 [("goes_to", (.ref p2)), ("pile_of", (.ref p3)), ("piles", (.ref p4)), ("comes_from", (.ref p5)), ("made", (.int (v_self.made)))]), dictA p2 (dput v_self.goes_to v_name v_answers : (List (Str × Str))), dictA p3 (v_self.pile_of : (List (Str × Int))), dictE lstA p4 (v_self.piles : (List (Int × (List Str)))), F] : List (Asn G)) := hS
      have hS : Sep H ([dictE dictA p5 (dput (setE v_self.comes_from v_answers ([] : (List (Str × Bool)))) v_answers (dput ((dget v_self.comes_from v_answers).getD ([] : (List (Str × Bool)))) v_name true) : (List (Str × (List (Str × Bool))))), cell a_v_self (.ins (G.cl 8) dx1 [("goes_to", (.ref p2)), ("pile_of", (.ref p3)), ("piles", (.ref p4)), ("comes_from", (.ref p5)), ("made", (.int (v_self.made)))]), dictA p2 (dput v_self.goes_to v_name v_answers : (List (Str × Str))), dictA p3 (v_self.pile_of : (List (Str × Int))), dictE lstA p4 (v_self.piles : (List (Int × (List Str)))), F] : List (Asn G)) := unfocDE (z := (dput ((dget v_self.comes_from v_answers).getD ([] : (List (Str × Bool)))) v_name true : (List (Str × Bool)))) hl17 hj18 hp19 (hS.sel [0, 1, 2, 3, 4, 5, 6] (by decide) rfl)
      refine sq_nx ?_
      refine c_drop ?_
      refine c_meth ?_
      refine ev_to (ev_var rfl) ?_
      refine ⟨_, _, _, rfl, (hS.getCell (i := 1) rfl), rfl, ?_⟩
      refine ea_to (ea_cons (ev_var rfl) ea_nil) ?_
      have hS : Sep H (ThreadsA a_v_self (⟨dput v_self.goes_to v_name v_answers, v_self.pile_of, v_self.piles, dput (setE v_self.comes_from v_answers ([] : (List (Str × Bool)))) v_answers (dput ((dget v_self.comes_from v_answers).getD ([] : (List (Str × Bool)))) v_name true), v_self.made⟩ : Threads) :: [F] : List (Asn G)) := pack_Threads (hS.sel [1, 2, 3, 4, 0, 5] (by decide) rfl)
      refine ⟨a_v_self, ((⟨dput v_self.goes_to v_name v_answers, v_self.pile_of, v_self.piles, dput (setE v_self.comes_from v_answers ([] : (List (Str × Bool)))) v_answers (dput ((dget v_self.comes_from v_answers).getD ([] : (List (Str × Bool)))) v_name true), v_self.made⟩ : Threads) : Threads), v_name, star [F], rfl, Sep.unstar (M := [ThreadsA a_v_self (⟨dput v_self.goes_to v_name v_answers, v_self.pile_of, v_self.piles, dput (setE v_self.comes_from v_answers ([] : (List (Str × Bool)))) v_answers (dput ((dget v_self.comes_from v_answers).getD ([] : (List (Str × Bool)))) v_name true), v_self.made⟩ : Threads)]) (hS.sel [0, 1] (by decide) rfl : Sep H (([ThreadsA a_v_self (⟨dput v_self.goes_to v_name v_answers, v_self.pile_of, v_self.piles, dput (setE v_self.comes_from v_answers ([] : (List (Str × Bool)))) v_answers (dput ((dget v_self.comes_from v_answers).getD ([] : (List (Str × Bool)))) v_name true), v_self.made⟩ : Threads)] ++ [F] : List (Asn G)))), R.wp_mono (R.wp_noexc hm) (fun r21 hm H hS => ?_) (fun _ z => z)⟩
      have hS : Sep H ([ThreadsA a_v_self r21, F] : List (Asn G)) := Sep.star (M := [ThreadsA a_v_self r21]) hS
      have hS : Sep H (ThreadsA a_v_self r21 :: [F] : List (Asn G)) := hS.sel [0, 1] (by decide) rfl
      obtain ⟨dx22, p23, p24, p25, p26, hS⟩ := open_Threads hS
      have hS : Sep H ([cell a_v_self (.ins (G.cl 8) dx22 [("goes_to", (.ref p23)), ("pile_of", (.ref p24)), ("piles", (.ref p25)), ("comes_from", (.ref p26)), ("made", (.int (r21.made)))]), dictA p23 (r21.goes_to : (List (Str × Str))), dictA p24 (r21.pile_of : (List (Str × Int))), dictE lstA p25 (r21.piles : (List (Int × (List Str)))), dictE dictA p26 (r21.comes_from : (List (Str × (List (Str × Bool))))), F] : List (Asn G)) := hS
      have hS : Sep H (ThreadsA a_v_self r21 :: [F] : List (Asn G)) := pack_Threads (hS.sel [0, 1, 2, 3, 4, 5] (by decide) rfl)
      exact hm _ (hS.sel [0, 1] (by decide) rfl)
def sp_Threads_take_out (G : Gx) : Sp := fun vs H Q E => ∃ (a_v_self : Addr) (v_self : Threads) (v_name : Str) (F : Asn G), vs = [.ref a_v_self, (.str (v_name))] ∧ Sep H ([ThreadsA a_v_self v_self, F] : List (Asn G)) ∧ R.wp (m_Threads_take_out v_self v_name) (fun r => ∀ H', Sep H' ([ThreadsA a_v_self r, F] : List (Asn G)) → Q .non H') (fun x => ∀ H', Sep H' ([ThreadsA a_v_self v_self, F] : List (Asn G)) → Eok G x E H')
abbrev N_Threads_take_out : List Str := ["self", "name", "answers", "old", "one"]
theorem sc_Threads_take_out : FnScope N_Threads_take_out ["self", "name"] (defScope s_Threads_take_out) := ⟨rfl, rfl, rfl, by decide +kernel, rfl, by decide +kernel, by decide +kernel⟩
theorem ok_Threads_take_out (T : Txt G mg) : FnOk P w G.K mg base (L2.CX P w) 3 T.a_Threads_take_out T.fd_Threads_take_out ["self", "name"] (sp_Threads_take_out G) := by
  have nd := sc_Threads_take_out.nd
  refine Fun.okX T.F_Threads_take_out sc_Threads_take_out (fun vs H Q E h => ?_) (fun cdv A outer s H vs Q E hr h => ?_)
  · obtain ⟨a_v_self, v_self, v_name, F, rfl, _⟩ := h; rfl
  · obtain ⟨a_v_self, v_self, v_name, F, rfl, hS, hm⟩ := h
    refine ⟨_, (pss_cons (ps_expr (pe_meth (pv 0) T.cl_Threads T.m_Threads_sure (ok_Threads_sure T) (hr.mono (by decide)) T.b_Threads_sure .nil (passes_call (takes_of rfl rfl rfl rfl) (fun _ _ _ _ h => h)) (pa_cons (pv 1) pa_nil)))
      (pss_cons (ps_set (i := 2) nd rfl (Or.inl rfl) (pe_dpop1 (pe_fld (pv 0) rfl) (pv 1) m1))
      (pss_cons (ps_expr (pe_dpop1 (pe_dget (hu_of hr) (pe_fld (pv 0) rfl) (pv 2) (fun _ _ => rfl)) (pv 1) m1))
      (pss_cons (ps_if (pt_cmpR op_eq (pe_callB call_lenD (by rfl) T.z_len PySem.boot_len (pa_cons (pe_dget (hu_of hr) (pe_fld (pv 0) rfl) (pv 2) (fun _ _ => rfl)) pa_nil)) pe_int (nomark _)) (pss_one (ps_expr (pe_dpop1 (pe_fld (pv 0) rfl) (pv 2) m1))) pss_nil)
      (pss_cons (ps_set (i := 3) nd rfl (Or.inl rfl) (pe_fz (pe_dpop1 (pe_fld (pv 0) rfl) (pe_dget (hu_of hr) (pe_fld (pv 0) rfl) (pv 1) (fun _ _ => rfl)) m1)))
      (pss_cons (ps_for (passes_of rfl) rfl (pi_listK G.K (pe_fz (pv 3))) (pg_name (i := 4) nd rfl (Or.inl rfl)) (pss_one (ps_expr (pe_dpop1 (pe_fld (pv 0) rfl) (pv 4) m1))))
      (pss_one (ps_for (passes_of rfl) rfl (pi_listK G.K (pe_fz (pv 3))) (pg_name (i := 4) nd rfl (Or.inl rfl)) (pss_one (ps_if (pt_cmp (pc_din (hu_of hr) (pv 4) (pe_fld (pv 0) rfl))) (pss_one (ps_expr (pe_meth (pv 0) T.cl_Threads T.m_Threads_hang (ok_Threads_hang T) (hr.mono (by decide)) T.b_Threads_hang .nil pass0 (pa_cons (pv 4) pa_nil)))) pss_nil)))))))))), ?_⟩
    unfold m_Threads_take_out at hm
    have hS : Sep H (ThreadsA a_v_self v_self :: [F] : List (Asn G)) := hS.sel [0, 1] (by decide) rfl
    obtain ⟨dx1, p2, p3, p4, p5, hS⟩ := open_Threads hS
    have hS : Sep H ([cell a_v_self (.ins (G.cl 8) dx1 [("goes_to", (.ref p2)), ("pile_of", (.ref p3)), ("piles", (.ref p4)), ("comes_from", (.ref p5)), ("made", (.int (v_self.made)))]), dictA p2 (v_self.goes_to : (List (Str × Str))), dictA p3 (v_self.pile_of : (List (Str × Int))), dictE lstA p4 (v_self.piles : (List (Int × (List Str)))), dictE dictA p5 (v_self.comes_from : (List (Str × (List (Str × Bool))))), F] : List (Asn G)) := hS
    refine f_seq ?_
    refine c_drop ?_
    refine c_meth ?_
    refine ev_to (ev_var rfl) ?_
    refine ⟨_, _, _, rfl, (hS.getCell (i := 0) rfl), rfl, ?_⟩
    refine ea_to (ea_cons (ev_var rfl) ea_nil) ?_
    have hS : Sep H (ThreadsA a_v_self v_self :: [F] : List (Asn G)) := pack_Threads (hS.sel [0, 1, 2, 3, 4, 5] (by decide) rfl)
    refine ⟨a_v_self, (v_self : Threads), v_name, star [F], rfl, Sep.unstar (M := [ThreadsA a_v_self v_self]) (hS.sel [0, 1] (by decide) rfl : Sep H (([ThreadsA a_v_self v_self] ++ [F] : List (Asn G)))), R.wp_mono (R.wp_bind hm) (fun r6 hm H hS => ?_) (fun x hx H hS => ?_)⟩
    ·
      have hS : Sep H ([ThreadsA a_v_self v_self, F] : List (Asn G)) := Sep.star (M := [ThreadsA a_v_self v_self]) hS
      have hS : Sep H (ThreadsA a_v_self v_self :: [F] : List (Asn G)) := hS.sel [0, 1] (by decide) rfl
      obtain ⟨dx7, p8, p9, p10, p11, hS⟩ := open_Threads hS
      have hS : Sep H ([cell a_v_self (.ins (G.cl 8) dx7 [("goes_to", (.ref p8)), ("pile_of", (.ref p9)), ("piles", (.ref p10)), ("comes_from", (.ref p11)), ("made", (.int (v_self.made)))]), dictA p8 (v_self.goes_to : (List (Str × Str))), dictA p9 (v_self.pile_of : (List (Str × Int))), dictE lstA p10 (v_self.piles : (List (Int × (List Str)))), dictE dictA p11 (v_self.comes_from : (List (Str × (List (Str × Bool))))), F] : List (Asn G)) := hS
      refine sq_nx ?_
      refine f_seq ?_
      refine c_asg ?_
      refine c_dpop1 ?_
      refine ev_to (ev_fld (ev_var rfl) (hS.getCell (i := 0) rfl) T.cl_Threads T.n_Threads_goes_to rfl) ?_
      refine k_pop1a (isD_of hS (i := 1) rfl) ?_
      refine ev_to (ev_var rfl) ?_
      obtain ⟨y12, hy12, hm⟩ := wp_dgetX hm
      refine k_pop1A (k := v_name) hS (i := 1) rfl hy12 rfl fun v13 H hS => ?_
      obtain rfl : v13 = (.str (y12)) := hS.im (i := 0) rfl
      have hS := hS.tail
      have hS : Sep H ([cell a_v_self (.ins (G.cl 8) dx7 [("goes_to", (.ref p8)), ("pile_of", (.ref p9)), ("piles", (.ref p10)), ("comes_from", (.ref p11)), ("made", (.int (v_self.made)))]), dictA p8 (ddrop v_self.goes_to v_name : (List (Str × Str))), dictA p9 (v_self.pile_of : (List (Str × Int))), dictE lstA p10 (v_self.piles : (List (Int × (List Str)))), dictE dictA p11 (v_self.comes_from : (List (Str × (List (Str × Bool))))), F] : List (Asn G)) := hS
      refine c_set (σ' := [some (.ref a_v_self), some (.str (v_name)), some (.str (y12)), none, none]) rfl ?_
      refine sq_nx ?_
      refine f_seq ?_
      refine c_drop ?_
      refine c_dpop1 ?_
      refine c_dget ?_
      refine ev_to (ev_fld (ev_var rfl) (hS.getCell (i := 0) rfl) T.cl_Threads T.n_Threads_comes_from rfl) ?_
      refine k_dget1 ?_
      refine ev_to (ev_var rfl) ?_
      obtain ⟨x14, h15, hm⟩ := wp_dgetX hm
      refine k_dgetE (y := (x14 : (List (Str × Bool)))) (hS.sel [4, 0, 1, 2, 3, 5] (by decide) rfl : Sep _ (dictE dictA p11 (v_self.comes_from : (List (Str × (List (Str × Bool))))) :: [cell a_v_self (.ins (G.cl 8) dx7 [("goes_to", (.ref p8)), ("pile_of", (.ref p9)), ("piles", (.ref p10)), ("comes_from", (.ref p11)), ("made", (.int (v_self.made)))]), dictA p8 (ddrop v_self.goes_to v_name : (List (Str × Str))), dictA p9 (v_self.pile_of : (List (Str × Int))), dictE lstA p10 (v_self.piles : (List (Int × (List Str)))), F] : List (Asn G))) h15 fun ps16 p17 j18 hl19 hj20 hp21 hS => ?_
      have hS : Sep H ([dictA p17 (x14 : (List (Str × Bool))), dictXH id dictA p11 ps16 (v_self.comes_from : (List (Str × (List (Str × Bool))))) j18, cell a_v_self (.ins (G.cl 8) dx7 [("goes_to", (.ref p8)), ("pile_of", (.ref p9)), ("piles", (.ref p10)), ("comes_from", (.ref p11)), ("made", (.int (v_self.made)))]), dictA p8 (ddrop v_self.goes_to v_name : (List (Str × Str))), dictA p9 (v_self.pile_of : (List (Str × Int))), dictE lstA p10 (v_self.piles : (List (Int × (List Str)))), F] : List (Asn G)) := hS
      refine k_pop1a (isD_of hS (i := 0) rfl) ?_
      refine ev_to (ev_var rfl) ?_
      obtain ⟨y22, hy22, hm⟩ := wp_dgetX hm
      refine k_pop1A (k := v_name) hS (i := 0) rfl hy22 rfl fun v23 H hS => ?_
      obtain rfl : v23 = (.bl (y22)) := hS.im (i := 0) rfl
      have hS := hS.tail
      have hS : Sep H ([dictA p17 (ddrop x14 v_name : (List (Str × Bool))), dictXH id dictA p11 ps16 (v_self.comes_from : (List (Str × (List (Str × Bool))))) j18, cell a_v_self (.ins (G.cl 8) dx7 [("goes_to", (.ref p8)), ("pile_of", (.ref p9)), ("piles", (.ref p10)), ("comes_from", (.ref p11)), ("made", (.int (v_self.made)))]), dictA p8 (ddrop v_self.goes_to v_name : (List (Str × Str))), dictA p9 (v_self.pile_of : (List (Str × Int))), dictE lstA p10 (v_self.piles : (List (Int × (List Str)))), F] : List (Asn G)) := hS
      have hS : Sep H ([dictE dictA p11 (dput v_self.comes_from y12 (ddrop x14 v_name) : (List (Str × (List (Str × Bool))))), cell a_v_self (.ins (G.cl 8) dx7 [("goes_to", (.ref p8)), ("pile_of", (.ref p9)), ("piles", (.ref p10)), ("comes_from", (.ref p11)), ("made", (.int (v_self.made)))]), dictA p8 (ddrop v_self.goes_to v_name : (List (Str × Str))), dictA p9 (v_self.pile_of : (List (Str × Int))), dictE lstA p10 (v_self.piles : (List (Int × (List Str)))), F] : List (Asn G)) := unfocDE (z := (ddrop x14 v_name : (List (Str × Bool)))) hl19 hj20 hp21 (hS.sel [0, 1, 2, 3, 4, 5, 6] (by decide) rfl)
      refine sq_nx ?_
      refine f_seq ?_
      refine f_if ?_
      refine f_test ?_
      refine c_op ?_
      refine c_cb ?_
      refine c_cons ?_
      refine c_dget ?_
      refine ev_to (ev_fld (ev_var rfl) (hS.getCell (i := 1) rfl) T.cl_Threads T.n_Threads_comes_from rfl) ?_
      refine k_dget1 ?_
      refine ev_to (ev_var rfl) ?_
      obtain ⟨x24, h25, hm⟩ := wp_dgetX hm
      refine k_dgetE (y := (x24 : (List (Str × Bool)))) (hS.sel [0, 1, 2, 3, 4, 5] (by decide) rfl : Sep _ (dictE dictA p11 (dput v_self.comes_from y12 (ddrop x14 v_name) : (List (Str × (List (Str × Bool))))) :: [cell a_v_self (.ins (G.cl 8) dx7 [("goes_to", (.ref p8)), ("pile_of", (.ref p9)), ("piles", (.ref p10)), ("comes_from", (.ref p11)), ("made", (.int (v_self.made)))]), dictA p8 (ddrop v_self.goes_to v_name : (List (Str × Str))), dictA p9 (v_self.pile_of : (List (Str × Int))), dictE lstA p10 (v_self.piles : (List (Int × (List Str)))), F] : List (Asn G))) h25 fun ps26 p27 j28 hl29 hj30 hp31 hS => ?_
      have hS : Sep H ([dictA p27 (x24 : (List (Str × Bool))), dictXH id dictA p11 ps26 (dput v_self.comes_from y12 (ddrop x14 v_name) : (List (Str × (List (Str × Bool))))) j28, cell a_v_self (.ins (G.cl 8) dx7 [("goes_to", (.ref p8)), ("pile_of", (.ref p9)), ("piles", (.ref p10)), ("comes_from", (.ref p11)), ("made", (.int (v_self.made)))]), dictA p8 (ddrop v_self.goes_to v_name : (List (Str × Str))), dictA p9 (v_self.pile_of : (List (Str × Int))), dictE lstA p10 (v_self.piles : (List (Int × (List Str)))), F] : List (Asn G)) := hS
      refine c_nil ?_
      obtain ⟨ps32, hp33, hl34⟩ := lenD_at hS (i := 0) rfl
      refine ⟨_, ps32, rfl, hp33, ?_⟩
      rw [hl34]
      have hS : Sep H ([dictE dictA p11 (dput v_self.comes_from y12 (ddrop x14 v_name) : (List (Str × (List (Str × Bool))))), cell a_v_self (.ins (G.cl 8) dx7 [("goes_to", (.ref p8)), ("pile_of", (.ref p9)), ("piles", (.ref p10)), ("comes_from", (.ref p11)), ("made", (.int (v_self.made)))]), dictA p8 (ddrop v_self.goes_to v_name : (List (Str × Str))), dictA p9 (v_self.pile_of : (List (Str × Int))), dictE lstA p10 (v_self.piles : (List (Int × (List Str)))), F] : List (Asn G)) := unfocDE0 hl29 hj30 hp31 (hS.sel [0, 1, 2, 3, 4, 5, 6] (by decide) rfl)
      refine ev_to ev_c ?_
      refine ev_op2 (ev_eqI ev_c ev_c) ?_
      refine f_bl ?_
      refine ifK_J (τ := (List (Str × (List (Str × Bool))))) (fun (s35 : (List (Str × (List (Str × Bool))))) (σ : L2.St) (H : Hp) => σ = [some (.ref a_v_self), some (.str (v_name)), some (.str (y12)), none, none] ∧ Sep H ([dictE dictA p11 (s35 : (List (Str × (List (Str × Bool))))), cell a_v_self (.ins (G.cl 8) dx7 [("goes_to", (.ref p8)), ("pile_of", (.ref p9)), ("piles", (.ref p10)), ("comes_from", (.ref p11)), ("made", (.int (v_self.made)))]), dictA p8 (ddrop v_self.goes_to v_name : (List (Str × Str))), dictA p9 (v_self.pile_of : (List (Str × Int))), dictE lstA p10 (v_self.piles : (List (Int × (List Str)))), F] : List (Asn G))) hm (fun hb q hm nx => ?_) (fun hb q hm nx => ?_) (fun s35 σ H hm hI => ?_)
      ·
        refine c_drop ?_
        refine c_dpop1 ?_
        refine ev_to (ev_fld (ev_var rfl) (hS.getCell (i := 1) rfl) T.cl_Threads T.n_Threads_comes_from rfl) ?_
        refine k_pop1a (isD_Ei hS (i := 0) rfl) ?_
        refine ev_to (ev_var rfl) ?_
        obtain ⟨y36, hy36, hm⟩ := wp_dgetX hm
        refine k_pop1E (hS.sel [0, 1, 2, 3, 4, 5] (by decide) rfl : Sep _ (dictE dictA p11 (dput v_self.comes_from y12 (ddrop x14 v_name) : (List (Str × (List (Str × Bool))))) :: [cell a_v_self (.ins (G.cl 8) dx7 [("goes_to", (.ref p8)), ("pile_of", (.ref p9)), ("piles", (.ref p10)), ("comes_from", (.ref p11)), ("made", (.int (v_self.made)))]), dictA p8 (ddrop v_self.goes_to v_name : (List (Str × Str))), dictA p9 (v_self.pile_of : (List (Str × Int))), dictE lstA p10 (v_self.piles : (List (Int × (List Str)))), F] : List (Asn G))) hy36 fun v37 H hS => ?_
        have hS : Sep H ([dictA v37 (y36 : (List (Str × Bool))), dictE dictA p11 (ddrop (dput v_self.comes_from y12 (ddrop x14 v_name)) y12 : (List (Str × (List (Str × Bool))))), cell a_v_self (.ins (G.cl 8) dx7 [("goes_to", (.ref p8)), ("pile_of", (.ref p9)), ("piles", (.ref p10)), ("comes_from", (.ref p11)), ("made", (.int (v_self.made)))]), dictA p8 (ddrop v_self.goes_to v_name : (List (Str × Str))), dictA p9 (v_self.pile_of : (List (Str × Int))), dictE lstA p10 (v_self.piles : (List (Int × (List Str)))), F] : List (Asn G)) := hS
        exact nx _ _ _ hm ⟨rfl, hS.sel [1, 2, 3, 4, 5, 6] (by decide) rfl⟩
      ·
        refine st_nx ?_
        exact nx _ _ _ hm ⟨rfl, hS.sel [0, 1, 2, 3, 4, 5] (by decide) rfl⟩
      · obtain ⟨rfl, hS⟩ := hI
        refine sq_nx ?_
        refine f_seq ?_
        refine c_asg ?_
        refine c_fz ?_
        refine c_dpop1 ?_
        refine ev_to (ev_fld (ev_var rfl) (hS.getCell (i := 1) rfl) T.cl_Threads T.n_Threads_piles rfl) ?_
        refine k_pop1a (isD_Ei hS (i := 4) rfl) ?_
        obtain ⟨y38, hy38, hm⟩ := wp_dget hm
        obtain ⟨v39, g40, hv41⟩ := dget_some hS (i := 3) rfl hy38
        have hv41 : v39 = (.int (y38)) := hv41
        subst hv41
        refine ev_to (ev_dget (y := y38) hS (i := 3) rfl (ev_fld (ev_var rfl) (hS.getCell (i := 1) rfl) T.cl_Threads T.n_Threads_pile_of rfl) (ev_var rfl) g40) ?_
        obtain ⟨y42, hy42, hm⟩ := wp_dgetX hm
        refine k_pop1E (hS.sel [4, 0, 1, 2, 3, 5] (by decide) rfl : Sep _ (dictE lstA p10 (v_self.piles : (List (Int × (List Str)))) :: [dictE dictA p11 (s35 : (List (Str × (List (Str × Bool))))), cell a_v_self (.ins (G.cl 8) dx7 [("goes_to", (.ref p8)), ("pile_of", (.ref p9)), ("piles", (.ref p10)), ("comes_from", (.ref p11)), ("made", (.int (v_self.made)))]), dictA p8 (ddrop v_self.goes_to v_name : (List (Str × Str))), dictA p9 (v_self.pile_of : (List (Str × Int))), F] : List (Asn G))) hy42 fun v43 H hS => ?_
        have hS : Sep H ([lstA v43 (y42 : (List Str)), dictE lstA p10 (ddrop v_self.piles y38 : (List (Int × (List Str)))), dictE dictA p11 (s35 : (List (Str × (List (Str × Bool))))), cell a_v_self (.ins (G.cl 8) dx7 [("goes_to", (.ref p8)), ("pile_of", (.ref p9)), ("piles", (.ref p10)), ("comes_from", (.ref p11)), ("made", (.int (v_self.made)))]), dictA p8 (ddrop v_self.goes_to v_name : (List (Str × Str))), dictA p9 (v_self.pile_of : (List (Str × Int))), F] : List (Asn G)) := hS
        refine fz_no ?_
        refine c_set (σ' := [some (.ref a_v_self), some (.str (v_name)), some (.str (y12)), some (.ref v43), none]) rfl ?_
        refine sq_nx ?_
        refine f_seq ?_
        refine c_for ?_
        refine c_il ?_
        refine ev_to (ev_fz (ev_var rfl)) ?_
        refine k_il hS (i := 0) rfl ?_
        refine k_for (τ := (List (Str × Int))) (fun (s44 : (List (Str × Int))) (σ : L2.St) (H : Hp) => ∃ (w47 : Option V), σ = [some (.ref a_v_self), some (.str (v_name)), some (.str (y12)), some (.ref v43), w47] ∧ Sep H ([lstA v43 (y42 : (List Str)), dictE lstA p10 (ddrop v_self.piles y38 : (List (Int × (List Str)))), dictE dictA p11 (s35 : (List (Str × (List (Str × Bool))))), cell a_v_self (.ins (G.cl 8) dx7 [("goes_to", (.ref p8)), ("pile_of", (.ref p9)), ("piles", (.ref p10)), ("comes_from", (.ref p11)), ("made", (.int (v_self.made)))]), dictA p8 (ddrop v_self.goes_to v_name : (List (Str × Str))), dictA p9 (s44 : (List (Str × Int))), F] : List (Asn G))) (im := (Im.im G)) (s := (v_self.pile_of)) (fun _ => wk_list fun _ _ ⟨_, _, h⟩ => h.sq (i := 0) rfl) ⟨_, rfl, hS.sel [0, 1, 2, 3, 4, 5, 6] (by decide) rfl⟩ hm (fun s44 x45 v46 σ H q N hI hx hm nx => ?_) (fun s44 σ H hm hI => ?_)
        ·
          obtain ⟨w47, rfl, hS⟩ := hI
          cases hx
          refine c_gN (σ' := [some (.ref a_v_self), some (.str (v_name)), some (.str (y12)), some (.ref v43), some (.str (x45))]) rfl ?_
          refine c_drop ?_
          refine c_dpop1 ?_
          refine ev_to (ev_fld (ev_var rfl) (hS.getCell (i := 3) rfl) T.cl_Threads T.n_Threads_pile_of rfl) ?_
          refine k_pop1a (isD_of hS (i := 5) rfl) ?_
          refine ev_to (ev_var rfl) ?_
          obtain ⟨y48, hy48, hm⟩ := wp_dgetX hm
          refine k_pop1A (k := x45) hS (i := 5) rfl hy48 rfl fun v49 H hS => ?_
          obtain rfl : v49 = (.int (y48)) := hS.im (i := 0) rfl
          have hS := hS.tail
          have hS : Sep H ([lstA v43 (y42 : (List Str)), dictE lstA p10 (ddrop v_self.piles y38 : (List (Int × (List Str)))), dictE dictA p11 (s35 : (List (Str × (List (Str × Bool))))), cell a_v_self (.ins (G.cl 8) dx7 [("goes_to", (.ref p8)), ("pile_of", (.ref p9)), ("piles", (.ref p10)), ("comes_from", (.ref p11)), ("made", (.int (v_self.made)))]), dictA p8 (ddrop v_self.goes_to v_name : (List (Str × Str))), dictA p9 (ddrop s44 x45 : (List (Str × Int))), F] : List (Asn G)) := hS
          exact nx _ _ _ hm ⟨_, rfl, hS.sel [0, 1, 2, 3, 4, 5, 6] (by decide) rfl⟩
        · obtain ⟨w47, rfl, hS⟩ := hI
          refine sq_nx ?_
          refine c_for ?_
          refine c_il ?_
          refine ev_to (ev_fz (ev_var rfl)) ?_
          refine k_il hS (i := 0) rfl ?_
          have hS : Sep H (ThreadsA a_v_self (⟨ddrop v_self.goes_to v_name, s44, ddrop v_self.piles y38, s35, v_self.made⟩ : Threads) :: [lstA v43 (y42 : (List Str)), F] : List (Asn G)) := pack_Threads (hS.sel [3, 4, 5, 1, 2, 0, 6] (by decide) rfl)
          refine k_for (τ := Threads) (fun (s50 : Threads) (σ : L2.St) (H : Hp) => ∃ (w53 : Option V), σ = [some (.ref a_v_self), some (.str (v_name)), some (.str (y12)), some (.ref v43), w53] ∧ Sep H ([ThreadsA a_v_self s50, lstA v43 (y42 : (List Str)), F] : List (Asn G))) (im := (Im.im G)) (s := ((⟨ddrop v_self.goes_to v_name, s44, ddrop v_self.piles y38, s35, v_self.made⟩ : Threads))) (fun _ => wk_list fun _ _ ⟨_, _, h⟩ => h.sq (i := 1) rfl) ⟨_, rfl, hS.sel [0, 1, 2] (by decide) rfl⟩ hm (fun s50 x51 v52 σ H q N hI hx hm nx => ?_) (fun s50 σ H hm hI => ?_)
          ·
            obtain ⟨w53, rfl, hS⟩ := hI
            cases hx
            refine c_gN (σ' := [some (.ref a_v_self), some (.str (v_name)), some (.str (y12)), some (.ref v43), some (.str (x51))]) rfl ?_
            have hS : Sep H (ThreadsA a_v_self s50 :: [lstA v43 (y42 : (List Str)), F] : List (Asn G)) := hS.sel [0, 1, 2] (by decide) rfl
            obtain ⟨dx54, p55, p56, p57, p58, hS⟩ := open_Threads hS
            have hS : Sep H ([cell a_v_self (.ins (G.cl 8) dx54 [("goes_to", (.ref p55)), ("pile_of", (.ref p56)), ("piles", (.ref p57)), ("comes_from", (.ref p58)), ("made", (.int (s50.made)))]), dictA p55 (s50.goes_to : (List (Str × Str))), dictA p56 (s50.pile_of : (List (Str × Int))), dictE lstA p57 (s50.piles : (List (Int × (List Str)))), dictE dictA p58 (s50.comes_from : (List (Str × (List (Str × Bool))))), lstA v43 (y42 : (List Str)), F] : List (Asn G)) := hS
            refine f_if ?_
            refine et_to (et_B (ev_din hS (i := 1) (k := x51) rfl (ev_var rfl) (ev_fld (ev_var rfl) (hS.getCell (i := 0) rfl) T.cl_Threads T.n_Threads_goes_to rfl))) ?_
            have hS : Sep H (ThreadsA a_v_self s50 :: [lstA v43 (y42 : (List Str)), F] : List (Asn G)) := pack_Threads (hS.sel [0, 1, 2, 3, 4, 5, 6] (by decide) rfl)
            refine ifK_J (τ := Threads) (fun (s59 : Threads) (σ : L2.St) (H : Hp) => σ = [some (.ref a_v_self), some (.str (v_name)), some (.str (y12)), some (.ref v43), some (.str (x51))] ∧ Sep H ([ThreadsA a_v_self s59, lstA v43 (y42 : (List Str)), F] : List (Asn G))) hm (fun hb q hm nx => ?_) (fun hb q hm nx => ?_) (fun s59 σ H hm hI => ?_)
            ·
              have hS : Sep H (ThreadsA a_v_self s50 :: [lstA v43 (y42 : (List Str)), F] : List (Asn G)) := hS.sel [0, 1, 2] (by decide) rfl
              obtain ⟨dx60, p61, p62, p63, p64, hS⟩ := open_Threads hS
              have hS : Sep H ([cell a_v_self (.ins (G.cl 8) dx60 [("goes_to", (.ref p61)), ("pile_of", (.ref p62)), ("piles", (.ref p63)), ("comes_from", (.ref p64)), ("made", (.int (s50.made)))]), dictA p61 (s50.goes_to : (List (Str × Str))), dictA p62 (s50.pile_of : (List (Str × Int))), dictE lstA p63 (s50.piles : (List (Int × (List Str)))), dictE dictA p64 (s50.comes_from : (List (Str × (List (Str × Bool))))), lstA v43 (y42 : (List Str)), F] : List (Asn G)) := hS
              refine c_drop ?_
              refine c_meth ?_
              refine ev_to (ev_var rfl) ?_
              refine ⟨_, _, _, rfl, (hS.getCell (i := 0) rfl), rfl, ?_⟩
              refine ea_to (ea_cons (ev_var rfl) ea_nil) ?_
              have hS : Sep H (ThreadsA a_v_self s50 :: [lstA v43 (y42 : (List Str)), F] : List (Asn G)) := pack_Threads (hS.sel [0, 1, 2, 3, 4, 5, 6] (by decide) rfl)
              refine ⟨a_v_self, (s50 : Threads), x51, star [lstA v43 (y42 : (List Str)), F], rfl, Sep.unstar (M := [ThreadsA a_v_self s50]) (hS.sel [0, 1, 2] (by decide) rfl : Sep H (([ThreadsA a_v_self s50] ++ [lstA v43 (y42 : (List Str)), F] : List (Asn G)))), R.wp_mono (R.wp_noexc hm) (fun r65 hm H hS => ?_) (fun _ z => z)⟩
              have hS : Sep H ([ThreadsA a_v_self r65, lstA v43 (y42 : (List Str)), F] : List (Asn G)) := Sep.star (M := [ThreadsA a_v_self r65]) hS
              have hS : Sep H (ThreadsA a_v_self r65 :: [lstA v43 (y42 : (List Str)), F] : List (Asn G)) := hS.sel [0, 1, 2] (by decide) rfl
              obtain ⟨dx66, p67, p68, p69, p70, hS⟩ := open_Threads hS
              have hS : Sep H ([cell a_v_self (.ins (G.cl 8) dx66 [("goes_to", (.ref p67)), ("pile_of", (.ref p68)), ("piles", (.ref p69)), ("comes_from", (.ref p70)), ("made", (.int (r65.made)))]), dictA p67 (r65.goes_to : (List (Str × Str))), dictA p68 (r65.pile_of : (List (Str × Int))), dictE lstA p69 (r65.piles : (List (Int × (List Str)))), dictE dictA p70 (r65.comes_from : (List (Str × (List (Str × Bool))))), lstA v43 (y42 : (List Str)), F] : List (Asn G)) := hS
              have hS : Sep H (ThreadsA a_v_self r65 :: [lstA v43 (y42 : (List Str)), F] : List (Asn G)) := pack_Threads (hS.sel [0, 1, 2, 3, 4, 5, 6] (by decide) rfl)
              exact nx _ _ _ hm ⟨rfl, hS.sel [0, 1, 2] (by decide) rfl⟩
            ·
              have hS : Sep H (ThreadsA a_v_self s50 :: [lstA v43 (y42 : (List Str)), F] : List (Asn G)) := hS.sel [0, 1, 2] (by decide) rfl
              obtain ⟨dx71, p72, p73, p74, p75, hS⟩ := open_Threads hS
              have hS : Sep H ([cell a_v_self (.ins (G.cl 8) dx71 [("goes_to", (.ref p72)), ("pile_of", (.ref p73)), ("piles", (.ref p74)), ("comes_from", (.ref p75)), ("made", (.int (s50.made)))]), dictA p72 (s50.goes_to : (List (Str × Str))), dictA p73 (s50.pile_of : (List (Str × Int))), dictE lstA p74 (s50.piles : (List (Int × (List Str)))), dictE dictA p75 (s50.comes_from : (List (Str × (List (Str × Bool))))), lstA v43 (y42 : (List Str)), F] : List (Asn G)) := hS
              refine st_nx ?_
              have hS : Sep H (ThreadsA a_v_self s50 :: [lstA v43 (y42 : (List Str)), F] : List (Asn G)) := pack_Threads (hS.sel [0, 1, 2, 3, 4, 5, 6] (by decide) rfl)
              exact nx _ _ _ hm ⟨rfl, hS.sel [0, 1, 2] (by decide) rfl⟩
            · obtain ⟨rfl, hS⟩ := hI
              have hS : Sep H (ThreadsA a_v_self s59 :: [lstA v43 (y42 : (List Str)), F] : List (Asn G)) := hS.sel [0, 1, 2] (by decide) rfl
              obtain ⟨dx76, p77, p78, p79, p80, hS⟩ := open_Threads hS
              have hS : Sep H ([cell a_v_self (.ins (G.cl 8) dx76 [("goes_to", (.ref p77)), ("pile_of", (.ref p78)), ("piles", (.ref p79)), ("comes_from", (.ref p80)), ("made", (.int (s59.made)))]), dictA p77 (s59.goes_to : (List (Str × Str))), dictA p78 (s59.pile_of : (List (Str × Int))), dictE lstA p79 (s59.piles : (List (Int × (List Str)))), dictE dictA p80 (s59.comes_from : (List (Str × (List (Str × Bool))))), lstA v43 (y42 : (List Str)), F] : List (Asn G)) := hS
              have hS : Sep H (ThreadsA a_v_self s59 :: [lstA v43 (y42 : (List Str)), F] : List (Asn G)) := pack_Threads (hS.sel [0, 1, 2, 3, 4, 5, 6] (by decide) rfl)
              exact nx _ _ _ hm ⟨_, rfl, hS.sel [0, 1, 2] (by decide) rfl⟩
          · obtain ⟨w53, rfl, hS⟩ := hI
            have hS : Sep H (ThreadsA a_v_self s50 :: [lstA v43 (y42 : (List Str)), F] : List (Asn G)) := hS.sel [0, 1, 2] (by decide) rfl
            obtain ⟨dx81, p82, p83, p84, p85, hS⟩ := open_Threads hS
            have hS : Sep H ([cell a_v_self (.ins (G.cl 8) dx81 [("goes_to", (.ref p82)), ("pile_of", (.ref p83)), ("piles", (.ref p84)), ("comes_from", (.ref p85)), ("made", (.int (s50.made)))]), dictA p82 (s50.goes_to : (List (Str × Str))), dictA p83 (s50.pile_of : (List (Str × Int))), dictE lstA p84 (s50.piles : (List (Int × (List Str)))), dictE dictA p85 (s50.comes_from : (List (Str × (List (Str × Bool))))), lstA v43 (y42 : (List Str)), F] : List (Asn G)) := hS
            have hS : Sep H (ThreadsA a_v_self s50 :: [lstA v43 (y42 : (List Str)), F] : List (Asn G)) := pack_Threads (hS.sel [0, 1, 2, 3, 4, 5, 6] (by decide) rfl)
            exact hm _ (hS.sel [0, 2] (by decide) rfl)
    ·
      have hS : Sep H ([ThreadsA a_v_self v_self, F] : List (Asn G)) := Sep.star (M := [ThreadsA a_v_self v_self]) hS
      exact hx _ (hS.sel [0, 1] (by decide) rfl)
def sp_Threads_take_out_A (G : Gx) : Sp := fun vs H Q E => ∃ (a_v_self : Addr) (v_self : Threads) (a_v_name : V) (v_name : Any) (F : Asn G), vs = [.ref a_v_self, a_v_name] ∧ Im.im G H a_v_name v_name ∧ Sep H ([ThreadsA a_v_self v_self, F] : List (Asn G)) ∧ R.wp (m_Threads_take_out_A v_self v_name) (fun r => ∀ H', Sep H' ([ThreadsA a_v_self r, F] : List (Asn G)) → Q .non H') (fun x => ∀ H', Sep H' ([ThreadsA a_v_self v_self, F] : List (Asn G)) → Eok G x E H')
abbrev N_Threads_take_out_A : List Str := ["self", "name", "answers", "old", "one"]
theorem sc_Threads_take_out_A : FnScope N_Threads_take_out_A ["self", "name"] (defScope s_Threads_take_out) := ⟨rfl, rfl, rfl, by decide +kernel, rfl, by decide +kernel, by decide +kernel⟩
theorem ok_Threads_take_out_A (T : Txt G mg) : FnOk P w G.K mg base (L2.CX P w) 3 T.a_Threads_take_out T.fd_Threads_take_out ["self", "name"] (sp_Threads_take_out_A G) := by
  have nd := sc_Threads_take_out_A.nd
  refine Fun.okX T.F_Threads_take_out sc_Threads_take_out_A (fun vs H Q E h => ?_) (fun cdv A outer s H vs Q E hr h => ?_)
  · obtain ⟨a_v_self, v_self, a_v_name, v_name, F, rfl, _⟩ := h; rfl
  · obtain ⟨a_v_self, v_self, a_v_name, v_name, F, rfl, him_v_name, hS, hm⟩ := h
    have hS := hS.addIm him_v_name
    refine ⟨_, (pss_cons (ps_expr (pe_meth (pv 0) T.cl_Threads T.m_Threads_sure (ok_Threads_sure_A T) (hr.mono (by decide)) T.b_Threads_sure .nil (passes_call (takes_of rfl rfl rfl rfl) (fun _ _ _ _ h => h)) (pa_cons (pv 1) pa_nil)))
      (pss_cons (ps_set (i := 2) nd rfl (Or.inl rfl) (pe_dpop1 (pe_fld (pv 0) rfl) (pv 1) m1))
      (pss_cons (ps_expr (pe_dpop1 (pe_dget (hu_of hr) (pe_fld (pv 0) rfl) (pv 2) (fun _ _ => rfl)) (pv 1) m1))
      (pss_cons (ps_if (pt_cmpR op_eq (pe_callB call_lenD (by rfl) T.z_len PySem.boot_len (pa_cons (pe_dget (hu_of hr) (pe_fld (pv 0) rfl) (pv 2) (fun _ _ => rfl)) pa_nil)) pe_int (nomark _)) (pss_one (ps_expr (pe_dpop1 (pe_fld (pv 0) rfl) (pv 2) m1))) pss_nil)
      (pss_cons (ps_set (i := 3) nd rfl (Or.inl rfl) (pe_fz (pe_dpop1 (pe_fld (pv 0) rfl) (pe_dget (hu_of hr) (pe_fld (pv 0) rfl) (pv 1) (fun _ _ => rfl)) m1)))
      (pss_cons (ps_for (passes_of rfl) rfl (pi_listK G.K (pe_fz (pv 3))) (pg_name (i := 4) nd rfl (Or.inl rfl)) (pss_one (ps_expr (pe_dpop1 (pe_fld (pv 0) rfl) (pv 4) m1))))
      (pss_one (ps_for (passes_of rfl) rfl (pi_listK G.K (pe_fz (pv 3))) (pg_name (i := 4) nd rfl (Or.inl rfl)) (pss_one (ps_if (pt_cmp (pc_din (hu_of hr) (pv 4) (pe_fld (pv 0) rfl))) (pss_one (ps_expr (pe_meth (pv 0) T.cl_Threads T.m_Threads_hang (ok_Threads_hang T) (hr.mono (by decide)) T.b_Threads_hang .nil pass0 (pa_cons (pv 4) pa_nil)))) pss_nil)))))))))), ?_⟩
    unfold m_Threads_take_out_A at hm
    have hS : Sep H (ThreadsA a_v_self v_self :: [imA a_v_name (v_name : Any), F] : List (Asn G)) := hS.sel [1, 0, 2] (by decide) rfl
    obtain ⟨dx1, p2, p3, p4, p5, hS⟩ := open_Threads hS
    have hS : Sep H ([cell a_v_self (.ins (G.cl 8) dx1 [("goes_to", (.ref p2)), ("pile_of", (.ref p3)), ("piles", (.ref p4)), ("comes_from", (.ref p5)), ("made", (.int (v_self.made)))]), dictA p2 (v_self.goes_to : (List (Str × Str))), dictA p3 (v_self.pile_of : (List (Str × Int))), dictE lstA p4 (v_self.piles : (List (Int × (List Str)))), dictE dictA p5 (v_self.comes_from : (List (Str × (List (Str × Bool))))), imA a_v_name (v_name : Any), F] : List (Asn G)) := hS
    refine f_seq ?_
    refine c_drop ?_
    refine c_meth ?_
    refine ev_to (ev_var rfl) ?_
    refine ⟨_, _, _, rfl, (hS.getCell (i := 0) rfl), rfl, ?_⟩
    refine ea_to (ea_cons (ev_var rfl) ea_nil) ?_
    have hS : Sep H (ThreadsA a_v_self v_self :: [imA a_v_name (v_name : Any), F] : List (Asn G)) := pack_Threads (hS.sel [0, 1, 2, 3, 4, 5, 6] (by decide) rfl)
    refine ⟨a_v_self, (v_self : Threads), a_v_name, (v_name : Any), star [imA a_v_name (v_name : Any), F], rfl, (hS.im (i := 1) rfl), Sep.unstar (M := [ThreadsA a_v_self v_self]) (hS.sel [0, 1, 2] (by decide) rfl : Sep H (([ThreadsA a_v_self v_self] ++ [imA a_v_name (v_name : Any), F] : List (Asn G)))), R.wp_mono (R.wp_bind hm) (fun r6 hm H hS => ?_) (fun x hx H hS => ?_)⟩
    ·
      have hS : Sep H ([ThreadsA a_v_self v_self, imA a_v_name (v_name : Any), F] : List (Asn G)) := Sep.star (M := [ThreadsA a_v_self v_self]) hS
      have hS : Sep H (ThreadsA a_v_self v_self :: [imA a_v_name (v_name : Any), F] : List (Asn G)) := hS.sel [0, 1, 2] (by decide) rfl
      obtain ⟨dx7, p8, p9, p10, p11, hS⟩ := open_Threads hS
      have hS : Sep H ([cell a_v_self (.ins (G.cl 8) dx7 [("goes_to", (.ref p8)), ("pile_of", (.ref p9)), ("piles", (.ref p10)), ("comes_from", (.ref p11)), ("made", (.int (v_self.made)))]), dictA p8 (v_self.goes_to : (List (Str × Str))), dictA p9 (v_self.pile_of : (List (Str × Int))), dictE lstA p10 (v_self.piles : (List (Int × (List Str)))), dictE dictA p11 (v_self.comes_from : (List (Str × (List (Str × Bool))))), imA a_v_name (v_name : Any), F] : List (Asn G)) := hS
      refine sq_nx ?_
      refine f_seq ?_
      refine c_asg ?_
      refine c_dpop1 ?_
      refine ev_to (ev_fld (ev_var rfl) (hS.getCell (i := 0) rfl) T.cl_Threads T.n_Threads_goes_to rfl) ?_
      refine k_pop1a (isD_of hS (i := 1) rfl) ?_
      refine ev_to (ev_var rfl) ?_
      obtain ⟨s12, hs13, hm⟩ := Ml.wp_asStr hm
      have hv14 := v_str (hS.im (i := 5) rfl) hs13
      subst hv14
      obtain ⟨y15, hy15, hm⟩ := wp_dgetX hm
      refine k_pop1A (k := s12) hS (i := 1) rfl hy15 rfl fun v16 H hS => ?_
      obtain rfl : v16 = (.str (y15)) := hS.im (i := 0) rfl
      have hS := hS.tail
      have hS : Sep H ([cell a_v_self (.ins (G.cl 8) dx7 [("goes_to", (.ref p8)), ("pile_of", (.ref p9)), ("piles", (.ref p10)), ("comes_from", (.ref p11)), ("made", (.int (v_self.made)))]), dictA p8 (ddrop v_self.goes_to s12 : (List (Str × Str))), dictA p9 (v_self.pile_of : (List (Str × Int))), dictE lstA p10 (v_self.piles : (List (Int × (List Str)))), dictE dictA p11 (v_self.comes_from : (List (Str × (List (Str × Bool))))), imA (.str (s12)) (v_name : Any), F] : List (Asn G)) := hS
      refine c_set (σ' := [some (.ref a_v_self), some (.str (s12)), some (.str (y15)), none, none]) rfl ?_
      refine sq_nx ?_
      refine f_seq ?_
      refine c_drop ?_
      refine c_dpop1 ?_
      refine c_dget ?_
      refine ev_to (ev_fld (ev_var rfl) (hS.getCell (i := 0) rfl) T.cl_Threads T.n_Threads_comes_from rfl) ?_
      refine k_dget1 ?_
      refine ev_to (ev_var rfl) ?_
      obtain ⟨x17, h18, hm⟩ := wp_dgetX hm
      refine k_dgetE (y := (x17 : (List (Str × Bool)))) (hS.sel [4, 0, 1, 2, 3, 5, 6] (by decide) rfl : Sep _ (dictE dictA p11 (v_self.comes_from : (List (Str × (List (Str × Bool))))) :: [cell a_v_self (.ins (G.cl 8) dx7 [("goes_to", (.ref p8)), ("pile_of", (.ref p9)), ("piles", (.ref p10)), ("comes_from", (.ref p11)), ("made", (.int (v_self.made)))]), dictA p8 (ddrop v_self.goes_to s12 : (List (Str × Str))), dictA p9 (v_self.pile_of : (List (Str × Int))), dictE lstA p10 (v_self.piles : (List (Int × (List Str)))), imA (.str (s12)) (v_name : Any), F] : List (Asn G))) h18 fun ps19 p20 j21 hl22 hj23 hp24 hS => ?_
      have hS : Sep H ([dictA p20 (x17 : (List (Str × Bool))), dictXH id dictA p11 ps19 (v_self.comes_from : (List (Str × (List (Str × Bool))))) j21, cell a_v_self (.ins (G.cl 8) dx7 [("goes_to", (.ref p8)), ("pile_of", (.ref p9)), ("piles", (.ref p10)), ("comes_from", (.ref p11)), ("made", (.int (v_self.made)))]), dictA p8 (ddrop v_self.goes_to s12 : (List (Str × Str))), dictA p9 (v_self.pile_of : (List (Str × Int))), dictE lstA p10 (v_self.piles : (List (Int × (List Str)))), imA (.str (s12)) (v_name : Any), F] : List (Asn G)) := hS
      refine k_pop1a (isD_of hS (i := 0) rfl) ?_
      refine ev_to (ev_var rfl) ?_
      obtain ⟨s25, hs26, hm⟩ := Ml.wp_asStr hm
      have hv27 := v_str (hS.im (i := 6) rfl) hs26
      injection hv27 with hv27; subst hv27
      obtain ⟨y28, hy28, hm⟩ := wp_dgetX hm
      refine k_pop1A (k := s12) hS (i := 0) rfl hy28 rfl fun v29 H hS => ?_
      obtain rfl : v29 = (.bl (y28)) := hS.im (i := 0) rfl
      have hS := hS.tail
      have hS : Sep H ([dictA p20 (ddrop x17 s12 : (List (Str × Bool))), dictXH id dictA p11 ps19 (v_self.comes_from : (List (Str × (List (Str × Bool))))) j21, cell a_v_self (.ins (G.cl 8) dx7 [("goes_to", (.ref p8)), ("pile_of", (.ref p9)), ("piles", (.ref p10)), ("comes_from", (.ref p11)), ("made", (.int (v_self.made)))]), dictA p8 (ddrop v_self.goes_to s12 : (List (Str × Str))), dictA p9 (v_self.pile_of : (List (Str × Int))), dictE lstA p10 (v_self.piles : (List (Int × (List Str)))), imA (.str (s12)) (v_name : Any), F] : List (Asn G)) := hS
      have hS : Sep H ([dictE dictA p11 (dput v_self.comes_from y15 (ddrop x17 s12) : (List (Str × (List (Str × Bool))))), cell a_v_self (.ins (G.cl 8) dx7 [("goes_to", (.ref p8)), ("pile_of", (.ref p9)), ("piles", (.ref p10)), ("comes_from", (.ref p11)), ("made", (.int (v_self.made)))]), dictA p8 (ddrop v_self.goes_to s12 : (List (Str × Str))), dictA p9 (v_self.pile_of : (List (Str × Int))), dictE lstA p10 (v_self.piles : (List (Int × (List Str)))), imA (.str (s12)) (v_name : Any), F] : List (Asn G)) := unfocDE (z := (ddrop x17 s12 : (List (Str × Bool)))) hl22 hj23 hp24 (hS.sel [0, 1, 2, 3, 4, 5, 6, 7] (by decide) rfl)
      refine sq_nx ?_
      refine f_seq ?_
      refine f_if ?_
      refine f_test ?_
      refine c_op ?_
      refine c_cb ?_
      refine c_cons ?_
      refine c_dget ?_
      refine ev_to (ev_fld (ev_var rfl) (hS.getCell (i := 1) rfl) T.cl_Threads T.n_Threads_comes_from rfl) ?_
      refine k_dget1 ?_
      refine ev_to (ev_var rfl) ?_
      obtain ⟨x30, h31, hm⟩ := wp_dgetX hm
      refine k_dgetE (y := (x30 : (List (Str × Bool)))) (hS.sel [0, 1, 2, 3, 4, 5, 6] (by decide) rfl : Sep _ (dictE dictA p11 (dput v_self.comes_from y15 (ddrop x17 s12) : (List (Str × (List (Str × Bool))))) :: [cell a_v_self (.ins (G.cl 8) dx7 [("goes_to", (.ref p8)), ("pile_of", (.ref p9)), ("piles", (.ref p10)), ("comes_from", (.ref p11)), ("made", (.int (v_self.made)))]), dictA p8 (ddrop v_self.goes_to s12 : (List (Str × Str))), dictA p9 (v_self.pile_of : (List (Str × Int))), dictE lstA p10 (v_self.piles : (List (Int × (List Str)))), imA (.str (s12)) (v_name : Any), F] : List (Asn G))) h31 fun ps32 p33 j34 hl35 hj36 hp37 hS => ?_
      have hS : Sep H ([dictA p33 (x30 : (List (Str × Bool))), dictXH id dictA p11 ps32 (dput v_self.comes_from y15 (ddrop x17 s12) : (List (Str × (List (Str × Bool))))) j34, cell a_v_self (.ins (G.cl 8) dx7 [("goes_to", (.ref p8)), ("pile_of", (.ref p9)), ("piles", (.ref p10)), ("comes_from", (.ref p11)), ("made", (.int (v_self.made)))]), dictA p8 (ddrop v_self.goes_to s12 : (List (Str × Str))), dictA p9 (v_self.pile_of : (List (Str × Int))), dictE lstA p10 (v_self.piles : (List (Int × (List Str)))), imA (.str (s12)) (v_name : Any), F] : List (Asn G)) := hS
      refine c_nil ?_
      obtain ⟨ps38, hp39, hl40⟩ := lenD_at hS (i := 0) rfl
      refine ⟨_, ps38, rfl, hp39, ?_⟩
      rw [hl40]
      have hS : Sep H ([dictE dictA p11 (dput v_self.comes_from y15 (ddrop x17 s12) : (List (Str × (List (Str × Bool))))), cell a_v_self (.ins (G.cl 8) dx7 [("goes_to", (.ref p8)), ("pile_of", (.ref p9)), ("piles", (.ref p10)), ("comes_from", (.ref p11)), ("made", (.int (v_self.made)))]), dictA p8 (ddrop v_self.goes_to s12 : (List (Str × Str))), dictA p9 (v_self.pile_of : (List (Str × Int))), dictE lstA p10 (v_self.piles : (List (Int × (List Str)))), imA (.str (s12)) (v_name : Any), F] : List (Asn G)) := unfocDE0 hl35 hj36 hp37 (hS.sel [0, 1, 2, 3, 4, 5, 6, 7] (by decide) rfl)
      refine ev_to ev_c ?_
      refine ev_op2 (ev_eqI ev_c ev_c) ?_
      refine f_bl ?_
      refine ifK_J (τ := (List (Str × (List (Str × Bool))))) (fun (s41 : (List (Str × (List (Str × Bool))))) (σ : L2.St) (H : Hp) => σ = [some (.ref a_v_self), some (.str (s12)), some (.str (y15)), none, none] ∧ Sep H ([dictE dictA p11 (s41 : (List (Str × (List (Str × Bool))))), cell a_v_self (.ins (G.cl 8) dx7 [("goes_to", (.ref p8)), ("pile_of", (.ref p9)), ("piles", (.ref p10)), ("comes_from", (.ref p11)), ("made", (.int (v_self.made)))]), dictA p8 (ddrop v_self.goes_to s12 : (List (Str × Str))), dictA p9 (v_self.pile_of : (List (Str × Int))), dictE lstA p10 (v_self.piles : (List (Int × (List Str)))), imA (.str (s12)) (v_name : Any), F] : List (Asn G))) hm (fun hb q hm nx => ?_) (fun hb q hm nx => ?_) (fun s41 σ H hm hI => ?_)
      ·
        refine c_drop ?_
        refine c_dpop1 ?_
        refine ev_to (ev_fld (ev_var rfl) (hS.getCell (i := 1) rfl) T.cl_Threads T.n_Threads_comes_from rfl) ?_
        refine k_pop1a (isD_Ei hS (i := 0) rfl) ?_
        refine ev_to (ev_var rfl) ?_
        obtain ⟨y42, hy42, hm⟩ := wp_dgetX hm
        refine k_pop1E (hS.sel [0, 1, 2, 3, 4, 5, 6] (by decide) rfl : Sep _ (dictE dictA p11 (dput v_self.comes_from y15 (ddrop x17 s12) : (List (Str × (List (Str × Bool))))) :: [cell a_v_self (.ins (G.cl 8) dx7 [("goes_to", (.ref p8)), ("pile_of", (.ref p9)), ("piles", (.ref p10)), ("comes_from", (.ref p11)), ("made", (.int (v_self.made)))]), dictA p8 (ddrop v_self.goes_to s12 : (List (Str × Str))), dictA p9 (v_self.pile_of : (List (Str × Int))), dictE lstA p10 (v_self.piles : (List (Int × (List Str)))), imA (.str (s12)) (v_name : Any), F] : List (Asn G))) hy42 fun v43 H hS => ?_
        have hS : Sep H ([dictA v43 (y42 : (List (Str × Bool))), dictE dictA p11 (ddrop (dput v_self.comes_from y15 (ddrop x17 s12)) y15 : (List (Str × (List (Str × Bool))))), cell a_v_self (.ins (G.cl 8) dx7 [("goes_to", (.ref p8)), ("pile_of", (.ref p9)), ("piles", (.ref p10)), ("comes_from", (.ref p11)), ("made", (.int (v_self.made)))]), dictA p8 (ddrop v_self.goes_to s12 : (List (Str × Str))), dictA p9 (v_self.pile_of : (List (Str × Int))), dictE lstA p10 (v_self.piles : (List (Int × (List Str)))), imA (.str (s12)) (v_name : Any), F] : List (Asn G)) := hS
        exact nx _ _ _ hm ⟨rfl, hS.sel [1, 2, 3, 4, 5, 6, 7] (by decide) rfl⟩
      ·
        refine st_nx ?_
        exact nx _ _ _ hm ⟨rfl, hS.sel [0, 1, 2, 3, 4, 5, 6] (by decide) rfl⟩
      · obtain ⟨rfl, hS⟩ := hI
        refine sq_nx ?_
        refine f_seq ?_
        refine c_asg ?_
        refine c_fz ?_
        refine c_dpop1 ?_
        refine ev_to (ev_fld (ev_var rfl) (hS.getCell (i := 1) rfl) T.cl_Threads T.n_Threads_piles rfl) ?_
        refine k_pop1a (isD_Ei hS (i := 4) rfl) ?_
        obtain ⟨s44, hs45, hm⟩ := Ml.wp_asStr hm
        have hv46 := v_str (hS.im (i := 5) rfl) hs45
        injection hv46 with hv46; subst hv46
        obtain ⟨y47, hy47, hm⟩ := wp_dget hm
        obtain ⟨v48, g49, hv50⟩ := dget_some hS (i := 3) rfl hy47
        have hv50 : v48 = (.int (y47)) := hv50
        subst hv50
        refine ev_to (ev_dget (y := y47) hS (i := 3) rfl (ev_fld (ev_var rfl) (hS.getCell (i := 1) rfl) T.cl_Threads T.n_Threads_pile_of rfl) (ev_var rfl) g49) ?_
        obtain ⟨y51, hy51, hm⟩ := wp_dgetX hm
        refine k_pop1E (hS.sel [4, 0, 1, 2, 3, 5, 6] (by decide) rfl : Sep _ (dictE lstA p10 (v_self.piles : (List (Int × (List Str)))) :: [dictE dictA p11 (s41 : (List (Str × (List (Str × Bool))))), cell a_v_self (.ins (G.cl 8) dx7 [("goes_to", (.ref p8)), ("pile_of", (.ref p9)), ("piles", (.ref p10)), ("comes_from", (.ref p11)), ("made", (.int (v_self.made)))]), dictA p8 (ddrop v_self.goes_to s12 : (List (Str × Str))), dictA p9 (v_self.pile_of : (List (Str × Int))), imA (.str (s12)) (v_name : Any), F] : List (Asn G))) hy51 fun v52 H hS => ?_
        have hS : Sep H ([lstA v52 (y51 : (List Str)), dictE lstA p10 (ddrop v_self.piles y47 : (List (Int × (List Str)))), dictE dictA p11 (s41 : (List (Str × (List (Str × Bool))))), cell a_v_self (.ins (G.cl 8) dx7 [("goes_to", (.ref p8)), ("pile_of", (.ref p9)), ("piles", (.ref p10)), ("comes_from", (.ref p11)), ("made", (.int (v_self.made)))]), dictA p8 (ddrop v_self.goes_to s12 : (List (Str × Str))), dictA p9 (v_self.pile_of : (List (Str × Int))), imA (.str (s12)) (v_name : Any), F] : List (Asn G)) := hS
        refine fz_no ?_
        refine c_set (σ' := [some (.ref a_v_self), some (.str (s12)), some (.str (y15)), some (.ref v52), none]) rfl ?_
        refine sq_nx ?_
        refine f_seq ?_
        refine c_for ?_
        refine c_il ?_
        refine ev_to (ev_fz (ev_var rfl)) ?_
        refine k_il hS (i := 0) rfl ?_
        refine k_for (τ := (List (Str × Int))) (fun (s53 : (List (Str × Int))) (σ : L2.St) (H : Hp) => ∃ (w56 : Option V), σ = [some (.ref a_v_self), some (.str (s12)), some (.str (y15)), some (.ref v52), w56] ∧ Sep H ([lstA v52 (y51 : (List Str)), dictE lstA p10 (ddrop v_self.piles y47 : (List (Int × (List Str)))), dictE dictA p11 (s41 : (List (Str × (List (Str × Bool))))), cell a_v_self (.ins (G.cl 8) dx7 [("goes_to", (.ref p8)), ("pile_of", (.ref p9)), ("piles", (.ref p10)), ("comes_from", (.ref p11)), ("made", (.int (v_self.made)))]), dictA p8 (ddrop v_self.goes_to s12 : (List (Str × Str))), dictA p9 (s53 : (List (Str × Int))), imA (.str (s12)) (v_name : Any), F] : List (Asn G))) (im := (Im.im G)) (s := (v_self.pile_of)) (fun _ => wk_list fun _ _ ⟨_, _, h⟩ => h.sq (i := 0) rfl) ⟨_, rfl, hS.sel [0, 1, 2, 3, 4, 5, 6, 7] (by decide) rfl⟩ hm (fun s53 x54 v55 σ H q N hI hx hm nx => ?_) (fun s53 σ H hm hI => ?_)
        ·
          obtain ⟨w56, rfl, hS⟩ := hI
          cases hx
          refine c_gN (σ' := [some (.ref a_v_self), some (.str (s12)), some (.str (y15)), some (.ref v52), some (.str (x54))]) rfl ?_
          refine c_drop ?_
          refine c_dpop1 ?_
          refine ev_to (ev_fld (ev_var rfl) (hS.getCell (i := 3) rfl) T.cl_Threads T.n_Threads_pile_of rfl) ?_
          refine k_pop1a (isD_of hS (i := 5) rfl) ?_
          refine ev_to (ev_var rfl) ?_
          obtain ⟨y57, hy57, hm⟩ := wp_dgetX hm
          refine k_pop1A (k := x54) hS (i := 5) rfl hy57 rfl fun v58 H hS => ?_
          obtain rfl : v58 = (.int (y57)) := hS.im (i := 0) rfl
          have hS := hS.tail
          have hS : Sep H ([lstA v52 (y51 : (List Str)), dictE lstA p10 (ddrop v_self.piles y47 : (List (Int × (List Str)))), dictE dictA p11 (s41 : (List (Str × (List (Str × Bool))))), cell a_v_self (.ins (G.cl 8) dx7 [("goes_to", (.ref p8)), ("pile_of", (.ref p9)), ("piles", (.ref p10)), ("comes_from", (.ref p11)), ("made", (.int (v_self.made)))]), dictA p8 (ddrop v_self.goes_to s12 : (List (Str × Str))), dictA p9 (ddrop s53 x54 : (List (Str × Int))), imA (.str (s12)) (v_name : Any), F] : List (Asn G)) := hS
          exact nx _ _ _ hm ⟨_, rfl, hS.sel [0, 1, 2, 3, 4, 5, 6, 7] (by decide) rfl⟩
        · obtain ⟨w56, rfl, hS⟩ := hI
          refine sq_nx ?_
          refine c_for ?_
          refine c_il ?_
          refine ev_to (ev_fz (ev_var rfl)) ?_
          refine k_il hS (i := 0) rfl ?_
          have hS : Sep H (ThreadsA a_v_self (⟨ddrop v_self.goes_to s12, s53, ddrop v_self.piles y47, s41, v_self.made⟩ : Threads) :: [lstA v52 (y51 : (List Str)), imA (.str (s12)) (v_name : Any), F] : List (Asn G)) := pack_Threads (hS.sel [3, 4, 5, 1, 2, 0, 6, 7] (by decide) rfl)
          refine k_for (τ := Threads) (fun (s59 : Threads) (σ : L2.St) (H : Hp) => ∃ (w62 : Option V), σ = [some (.ref a_v_self), some (.str (s12)), some (.str (y15)), some (.ref v52), w62] ∧ Sep H ([ThreadsA a_v_self s59, lstA v52 (y51 : (List Str)), imA (.str (s12)) (v_name : Any), F] : List (Asn G))) (im := (Im.im G)) (s := ((⟨ddrop v_self.goes_to s12, s53, ddrop v_self.piles y47, s41, v_self.made⟩ : Threads))) (fun _ => wk_list fun _ _ ⟨_, _, h⟩ => h.sq (i := 1) rfl) ⟨_, rfl, hS.sel [0, 1, 2, 3] (by decide) rfl⟩ hm (fun s59 x60 v61 σ H q N hI hx hm nx => ?_) (fun s59 σ H hm hI => ?_)
          ·
            obtain ⟨w62, rfl, hS⟩ := hI
            cases hx
            refine c_gN (σ' := [some (.ref a_v_self), some (.str (s12)), some (.str (y15)), some (.ref v52), some (.str (x60))]) rfl ?_
            have hS : Sep H (ThreadsA a_v_self s59 :: [lstA v52 (y51 : (List Str)), imA (.str (s12)) (v_name : Any), F] : List (Asn G)) := hS.sel [0, 1, 2, 3] (by decide) rfl
            obtain ⟨dx63, p64, p65, p66, p67, hS⟩ := open_Threads hS
            have hS : Sep H ([cell a_v_self (.ins (G.cl 8) dx63 [("goes_to", (.ref p64)), ("pile_of", (.ref p65)), ("piles", (.ref p66)), ("comes_from", (.ref p67)), ("made", (.int (s59.made)))]), dictA p64 (s59.goes_to : (List (Str × Str))), dictA p65 (s59.pile_of : (List (Str × Int))), dictE lstA p66 (s59.piles : (List (Int × (List Str)))), dictE dictA p67 (s59.comes_from : (List (Str × (List (Str × Bool))))), lstA v52 (y51 : (List Str)), imA (.str (s12)) (v_name : Any), F] : List (Asn G)) := hS
            refine f_if ?_
            refine et_to (et_B (ev_din hS (i := 1) (k := x60) rfl (ev_var rfl) (ev_fld (ev_var rfl) (hS.getCell (i := 0) rfl) T.cl_Threads T.n_Threads_goes_to rfl))) ?_
            have hS : Sep H (ThreadsA a_v_self s59 :: [lstA v52 (y51 : (List Str)), imA (.str (s12)) (v_name : Any), F] : List (Asn G)) := pack_Threads (hS.sel [0, 1, 2, 3, 4, 5, 6, 7] (by decide) rfl)
            refine ifK_J (τ := Threads) (fun (s68 : Threads) (σ : L2.St) (H : Hp) => σ = [some (.ref a_v_self), some (.str (s12)), some (.str (y15)), some (.ref v52), some (.str (x60))] ∧ Sep H ([ThreadsA a_v_self s68, lstA v52 (y51 : (List Str)), imA (.str (s12)) (v_name : Any), F] : List (Asn G))) hm (fun hb q hm nx => ?_) (fun hb q hm nx => ?_) (fun s68 σ H hm hI => ?_)
            ·
              have hS : Sep H (ThreadsA a_v_self s59 :: [lstA v52 (y51 : (List Str)), imA (.str (s12)) (v_name : Any), F] : List (Asn G)) := hS.sel [0, 1, 2, 3] (by decide) rfl
              obtain ⟨dx69, p70, p71, p72, p73, hS⟩ := open_Threads hS
              have hS : Sep H ([cell a_v_self (.ins (G.cl 8) dx69 [("goes_to", (.ref p70)), ("pile_of", (.ref p71)), ("piles", (.ref p72)), ("comes_from", (.ref p73)), ("made", (.int (s59.made)))]), dictA p70 (s59.goes_to : (List (Str × Str))), dictA p71 (s59.pile_of : (List (Str × Int))), dictE lstA p72 (s59.piles : (List (Int × (List Str)))), dictE dictA p73 (s59.comes_from : (List (Str × (List (Str × Bool))))), lstA v52 (y51 : (List Str)), imA (.str (s12)) (v_name : Any), F] : List (Asn G)) := hS
              refine c_drop ?_
              refine c_meth ?_
              refine ev_to (ev_var rfl) ?_
              refine ⟨_, _, _, rfl, (hS.getCell (i := 0) rfl), rfl, ?_⟩
              refine ea_to (ea_cons (ev_var rfl) ea_nil) ?_
              have hS : Sep H (ThreadsA a_v_self s59 :: [lstA v52 (y51 : (List Str)), imA (.str (s12)) (v_name : Any), F] : List (Asn G)) := pack_Threads (hS.sel [0, 1, 2, 3, 4, 5, 6, 7] (by decide) rfl)
              refine ⟨a_v_self, (s59 : Threads), x60, star [lstA v52 (y51 : (List Str)), imA (.str (s12)) (v_name : Any), F], rfl, Sep.unstar (M := [ThreadsA a_v_self s59]) (hS.sel [0, 1, 2, 3] (by decide) rfl : Sep H (([ThreadsA a_v_self s59] ++ [lstA v52 (y51 : (List Str)), imA (.str (s12)) (v_name : Any), F] : List (Asn G)))), R.wp_mono (R.wp_noexc hm) (fun r74 hm H hS => ?_) (fun _ z => z)⟩
              have hS : Sep H ([ThreadsA a_v_self r74, lstA v52 (y51 : (List Str)), imA (.str (s12)) (v_name : Any), F] : List (Asn G)) := Sep.star (M := [ThreadsA a_v_self r74]) hS
              have hS : Sep H (ThreadsA a_v_self r74 :: [lstA v52 (y51 : (List Str)), imA (.str (s12)) (v_name : Any), F] : List (Asn G)) := hS.sel [0, 1, 2, 3] (by decide) rfl
              obtain ⟨dx75, p76, p77, p78, p79, hS⟩ := open_Threads hS
              have hS : Sep H ([cell a_v_self (.ins (G.cl 8) dx75 [("goes_to", (.ref p76)), ("pile_of", (.ref p77)), ("piles", (.ref p78)), ("comes_from", (.ref p79)), ("made", (.int (r74.made)))]), dictA p76 (r74.goes_to : (List (Str × Str))), dictA p77 (r74.pile_of : (List (Str × Int))), dictE lstA p78 (r74.piles : (List (Int × (List Str)))), dictE dictA p79 (r74.comes_from : (List (Str × (List (Str × Bool))))), lstA v52 (y51 : (List Str)), imA (.str (s12)) (v_name : Any), F] : List (Asn G)) := hS
              have hS : Sep H (ThreadsA a_v_self r74 :: [lstA v52 (y51 : (List Str)), imA (.str (s12)) (v_name : Any), F] : List (Asn G)) := pack_Threads (hS.sel [0, 1, 2, 3, 4, 5, 6, 7] (by decide) rfl)
              exact nx _ _ _ hm ⟨rfl, hS.sel [0, 1, 2, 3] (by decide) rfl⟩
            ·
              have hS : Sep H (ThreadsA a_v_self s59 :: [lstA v52 (y51 : (List Str)), imA (.str (s12)) (v_name : Any), F] : List (Asn G)) := hS.sel [0, 1, 2, 3] (by decide) rfl
              obtain ⟨dx80, p81, p82, p83, p84, hS⟩ := open_Threads hS
              have hS : Sep H ([cell a_v_self (.ins (G.cl 8) dx80 [("goes_to", (.ref p81)), ("pile_of", (.ref p82)), ("piles", (.ref p83)), ("comes_from", (.ref p84)), ("made", (.int (s59.made)))]), dictA p81 (s59.goes_to : (List (Str × Str))), dictA p82 (s59.pile_of : (List (Str × Int))), dictE lstA p83 (s59.piles : (List (Int × (List Str)))), dictE dictA p84 (s59.comes_from : (List (Str × (List (Str × Bool))))), lstA v52 (y51 : (List Str)), imA (.str (s12)) (v_name : Any), F] : List (Asn G)) := hS
              refine st_nx ?_
              have hS : Sep H (ThreadsA a_v_self s59 :: [lstA v52 (y51 : (List Str)), imA (.str (s12)) (v_name : Any), F] : List (Asn G)) := pack_Threads (hS.sel [0, 1, 2, 3, 4, 5, 6, 7] (by decide) rfl)
              exact nx _ _ _ hm ⟨rfl, hS.sel [0, 1, 2, 3] (by decide) rfl⟩
            · obtain ⟨rfl, hS⟩ := hI
              have hS : Sep H (ThreadsA a_v_self s68 :: [lstA v52 (y51 : (List Str)), imA (.str (s12)) (v_name : Any), F] : List (Asn G)) := hS.sel [0, 1, 2, 3] (by decide) rfl
              obtain ⟨dx85, p86, p87, p88, p89, hS⟩ := open_Threads hS
              have hS : Sep H ([cell a_v_self (.ins (G.cl 8) dx85 [("goes_to", (.ref p86)), ("pile_of", (.ref p87)), ("piles", (.ref p88)), ("comes_from", (.ref p89)), ("made", (.int (s68.made)))]), dictA p86 (s68.goes_to : (List (Str × Str))), dictA p87 (s68.pile_of : (List (Str × Int))), dictE lstA p88 (s68.piles : (List (Int × (List Str)))), dictE dictA p89 (s68.comes_from : (List (Str × (List (Str × Bool))))), lstA v52 (y51 : (List Str)), imA (.str (s12)) (v_name : Any), F] : List (Asn G)) := hS
              have hS : Sep H (ThreadsA a_v_self s68 :: [lstA v52 (y51 : (List Str)), imA (.str (s12)) (v_name : Any), F] : List (Asn G)) := pack_Threads (hS.sel [0, 1, 2, 3, 4, 5, 6, 7] (by decide) rfl)
              exact nx _ _ _ hm ⟨_, rfl, hS.sel [0, 1, 2, 3] (by decide) rfl⟩
          · obtain ⟨w62, rfl, hS⟩ := hI
            have hS : Sep H (ThreadsA a_v_self s59 :: [lstA v52 (y51 : (List Str)), imA (.str (s12)) (v_name : Any), F] : List (Asn G)) := hS.sel [0, 1, 2, 3] (by decide) rfl
            obtain ⟨dx90, p91, p92, p93, p94, hS⟩ := open_Threads hS
            have hS : Sep H ([cell a_v_self (.ins (G.cl 8) dx90 [("goes_to", (.ref p91)), ("pile_of", (.ref p92)), ("piles", (.ref p93)), ("comes_from", (.ref p94)), ("made", (.int (s59.made)))]), dictA p91 (s59.goes_to : (List (Str × Str))), dictA p92 (s59.pile_of : (List (Str × Int))), dictE lstA p93 (s59.piles : (List (Int × (List Str)))), dictE dictA p94 (s59.comes_from : (List (Str × (List (Str × Bool))))), lstA v52 (y51 : (List Str)), imA (.str (s12)) (v_name : Any), F] : List (Asn G)) := hS
            have hS : Sep H (ThreadsA a_v_self s59 :: [lstA v52 (y51 : (List Str)), imA (.str (s12)) (v_name : Any), F] : List (Asn G)) := pack_Threads (hS.sel [0, 1, 2, 3, 4, 5, 6, 7] (by decide) rfl)
            exact hm _ (hS.sel [0, 3] (by decide) rfl)
    ·
      have hS : Sep H ([ThreadsA a_v_self v_self, imA a_v_name (v_name : Any), F] : List (Asn G)) := Sep.star (M := [ThreadsA a_v_self v_self]) hS
      exact hx _ (hS.sel [0, 2] (by decide) rfl)
def sp_Threads_names (G : Gx) : Sp := fun vs H Q E => ∃ (a_v_self : Addr) (v_self : Threads) (F : Asn G), vs = [.ref a_v_self] ∧ Sep H ([ThreadsA a_v_self v_self, F] : List (Asn G)) ∧ R.wp (m_Threads_names v_self) (fun r => ∀ p H', Sep H' ([lstA p (r : (List Str)), ThreadsA a_v_self v_self, F] : List (Asn G)) → Q (.ref p) H') (fun _ => False)
abbrev N_Threads_names : List Str := ["self"]
theorem sc_Threads_names : FnScope N_Threads_names ["self"] (defScope s_Threads_names) := ⟨rfl, rfl, rfl, by decide +kernel, rfl, by decide +kernel, by decide +kernel⟩
theorem ok_Threads_names (T : Txt G mg) : FnOk P w G.K mg base CX0 1 T.a_Threads_names T.fd_Threads_names ["self"] (sp_Threads_names G) := by
  have nd := sc_Threads_names.nd
  refine Fun.ok T.F_Threads_names sc_Threads_names (fun vs H Q E h => ?_) (fun cdv A outer s H vs Q E hr h => ?_)
  · obtain ⟨a_v_self, v_self, F, rfl, _⟩ := h; rfl
  · obtain ⟨a_v_self, v_self, F, rfl, hS, hm⟩ := h
    refine ⟨_, (pss_one (ps_ret (pe_fz (pe_callB (cr_sortD rfl) (by rfl) T.z_sorted (by decide +kernel) (pa_cons (pe_fld (pv 0) rfl) pa_nil))))), ?_⟩
    unfold m_Threads_names at hm
    have hS : Sep H (ThreadsA a_v_self v_self :: [F] : List (Asn G)) := hS.sel [0, 1] (by decide) rfl
    obtain ⟨dx1, p2, p3, p4, p5, hS⟩ := open_Threads hS
    have hS : Sep H ([cell a_v_self (.ins (G.cl 8) dx1 [("goes_to", (.ref p2)), ("pile_of", (.ref p3)), ("piles", (.ref p4)), ("comes_from", (.ref p5)), ("made", (.int (v_self.made)))]), dictA p2 (v_self.goes_to : (List (Str × Str))), dictA p3 (v_self.pile_of : (List (Str × Int))), dictE lstA p4 (v_self.piles : (List (Int × (List Str)))), dictE dictA p5 (v_self.comes_from : (List (Str × (List (Str × Bool))))), F] : List (Asn G)) := hS
    refine c_ret ?_
    refine c_fz ?_
    refine c_cb ?_
    refine ea_to (ea_cons (ev_fld (ev_var rfl) (hS.getCell (i := 0) rfl) T.cl_Threads T.n_Threads_goes_to rfl) ea_nil) ?_
    obtain ⟨h7, hm⟩ := R.wp_need hm
    refine k_sortDA hS (i := 1) rfl h7 fun p6 H hS => ?_
    refine fz_no ?_
    have hS : Sep H (ThreadsA a_v_self v_self :: [lstA p6 (sortT (v_self.goes_to.map (·.1)) : (List Str)), F] : List (Asn G)) := pack_Threads (hS.sel [1, 2, 3, 4, 5, 0, 6] (by decide) rfl)
    exact hm _ _ (hS.sel [1, 0, 2] (by decide) rfl)
def sp_Threads_thread (G : Gx) : Sp := fun vs H Q E => ∃ (a_v_self : Addr) (v_self : Threads) (v_name : Str) (F : Asn G), vs = [.ref a_v_self, (.str (v_name))] ∧ Sep H ([ThreadsA a_v_self v_self, F] : List (Asn G)) ∧ R.wp (m_Threads_thread v_self v_name) (fun r => ∀ p H', Sep H' ([lstA p (r : (List Str)), ThreadsA a_v_self v_self, F] : List (Asn G)) → Q (.ref p) H') (fun x => ∀ H', Sep H' ([ThreadsA a_v_self v_self, F] : List (Asn G)) → Eok G x E H')
abbrev N_Threads_thread : List Str := ["self", "name", "one"]
theorem sc_Threads_thread : FnScope N_Threads_thread ["self", "name"] (defScope s_Threads_thread) := ⟨rfl, rfl, rfl, by decide +kernel, rfl, by decide +kernel, by decide +kernel⟩
theorem ok_Threads_thread (T : Txt G mg) : FnOk P w G.K mg base (L2.CX P w) 2 T.a_Threads_thread T.fd_Threads_thread ["self", "name"] (sp_Threads_thread G) := by
  have nd := sc_Threads_thread.nd
  refine Fun.okX T.F_Threads_thread sc_Threads_thread (fun vs H Q E h => ?_) (fun cdv A outer s H vs Q E hr h => ?_)
  · obtain ⟨a_v_self, v_self, v_name, F, rfl, _⟩ := h; rfl
  · obtain ⟨a_v_self, v_self, v_name, F, rfl, hS, hm⟩ := h
    refine ⟨_, (pss_cons (ps_expr (pe_meth (pv 0) T.cl_Threads T.m_Threads_sure (ok_Threads_sure T) (hr.mono (by decide)) T.b_Threads_sure .nil (passes_call (takes_of rfl rfl rfl rfl) (fun _ _ _ _ h => h)) (pa_cons (pv 1) pa_nil)))
      (pss_one (ps_ret (pe_fz (pe_callB (sortedSK G.K) (by rfl) T.z_sorted (by decide +kernel) (pa_cons (pe_fz (pe_lc (own := [("one", 2)]) (g := gName 2) rfl nd (pi_listK G.K (pe_fz (pe_dget (hu_of hr) (pe_fld (pv 0) rfl) (pe_dget (hu_of hr) (pe_fld (pv 0) rfl) (pv 1) (fun _ _ => rfl)) (fun _ _ => rfl)))) (blkOk_by (own := [("one", 2)]) (N := N_Threads_thread) (sc := defScope s_Threads_thread) (by decide +kernel)) (fun _ _ _ _ _ => pg_name (i := 2) nd rfl (Or.inl rfl)) (fun _ _ _ _ _ => pts_one (pt_cmp (pc_din (hu_of hr) (pv 2) (pe_fldK G.K (pv 0))))) (fun _ _ _ _ _ => (pv 2)))) pa_nil)))))), ?_⟩
    unfold m_Threads_thread at hm
    have hS : Sep H (ThreadsA a_v_self v_self :: [F] : List (Asn G)) := hS.sel [0, 1] (by decide) rfl
    obtain ⟨dx1, p2, p3, p4, p5, hS⟩ := open_Threads hS
    have hS : Sep H ([cell a_v_self (.ins (G.cl 8) dx1 [("goes_to", (.ref p2)), ("pile_of", (.ref p3)), ("piles", (.ref p4)), ("comes_from", (.ref p5)), ("made", (.int (v_self.made)))]), dictA p2 (v_self.goes_to : (List (Str × Str))), dictA p3 (v_self.pile_of : (List (Str × Int))), dictE lstA p4 (v_self.piles : (List (Int × (List Str)))), dictE dictA p5 (v_self.comes_from : (List (Str × (List (Str × Bool))))), F] : List (Asn G)) := hS
    refine f_seq ?_
    refine c_drop ?_
    refine c_meth ?_
    refine ev_to (ev_var rfl) ?_
    refine ⟨_, _, _, rfl, (hS.getCell (i := 0) rfl), rfl, ?_⟩
    refine ea_to (ea_cons (ev_var rfl) ea_nil) ?_
    have hS : Sep H (ThreadsA a_v_self v_self :: [F] : List (Asn G)) := pack_Threads (hS.sel [0, 1, 2, 3, 4, 5] (by decide) rfl)
    refine ⟨a_v_self, (v_self : Threads), v_name, star [F], rfl, Sep.unstar (M := [ThreadsA a_v_self v_self]) (hS.sel [0, 1] (by decide) rfl : Sep H (([ThreadsA a_v_self v_self] ++ [F] : List (Asn G)))), R.wp_mono (R.wp_bind hm) (fun r6 hm H hS => ?_) (fun x hx H hS => ?_)⟩
    ·
      have hS : Sep H ([ThreadsA a_v_self v_self, F] : List (Asn G)) := Sep.star (M := [ThreadsA a_v_self v_self]) hS
      have hS : Sep H (ThreadsA a_v_self v_self :: [F] : List (Asn G)) := hS.sel [0, 1] (by decide) rfl
      obtain ⟨dx7, p8, p9, p10, p11, hS⟩ := open_Threads hS
      have hS : Sep H ([cell a_v_self (.ins (G.cl 8) dx7 [("goes_to", (.ref p8)), ("pile_of", (.ref p9)), ("piles", (.ref p10)), ("comes_from", (.ref p11)), ("made", (.int (v_self.made)))]), dictA p8 (v_self.goes_to : (List (Str × Str))), dictA p9 (v_self.pile_of : (List (Str × Int))), dictE lstA p10 (v_self.piles : (List (Int × (List Str)))), dictE dictA p11 (v_self.comes_from : (List (Str × (List (Str × Bool))))), F] : List (Asn G)) := hS
      refine sq_nx ?_
      refine c_ret ?_
      refine c_fz ?_
      refine c_cb ?_
      refine c_cons ?_
      refine c_fz ?_
      refine c_lc ?_
      refine c_il ?_
      refine c_fz ?_
      refine c_dget ?_
      refine ev_to (ev_fld (ev_var rfl) (hS.getCell (i := 0) rfl) T.cl_Threads T.n_Threads_piles rfl) ?_
      refine k_dget1 ?_
      obtain ⟨y12, hy12, hm⟩ := wp_dget hm
      obtain ⟨v13, g14, hv15⟩ := dget_some hS (i := 2) rfl hy12
      have hv15 : v13 = (.int (y12)) := hv15
      subst hv15
      refine ev_to (ev_dget (y := y12) hS (i := 2) rfl (ev_fld (ev_var rfl) (hS.getCell (i := 0) rfl) T.cl_Threads T.n_Threads_pile_of rfl) (ev_var rfl) g14) ?_
      obtain ⟨x16, h17, hm⟩ := wp_dgetX hm
      refine k_dgetE (y := (x16 : (List Str))) (hS.sel [3, 0, 1, 2, 4, 5] (by decide) rfl : Sep _ (dictE lstA p10 (v_self.piles : (List (Int × (List Str)))) :: [cell a_v_self (.ins (G.cl 8) dx7 [("goes_to", (.ref p8)), ("pile_of", (.ref p9)), ("piles", (.ref p10)), ("comes_from", (.ref p11)), ("made", (.int (v_self.made)))]), dictA p8 (v_self.goes_to : (List (Str × Str))), dictA p9 (v_self.pile_of : (List (Str × Int))), dictE dictA p11 (v_self.comes_from : (List (Str × (List (Str × Bool))))), F] : List (Asn G))) h17 fun ps18 p19 j20 hl21 hj22 hp23 hS => ?_
      have hS : Sep H ([lstA p19 (x16 : (List Str)), dictXH id lstA p10 ps18 (v_self.piles : (List (Int × (List Str)))) j20, cell a_v_self (.ins (G.cl 8) dx7 [("goes_to", (.ref p8)), ("pile_of", (.ref p9)), ("piles", (.ref p10)), ("comes_from", (.ref p11)), ("made", (.int (v_self.made)))]), dictA p8 (v_self.goes_to : (List (Str × Str))), dictA p9 (v_self.pile_of : (List (Str × Int))), dictE dictA p11 (v_self.comes_from : (List (Str × (List (Str × Bool))))), F] : List (Asn G)) := hS
      refine fz_no ?_
      refine k_il hS (i := 0) rfl ?_
      obtain ⟨h24, hm⟩ := R.wp_need hm
      refine lc_sep (β := Str) (fun (_ : Unit) => ([lstA p19 (x16 : (List Str)), dictXH id lstA p10 ps18 (v_self.piles : (List (Int × (List Str)))) j20, cell a_v_self (.ins (G.cl 8) dx7 [("goes_to", (.ref p8)), ("pile_of", (.ref p9)), ("piles", (.ref p10)), ("comes_from", (.ref p11)), ("made", (.int (v_self.made)))]), dictA p8 (v_self.goes_to : (List (Str × Str))), dictA p9 (v_self.pile_of : (List (Str × Int))), dictE dictA p11 (v_self.comes_from : (List (Str × (List (Str × Bool))))), F] : List (Asn G))) (s := ()) (im := (Im.im G)) hS (fun _ _ _ => wk_list fun _ _ h => h.sq (i := 1) rfl) h24 hm (fun p25 _ ys28 x26 v27 H q Nx hS hx hm kS kN => ?_) (fun p25 t H hm hS => ?_)
      ·
        cases hx
        refine c_gLc (σ' := [some (.ref a_v_self), some (.str (v_name)), some (.str (x26))]) rfl rfl ?_
        refine et_to (et_B (ev_din hS (i := 4) (k := x26) rfl (ev_var rfl) (ev_fld (ev_var rfl) (hS.getCell (i := 3) rfl) T.cl_Threads T.n_Threads_goes_to rfl))) ?_
        refine lc_if (fun hb29 => ?_) (fun hb29 => ?_)
        · have hm := R.wp_ifY hm hb29
          refine ev_to (ev_var rfl) ?_
          exact kS () _ _ _ hm rfl (hS.sel [0, 1, 2, 3, 4, 5, 6, 7] (by decide) rfl)
        · have hm := R.wp_ifN hm (by first | (rw [hb29]; decide) | simpa using hb29)
          exact kN () _ hm (hS.sel [0, 1, 2, 3, 4, 5, 6, 7] (by decide) rfl)
      · revert hm hS; generalize t = t30; intro hm hS
        refine fz_no ?_
        refine c_nil ?_
        obtain ⟨h32, hm⟩ := R.wp_need hm
        refine k_sorted hS (hS.sqF (i := 0) rfl) h32 fun p31 H hS => ?_
        refine fz_no ?_
        have hS : Sep H ([dictE lstA p10 (v_self.piles : (List (Int × (List Str)))), lstA p31 (sortT t30.2 : (List Str)), lstA p25 (t30.2 : (List Str)), cell a_v_self (.ins (G.cl 8) dx7 [("goes_to", (.ref p8)), ("pile_of", (.ref p9)), ("piles", (.ref p10)), ("comes_from", (.ref p11)), ("made", (.int (v_self.made)))]), dictA p8 (v_self.goes_to : (List (Str × Str))), dictA p9 (v_self.pile_of : (List (Str × Int))), dictE dictA p11 (v_self.comes_from : (List (Str × (List (Str × Bool))))), F] : List (Asn G)) := unfocDE0 hl21 hj22 hp23 (hS.sel [2, 3, 0, 1, 4, 5, 6, 7, 8] (by decide) rfl)
        have hS : Sep H (ThreadsA a_v_self v_self :: [lstA p31 (sortT t30.2 : (List Str)), lstA p25 (t30.2 : (List Str)), F] : List (Asn G)) := pack_Threads (hS.sel [3, 4, 5, 0, 6, 1, 2, 7] (by decide) rfl)
        exact hm _ _ (hS.sel [1, 0, 3] (by decide) rfl)
    ·
      have hS : Sep H ([ThreadsA a_v_self v_self, F] : List (Asn G)) := Sep.star (M := [ThreadsA a_v_self v_self]) hS
      exact hx _ (hS.sel [0, 1] (by decide) rfl)
def sp_Threads_thread_A (G : Gx) : Sp := fun vs H Q E => ∃ (a_v_self : Addr) (v_self : Threads) (a_v_name : V) (v_name : Any) (F : Asn G), vs = [.ref a_v_self, a_v_name] ∧ Im.im G H a_v_name v_name ∧ Sep H ([ThreadsA a_v_self v_self, F] : List (Asn G)) ∧ R.wp (m_Threads_thread_A v_self v_name) (fun r => ∀ p H', Sep H' ([lstA p (r : (List Str)), ThreadsA a_v_self v_self, F] : List (Asn G)) → Q (.ref p) H') (fun x => ∀ H', Sep H' ([ThreadsA a_v_self v_self, F] : List (Asn G)) → Eok G x E H')
abbrev N_Threads_thread_A : List Str := ["self", "name", "one"]
theorem sc_Threads_thread_A : FnScope N_Threads_thread_A ["self", "name"] (defScope s_Threads_thread) := ⟨rfl, rfl, rfl, by decide +kernel, rfl, by decide +kernel, by decide +kernel⟩
theorem ok_Threads_thread_A (T : Txt G mg) : FnOk P w G.K mg base (L2.CX P w) 2 T.a_Threads_thread T.fd_Threads_thread ["self", "name"] (sp_Threads_thread_A G) := by
  have nd := sc_Threads_thread_A.nd
  refine Fun.okX T.F_Threads_thread sc_Threads_thread_A (fun vs H Q E h => ?_) (fun cdv A outer s H vs Q E hr h => ?_)
  · obtain ⟨a_v_self, v_self, a_v_name, v_name, F, rfl, _⟩ := h; rfl
  · obtain ⟨a_v_self, v_self, a_v_name, v_name, F, rfl, him_v_name, hS, hm⟩ := h
    have hS := hS.addIm him_v_name
    refine ⟨_, (pss_cons (ps_expr (pe_meth (pv 0) T.cl_Threads T.m_Threads_sure (ok_Threads_sure_A T) (hr.mono (by decide)) T.b_Threads_sure .nil (passes_call (takes_of rfl rfl rfl rfl) (fun _ _ _ _ h => h)) (pa_cons (pv 1) pa_nil)))
      (pss_one (ps_ret (pe_fz (pe_callB (sortedSK G.K) (by rfl) T.z_sorted (by decide +kernel) (pa_cons (pe_fz (pe_lc (own := [("one", 2)]) (g := gName 2) rfl nd (pi_listK G.K (pe_fz (pe_dget (hu_of hr) (pe_fld (pv 0) rfl) (pe_dget (hu_of hr) (pe_fld (pv 0) rfl) (pv 1) (fun _ _ => rfl)) (fun _ _ => rfl)))) (blkOk_by (own := [("one", 2)]) (N := N_Threads_thread_A) (sc := defScope s_Threads_thread) (by decide +kernel)) (fun _ _ _ _ _ => pg_name (i := 2) nd rfl (Or.inl rfl)) (fun _ _ _ _ _ => pts_one (pt_cmp (pc_din (hu_of hr) (pv 2) (pe_fldK G.K (pv 0))))) (fun _ _ _ _ _ => (pv 2)))) pa_nil)))))), ?_⟩
    unfold m_Threads_thread_A at hm
    have hS : Sep H (ThreadsA a_v_self v_self :: [imA a_v_name (v_name : Any), F] : List (Asn G)) := hS.sel [1, 0, 2] (by decide) rfl
    obtain ⟨dx1, p2, p3, p4, p5, hS⟩ := open_Threads hS
    have hS : Sep H ([cell a_v_self (.ins (G.cl 8) dx1 [("goes_to", (.ref p2)), ("pile_of", (.ref p3)), ("piles", (.ref p4)), ("comes_from", (.ref p5)), ("made", (.int (v_self.made)))]), dictA p2 (v_self.goes_to : (List (Str × Str))), dictA p3 (v_self.pile_of : (List (Str × Int))), dictE lstA p4 (v_self.piles : (List (Int × (List Str)))), dictE dictA p5 (v_self.comes_from : (List (Str × (List (Str × Bool))))), imA a_v_name (v_name : Any), F] : List (Asn G)) := hS
    refine f_seq ?_
    refine c_drop ?_
    refine c_meth ?_
    refine ev_to (ev_var rfl) ?_
    refine ⟨_, _, _, rfl, (hS.getCell (i := 0) rfl), rfl, ?_⟩
    refine ea_to (ea_cons (ev_var rfl) ea_nil) ?_
    have hS : Sep H (ThreadsA a_v_self v_self :: [imA a_v_name (v_name : Any), F] : List (Asn G)) := pack_Threads (hS.sel [0, 1, 2, 3, 4, 5, 6] (by decide) rfl)
    refine ⟨a_v_self, (v_self : Threads), a_v_name, (v_name : Any), star [imA a_v_name (v_name : Any), F], rfl, (hS.im (i := 1) rfl), Sep.unstar (M := [ThreadsA a_v_self v_self]) (hS.sel [0, 1, 2] (by decide) rfl : Sep H (([ThreadsA a_v_self v_self] ++ [imA a_v_name (v_name : Any), F] : List (Asn G)))), R.wp_mono (R.wp_bind hm) (fun r6 hm H hS => ?_) (fun x hx H hS => ?_)⟩
    ·
      have hS : Sep H ([ThreadsA a_v_self v_self, imA a_v_name (v_name : Any), F] : List (Asn G)) := Sep.star (M := [ThreadsA a_v_self v_self]) hS
      have hS : Sep H (ThreadsA a_v_self v_self :: [imA a_v_name (v_name : Any), F] : List (Asn G)) := hS.sel [0, 1, 2] (by decide) rfl
      obtain ⟨dx7, p8, p9, p10, p11, hS⟩ := open_Threads hS
      have hS : Sep H ([cell a_v_self (.ins (G.cl 8) dx7 [("goes_to", (.ref p8)), ("pile_of", (.ref p9)), ("piles", (.ref p10)), ("comes_from", (.ref p11)), ("made", (.int (v_self.made)))]), dictA p8 (v_self.goes_to : (List (Str × Str))), dictA p9 (v_self.pile_of : (List (Str × Int))), dictE lstA p10 (v_self.piles : (List (Int × (List Str)))), dictE dictA p11 (v_self.comes_from : (List (Str × (List (Str × Bool))))), imA a_v_name (v_name : Any), F] : List (Asn G)) := hS
      refine sq_nx ?_
      refine c_ret ?_
      refine c_fz ?_
      refine c_cb ?_
      refine c_cons ?_
      refine c_fz ?_
      refine c_lc ?_
      refine c_il ?_
      refine c_fz ?_
      refine c_dget ?_
      refine ev_to (ev_fld (ev_var rfl) (hS.getCell (i := 0) rfl) T.cl_Threads T.n_Threads_piles rfl) ?_
      refine k_dget1 ?_
      obtain ⟨s12, hs13, hm⟩ := Ml.wp_asStr hm
      have hv14 := v_str (hS.im (i := 5) rfl) hs13
      subst hv14
      obtain ⟨y15, hy15, hm⟩ := wp_dget hm
      obtain ⟨v16, g17, hv18⟩ := dget_some hS (i := 2) rfl hy15
      have hv18 : v16 = (.int (y15)) := hv18
      subst hv18
      refine ev_to (ev_dget (y := y15) hS (i := 2) rfl (ev_fld (ev_var rfl) (hS.getCell (i := 0) rfl) T.cl_Threads T.n_Threads_pile_of rfl) (ev_var rfl) g17) ?_
      obtain ⟨x19, h20, hm⟩ := wp_dgetX hm
      refine k_dgetE (y := (x19 : (List Str))) (hS.sel [3, 0, 1, 2, 4, 5, 6] (by decide) rfl : Sep _ (dictE lstA p10 (v_self.piles : (List (Int × (List Str)))) :: [cell a_v_self (.ins (G.cl 8) dx7 [("goes_to", (.ref p8)), ("pile_of", (.ref p9)), ("piles", (.ref p10)), ("comes_from", (.ref p11)), ("made", (.int (v_self.made)))]), dictA p8 (v_self.goes_to : (List (Str × Str))), dictA p9 (v_self.pile_of : (List (Str × Int))), dictE dictA p11 (v_self.comes_from : (List (Str × (List (Str × Bool))))), imA (.str (s12)) (v_name : Any), F] : List (Asn G))) h20 fun ps21 p22 j23 hl24 hj25 hp26 hS => ?_
      have hS : Sep H ([lstA p22 (x19 : (List Str)), dictXH id lstA p10 ps21 (v_self.piles : (List (Int × (List Str)))) j23, cell a_v_self (.ins (G.cl 8) dx7 [("goes_to", (.ref p8)), ("pile_of", (.ref p9)), ("piles", (.ref p10)), ("comes_from", (.ref p11)), ("made", (.int (v_self.made)))]), dictA p8 (v_self.goes_to : (List (Str × Str))), dictA p9 (v_self.pile_of : (List (Str × Int))), dictE dictA p11 (v_self.comes_from : (List (Str × (List (Str × Bool))))), imA (.str (s12)) (v_name : Any), F] : List (Asn G)) := hS
      refine fz_no ?_
      refine k_il hS (i := 0) rfl ?_
      obtain ⟨h27, hm⟩ := R.wp_need hm
      refine lc_sep (β := Str) (fun (_ : Unit) => ([lstA p22 (x19 : (List Str)), dictXH id lstA p10 ps21 (v_self.piles : (List (Int × (List Str)))) j23, cell a_v_self (.ins (G.cl 8) dx7 [("goes_to", (.ref p8)), ("pile_of", (.ref p9)), ("piles", (.ref p10)), ("comes_from", (.ref p11)), ("made", (.int (v_self.made)))]), dictA p8 (v_self.goes_to : (List (Str × Str))), dictA p9 (v_self.pile_of : (List (Str × Int))), dictE dictA p11 (v_self.comes_from : (List (Str × (List (Str × Bool))))), imA (.str (s12)) (v_name : Any), F] : List (Asn G))) (s := ()) (im := (Im.im G)) hS (fun _ _ _ => wk_list fun _ _ h => h.sq (i := 1) rfl) h27 hm (fun p28 _ ys31 x29 v30 H q Nx hS hx hm kS kN => ?_) (fun p28 t H hm hS => ?_)
      ·
        cases hx
        refine c_gLc (σ' := [some (.ref a_v_self), some (.str (s12)), some (.str (x29))]) rfl rfl ?_
        refine et_to (et_B (ev_din hS (i := 4) (k := x29) rfl (ev_var rfl) (ev_fld (ev_var rfl) (hS.getCell (i := 3) rfl) T.cl_Threads T.n_Threads_goes_to rfl))) ?_
        refine lc_if (fun hb32 => ?_) (fun hb32 => ?_)
        · have hm := R.wp_ifY hm hb32
          refine ev_to (ev_var rfl) ?_
          exact kS () _ _ _ hm rfl (hS.sel [0, 1, 2, 3, 4, 5, 6, 7, 8] (by decide) rfl)
        · have hm := R.wp_ifN hm (by first | (rw [hb32]; decide) | simpa using hb32)
          exact kN () _ hm (hS.sel [0, 1, 2, 3, 4, 5, 6, 7, 8] (by decide) rfl)
      · revert hm hS; generalize t = t33; intro hm hS
        refine fz_no ?_
        refine c_nil ?_
        obtain ⟨h35, hm⟩ := R.wp_need hm
        refine k_sorted hS (hS.sqF (i := 0) rfl) h35 fun p34 H hS => ?_
        refine fz_no ?_
        have hS : Sep H ([dictE lstA p10 (v_self.piles : (List (Int × (List Str)))), lstA p34 (sortT t33.2 : (List Str)), lstA p28 (t33.2 : (List Str)), cell a_v_self (.ins (G.cl 8) dx7 [("goes_to", (.ref p8)), ("pile_of", (.ref p9)), ("piles", (.ref p10)), ("comes_from", (.ref p11)), ("made", (.int (v_self.made)))]), dictA p8 (v_self.goes_to : (List (Str × Str))), dictA p9 (v_self.pile_of : (List (Str × Int))), dictE dictA p11 (v_self.comes_from : (List (Str × (List (Str × Bool))))), imA (.str (s12)) (v_name : Any), F] : List (Asn G)) := unfocDE0 hl24 hj25 hp26 (hS.sel [2, 3, 0, 1, 4, 5, 6, 7, 8, 9] (by decide) rfl)
        have hS : Sep H (ThreadsA a_v_self v_self :: [lstA p34 (sortT t33.2 : (List Str)), lstA p28 (t33.2 : (List Str)), imA (.str (s12)) (v_name : Any), F] : List (Asn G)) := pack_Threads (hS.sel [3, 4, 5, 0, 6, 1, 2, 7, 8] (by decide) rfl)
        exact hm _ _ (hS.sel [1, 0, 4] (by decide) rfl)
    ·
      have hS : Sep H ([ThreadsA a_v_self v_self, imA a_v_name (v_name : Any), F] : List (Asn G)) := Sep.star (M := [ThreadsA a_v_self v_self]) hS
      exact hx _ (hS.sel [0, 2] (by decide) rfl)
def sp_Threads_threads (G : Gx) : Sp := fun vs H Q E => ∃ (a_v_self : Addr) (v_self : Threads) (F : Asn G), vs = [.ref a_v_self] ∧ Sep H ([ThreadsA a_v_self v_self, F] : List (Asn G)) ∧ R.wp (m_Threads_threads v_self) (fun r => ∀ p H', Sep H' ([lstA p (r : (List (List Str))), ThreadsA a_v_self v_self, F] : List (Asn G)) → Q (.ref p) H') (fun _ => False)
abbrev N_Threads_threads : List Str := ["self", "found", "told", "name"]
theorem sc_Threads_threads : FnScope N_Threads_threads ["self"] (defScope s_Threads_threads) := ⟨rfl, rfl, rfl, by decide +kernel, rfl, by decide +kernel, by decide +kernel⟩
theorem ok_Threads_threads (T : Txt G mg) : FnOk P w G.K mg base CX0 3 T.a_Threads_threads T.fd_Threads_threads ["self"] (sp_Threads_threads G) := by
  have nd := sc_Threads_threads.nd
  refine Fun.ok T.F_Threads_threads sc_Threads_threads (fun vs H Q E h => ?_) (fun cdv A outer s H vs Q E hr h => ?_)
  · obtain ⟨a_v_self, v_self, F, rfl, _⟩ := h; rfl
  · obtain ⟨a_v_self, v_self, F, rfl, hS, hm⟩ := h
    refine ⟨_, (pss_cons (ps_set (i := 1) nd rfl (Or.inl rfl) (pe_fz (pe_lst pa_nil)))
      (pss_cons (ps_set (i := 2) nd rfl (Or.inl rfl) pe_dnewK)
      (pss_cons (ps_for PassesOwn.never rfl (pi_listK G.K (pe_fz (pe_callB (cr_sortD rfl) (by rfl) T.z_sorted (by decide +kernel) (pa_cons (pe_fld (pv 0) rfl) pa_nil)))) (pg_name (i := 3) nd rfl (Or.inl rfl)) (pss_cons (ps_if (pt_cmp (pc_din (hu_of hr) (pe_dget (hu_of hr) (pe_fld (pv 0) rfl) (pv 3) (fun _ _ => rfl)) (pv 2))) (pss_one ps_continue) pss_nil)
      (pss_cons (ps_asg pe_bl (pg_sub (pv 2) (pe_dget (hu_of hr) (pe_fld (pv 0) rfl) (pv 3) (fun _ _ => rfl)) (set_dict (hu_of hr))))
      (pss_one (ps_expr (pe_bmK G.K PySem.F.plainAttrs_list PySem.F.slot_list_append PySem.F.type_list_append mt_append (pe_fz (pv 1)) (pa_cons (pe_fz (pe_meth (pv 0) T.cl_Threads T.m_Threads_thread (ok_Threads_thread T) (hr.mono (by decide)) T.b_Threads_thread .nil passL (pa_cons (pv 3) pa_nil))) pa_nil)))))))
      (pss_one (ps_ret (pe_fz (pv 1))))))), ?_⟩
    unfold m_Threads_threads at hm
    have hS : Sep H (ThreadsA a_v_self v_self :: [F] : List (Asn G)) := hS.sel [0, 1] (by decide) rfl
    obtain ⟨dx1, p2, p3, p4, p5, hS⟩ := open_Threads hS
    have hS : Sep H ([cell a_v_self (.ins (G.cl 8) dx1 [("goes_to", (.ref p2)), ("pile_of", (.ref p3)), ("piles", (.ref p4)), ("comes_from", (.ref p5)), ("made", (.int (v_self.made)))]), dictA p2 (v_self.goes_to : (List (Str × Str))), dictA p3 (v_self.pile_of : (List (Str × Int))), dictE lstA p4 (v_self.piles : (List (Int × (List Str)))), dictE dictA p5 (v_self.comes_from : (List (Str × (List (Str × Bool))))), F] : List (Asn G)) := hS
    refine f_seq ?_
    refine c_asg ?_
    refine c_fz ?_
    refine c_lst ?_
    refine ea_to ea_nil ?_
    refine k_lst (α := (List Str)) (vs := []) (xs := ([] : (List (List Str)))) hS True.intro (by show 0 ≤ sizeLine; decide) fun p6 H hS => ?_
    refine fz_no ?_
    refine c_set (σ' := [some (.ref a_v_self), some (.ref p6), none, none]) rfl ?_
    refine sq_nx ?_
    refine f_seq ?_
    refine c_asg ?_
    refine k_dnew (κ := Int) (β := Bool) hS fun p7 H hS => ?_
    refine c_set (σ' := [some (.ref a_v_self), some (.ref p6), some (.ref p7), none]) rfl ?_
    refine sq_nx ?_
    refine f_seq ?_
    refine c_for ?_
    refine c_il ?_
    refine c_fz ?_
    refine c_cb ?_
    refine ea_to (ea_cons (ev_fld (ev_var rfl) (hS.getCell (i := 2) rfl) T.cl_Threads T.n_Threads_goes_to rfl) ea_nil) ?_
    obtain ⟨h9, hm⟩ := R.wp_need hm
    refine k_sortDA hS (i := 3) rfl h9 fun p8 H hS => ?_
    refine fz_no ?_
    refine k_il hS (i := 0) rfl ?_
    have hS : Sep H (ThreadsA a_v_self v_self :: [lstA p8 (sortT (v_self.goes_to.map (·.1)) : (List Str)), dictA p7 (([] : (List (Int × Bool))) : (List (Int × Bool))), lstA p6 (([] : (List (List Str))) : (List (List Str))), F] : List (Asn G)) := pack_Threads (hS.sel [3, 4, 5, 6, 7, 0, 1, 2, 8] (by decide) rfl)
    refine k_forF (τ := (List (List Str)) × (List (Int × Bool))) (fun (s10 : (List (List Str)) × (List (Int × Bool))) (σ : L2.St) (H : Hp) => ∃ (w13 : Option V), σ = [some (.ref a_v_self), some (.ref p6), some (.ref p7), w13] ∧ Sep H ([ThreadsA a_v_self v_self, lstA p8 (sortT (v_self.goes_to.map (·.1)) : (List Str)), dictA p7 (s10.2 : (List (Int × Bool))), lstA p6 (s10.1 : (List (List Str))), F] : List (Asn G))) (im := (Im.im G)) (s := (([] : (List (List Str))), ([] : (List (Int × Bool))))) (fun _ => wk_list fun _ _ ⟨_, _, h⟩ => h.sq (i := 1) rfl) ⟨_, rfl, hS.sel [0, 1, 2, 3, 4] (by decide) rfl⟩ hm (fun s10 x11 v12 σ H q N B hI hx hm nx bk ho14 => ?_) (fun s10 σ H hm hI => ?_)
    ·
      obtain ⟨w13, rfl, hS⟩ := hI
      cases hx
      refine c_gN (σ' := [some (.ref a_v_self), some (.ref p6), some (.ref p7), some (.str (x11))]) rfl ?_
      have hS : Sep H (ThreadsA a_v_self v_self :: [lstA p8 (sortT (v_self.goes_to.map (·.1)) : (List Str)), dictA p7 (s10.2 : (List (Int × Bool))), lstA p6 (s10.1 : (List (List Str))), F] : List (Asn G)) := hS.sel [0, 1, 2, 3, 4] (by decide) rfl
      obtain ⟨dx15, p16, p17, p18, p19, hS⟩ := open_Threads hS
      have hS : Sep H ([cell a_v_self (.ins (G.cl 8) dx15 [("goes_to", (.ref p16)), ("pile_of", (.ref p17)), ("piles", (.ref p18)), ("comes_from", (.ref p19)), ("made", (.int (v_self.made)))]), dictA p16 (v_self.goes_to : (List (Str × Str))), dictA p17 (v_self.pile_of : (List (Str × Int))), dictE lstA p18 (v_self.piles : (List (Int × (List Str)))), dictE dictA p19 (v_self.comes_from : (List (Str × (List (Str × Bool))))), lstA p8 (sortT (v_self.goes_to.map (·.1)) : (List Str)), dictA p7 (s10.2 : (List (Int × Bool))), lstA p6 (s10.1 : (List (List Str))), F] : List (Asn G)) := hS
      refine f_seq ?_
      refine f_if ?_
      obtain ⟨y20, hy20, hm⟩ := wp_dget hm
      obtain ⟨v21, g22, hv23⟩ := dget_some hS (i := 2) rfl hy20
      have hv23 : v21 = (.int (y20)) := hv23
      subst hv23
      refine et_to (et_B (ev_din hS (i := 6) (k := y20) rfl (ev_dget (y := y20) hS (i := 2) rfl (ev_fld (ev_var rfl) (hS.getCell (i := 0) rfl) T.cl_Threads T.n_Threads_pile_of rfl) (ev_var rfl) g22) (ev_var rfl))) ?_
      refine ifK_2 (fun hb24 => ?_) (fun hb24 => ?_)
      · have hm := R.wp_ifY hm hb24
        first | refine lp_ct ?_ | skip
        have hS : Sep H (ThreadsA a_v_self v_self :: [lstA p8 (sortT (v_self.goes_to.map (·.1)) : (List Str)), dictA p7 (s10.2 : (List (Int × Bool))), lstA p6 (s10.1 : (List (List Str))), F] : List (Asn G)) := pack_Threads (hS.sel [0, 1, 2, 3, 4, 5, 6, 7, 8] (by decide) rfl)
        exact nx _ _ _ hm ⟨_, rfl, hS.sel [0, 1, 2, 3, 4] (by decide) rfl⟩
      · have hm := R.wp_ifN hm (by first | (rw [hb24]; decide) | simpa using hb24)
        refine st_nx ?_
        refine sq_nx ?_
        refine f_seq ?_
        refine c_asgS ?_
        refine ev_to ev_c ?_
        refine ev_to (ev_var rfl) ?_
        obtain ⟨y25, hy25, hm⟩ := wp_dget hm
        obtain ⟨v26, g27, hv28⟩ := dget_some hS (i := 2) rfl hy25
        have hv28 : v26 = (.int (y25)) := hv28
        subst hv28
        refine ev_to (ev_dget (y := y25) hS (i := 2) rfl (ev_fld (ev_var rfl) (hS.getCell (i := 0) rfl) T.cl_Threads T.n_Threads_pile_of rfl) (ev_var rfl) g27) ?_
        obtain ⟨h29, hm⟩ := R.wp_need hm
        refine k_setD (k := y25) (y := true) hS (i := 6) rfl rfl h29 rfl fun H hS => ?_
        have hS : Sep H ([cell a_v_self (.ins (G.cl 8) dx15 [("goes_to", (.ref p16)), ("pile_of", (.ref p17)), ("piles", (.ref p18)), ("comes_from", (.ref p19)), ("made", (.int (v_self.made)))]), dictA p16 (v_self.goes_to : (List (Str × Str))), dictA p17 (v_self.pile_of : (List (Str × Int))), dictE lstA p18 (v_self.piles : (List (Int × (List Str)))), dictE dictA p19 (v_self.comes_from : (List (Str × (List (Str × Bool))))), lstA p8 (sortT (v_self.goes_to.map (·.1)) : (List Str)), dictA p7 (dput s10.2 y25 true : (List (Int × Bool))), lstA p6 (s10.1 : (List (List Str))), F] : List (Asn G)) := hS
        refine sq_nx ?_
        refine c_drop ?_
        refine c_bm ?_
        refine ev_to (ev_fz (ev_var rfl)) ⟨tyL hS (i := 7) rfl, ?_⟩
        refine c_cons ?_
        refine c_fz ?_
        refine c_meth ?_
        refine ev_to (ev_var rfl) ?_
        refine ⟨_, _, _, rfl, (hS.getCell (i := 0) rfl), rfl, ?_⟩
        refine ea_to (ea_cons (ev_var rfl) ea_nil) ?_
        have hS : Sep H (ThreadsA a_v_self v_self :: [lstA p8 (sortT (v_self.goes_to.map (·.1)) : (List Str)), dictA p7 (dput s10.2 y25 true : (List (Int × Bool))), lstA p6 (s10.1 : (List (List Str))), F] : List (Asn G)) := pack_Threads (hS.sel [0, 1, 2, 3, 4, 5, 6, 7, 8] (by decide) rfl)
        refine ⟨a_v_self, (v_self : Threads), x11, star [lstA p8 (sortT (v_self.goes_to.map (·.1)) : (List Str)), dictA p7 (dput s10.2 y25 true : (List (Int × Bool))), lstA p6 (s10.1 : (List (List Str))), F], rfl, Sep.unstar (M := [ThreadsA a_v_self v_self]) (hS.sel [0, 1, 2, 3, 4] (by decide) rfl : Sep H (([ThreadsA a_v_self v_self] ++ [lstA p8 (sortT (v_self.goes_to.map (·.1)) : (List Str)), dictA p7 (dput s10.2 y25 true : (List (Int × Bool))), lstA p6 (s10.1 : (List (List Str))), F] : List (Asn G)))), R.wp_mono (R.wp_bind hm) (fun r30 hm p31 H hS => ?_) (fun _ z => z.elim)⟩
        have hS : Sep H ([lstA p31 (r30 : (List Str)), ThreadsA a_v_self v_self, lstA p8 (sortT (v_self.goes_to.map (·.1)) : (List Str)), dictA p7 (dput s10.2 y25 true : (List (Int × Bool))), lstA p6 (s10.1 : (List (List Str))), F] : List (Asn G)) := Sep.star (M := [lstA p31 (r30 : (List Str)), ThreadsA a_v_self v_self]) hS
        have hS : Sep H (ThreadsA a_v_self v_self :: [lstA p31 (r30 : (List Str)), lstA p8 (sortT (v_self.goes_to.map (·.1)) : (List Str)), dictA p7 (dput s10.2 y25 true : (List (Int × Bool))), lstA p6 (s10.1 : (List (List Str))), F] : List (Asn G)) := hS.sel [1, 0, 2, 3, 4, 5] (by decide) rfl
        obtain ⟨dx32, p33, p34, p35, p36, hS⟩ := open_Threads hS
        have hS : Sep H ([cell a_v_self (.ins (G.cl 8) dx32 [("goes_to", (.ref p33)), ("pile_of", (.ref p34)), ("piles", (.ref p35)), ("comes_from", (.ref p36)), ("made", (.int (v_self.made)))]), dictA p33 (v_self.goes_to : (List (Str × Str))), dictA p34 (v_self.pile_of : (List (Str × Int))), dictE lstA p35 (v_self.piles : (List (Int × (List Str)))), dictE dictA p36 (v_self.comes_from : (List (Str × (List (Str × Bool))))), lstA p31 (r30 : (List Str)), lstA p8 (sortT (v_self.goes_to.map (·.1)) : (List Str)), dictA p7 (dput s10.2 y25 true : (List (Int × Bool))), lstA p6 (s10.1 : (List (List Str))), F] : List (Asn G)) := hS
        refine fz_yes (xs := (r30 : (List Str))) hS (i := 5) rfl fun H hS => ?_
        have hS : Sep H ([imA (.ref p31) (r30 : (List Str)), cell a_v_self (.ins (G.cl 8) dx32 [("goes_to", (.ref p33)), ("pile_of", (.ref p34)), ("piles", (.ref p35)), ("comes_from", (.ref p36)), ("made", (.int (v_self.made)))]), dictA p33 (v_self.goes_to : (List (Str × Str))), dictA p34 (v_self.pile_of : (List (Str × Int))), dictE lstA p35 (v_self.piles : (List (Int × (List Str)))), dictE dictA p36 (v_self.comes_from : (List (Str × (List (Str × Bool))))), lstA p8 (sortT (v_self.goes_to.map (·.1)) : (List Str)), dictA p7 (dput s10.2 y25 true : (List (Int × Bool))), lstA p6 (s10.1 : (List (List Str))), F] : List (Asn G)) := hS
        refine c_nil ?_
        obtain ⟨h38, hm⟩ := R.wp_need hm
        refine k_append (x := r30) hS (i := 8) rfl (hS.im (i := 0) rfl) h38 rfl fun H hS => ?_
        have hS : Sep H (ThreadsA a_v_self v_self :: [imA (.ref p31) (r30 : (List Str)), lstA p8 (sortT (v_self.goes_to.map (·.1)) : (List Str)), dictA p7 (dput s10.2 y25 true : (List (Int × Bool))), lstA p6 (s10.1 ++ [r30] : (List (List Str))), F] : List (Asn G)) := pack_Threads (hS.sel [1, 2, 3, 4, 5, 0, 6, 7, 8, 9] (by decide) rfl)
        exact nx _ _ _ hm ⟨_, rfl, hS.sel [0, 2, 3, 4, 5] (by decide) rfl⟩
    · obtain ⟨w13, rfl, hS⟩ := hI
      have hS : Sep H (ThreadsA a_v_self v_self :: [lstA p8 (sortT (v_self.goes_to.map (·.1)) : (List Str)), dictA p7 (s10.2 : (List (Int × Bool))), lstA p6 (s10.1 : (List (List Str))), F] : List (Asn G)) := hS.sel [0, 1, 2, 3, 4] (by decide) rfl
      obtain ⟨dx39, p40, p41, p42, p43, hS⟩ := open_Threads hS
      have hS : Sep H ([cell a_v_self (.ins (G.cl 8) dx39 [("goes_to", (.ref p40)), ("pile_of", (.ref p41)), ("piles", (.ref p42)), ("comes_from", (.ref p43)), ("made", (.int (v_self.made)))]), dictA p40 (v_self.goes_to : (List (Str × Str))), dictA p41 (v_self.pile_of : (List (Str × Int))), dictE lstA p42 (v_self.piles : (List (Int × (List Str)))), dictE dictA p43 (v_self.comes_from : (List (Str × (List (Str × Bool))))), lstA p8 (sortT (v_self.goes_to.map (·.1)) : (List Str)), dictA p7 (s10.2 : (List (Int × Bool))), lstA p6 (s10.1 : (List (List Str))), F] : List (Asn G)) := hS
      refine sq_nx ?_
      refine c_ret ?_
      refine ev_to (ev_fz (ev_var rfl)) ?_
      have hS : Sep H (ThreadsA a_v_self v_self :: [lstA p8 (sortT (v_self.goes_to.map (·.1)) : (List Str)), dictA p7 (s10.2 : (List (Int × Bool))), lstA p6 (s10.1 : (List (List Str))), F] : List (Asn G)) := pack_Threads (hS.sel [0, 1, 2, 3, 4, 5, 6, 7, 8] (by decide) rfl)
      exact hm _ _ (hS.sel [3, 0, 4] (by decide) rfl)
def sp_Threads_answers_to (G : Gx) : Sp := fun vs H Q E => ∃ (a_v_self : Addr) (v_self : Threads) (v_name : Str) (F : Asn G), vs = [.ref a_v_self, (.str (v_name))] ∧ Sep H ([ThreadsA a_v_self v_self, F] : List (Asn G)) ∧ R.wp (m_Threads_answers_to v_self v_name) (fun r => ∀ p H', Sep H' ([lstA p (r : (List Str)), ThreadsA a_v_self v_self, F] : List (Asn G)) → Q (.ref p) H') (fun _ => False)
abbrev N_Threads_answers_to : List Str := ["self", "name"]
theorem sc_Threads_answers_to : FnScope N_Threads_answers_to ["self", "name"] (defScope s_Threads_answers_to) := ⟨rfl, rfl, rfl, by decide +kernel, rfl, by decide +kernel, by decide +kernel⟩
theorem ok_Threads_answers_to (T : Txt G mg) : FnOk P w G.K mg base CX0 1 T.a_Threads_answers_to T.fd_Threads_answers_to ["self", "name"] (sp_Threads_answers_to G) := by
  have nd := sc_Threads_answers_to.nd
  refine Fun.ok T.F_Threads_answers_to sc_Threads_answers_to (fun vs H Q E h => ?_) (fun cdv A outer s H vs Q E hr h => ?_)
  · obtain ⟨a_v_self, v_self, v_name, F, rfl, _⟩ := h; rfl
  · obtain ⟨a_v_self, v_self, v_name, F, rfl, hS, hm⟩ := h
    refine ⟨_, (pss_one (ps_ret (pe_fz (pe_callB (cr_sortD rfl) (by rfl) T.z_sorted (by decide +kernel) (pa_cons (pe_dget2 (hu_of hr) (pe_fld (pv 0) rfl) (pv 1) pe_dnewK m2) pa_nil))))), ?_⟩
    unfold m_Threads_answers_to at hm
    have hS : Sep H (ThreadsA a_v_self v_self :: [F] : List (Asn G)) := hS.sel [0, 1] (by decide) rfl
    obtain ⟨dx1, p2, p3, p4, p5, hS⟩ := open_Threads hS
    have hS : Sep H ([cell a_v_self (.ins (G.cl 8) dx1 [("goes_to", (.ref p2)), ("pile_of", (.ref p3)), ("piles", (.ref p4)), ("comes_from", (.ref p5)), ("made", (.int (v_self.made)))]), dictA p2 (v_self.goes_to : (List (Str × Str))), dictA p3 (v_self.pile_of : (List (Str × Int))), dictE lstA p4 (v_self.piles : (List (Int × (List Str)))), dictE dictA p5 (v_self.comes_from : (List (Str × (List (Str × Bool))))), F] : List (Asn G)) := hS
    refine c_ret ?_
    refine c_fz ?_
    refine c_cb ?_
    refine c_cons ?_
    refine c_dget2 ?_
    refine ev_to (ev_fld (ev_var rfl) (hS.getCell (i := 0) rfl) T.cl_Threads T.n_Threads_comes_from rfl) ?_
    refine k_get2a (isD_Ei hS (i := 4) rfl) ?_
    refine ev_to (ev_var rfl) ?_
    refine k_get2b ?_
    refine k_dnew (κ := Str) (β := Bool) hS fun p6 H hS => ?_
    refine k_get2E (k := v_name) (hS.sel [5, 0, 1, 2, 3, 4, 6] (by decide) rfl : Sep _ (dictE dictA p5 (v_self.comes_from : (List (Str × (List (Str × Bool))))) :: dictA p6 (([] : (List (Str × Bool))) : (List (Str × Bool))) :: [cell a_v_self (.ins (G.cl 8) dx1 [("goes_to", (.ref p2)), ("pile_of", (.ref p3)), ("piles", (.ref p4)), ("comes_from", (.ref p5)), ("made", (.int (v_self.made)))]), dictA p2 (v_self.goes_to : (List (Str × Str))), dictA p3 (v_self.pile_of : (List (Str × Int))), dictE lstA p4 (v_self.piles : (List (Int × (List Str)))), F] : List (Asn G))) fun p8 R9 hb10 hS => ?_
    have hS : Sep H ([dictA p8 ((dget v_self.comes_from v_name).getD ([] : (List (Str × Bool))) : (List (Str × Bool))), R9, cell a_v_self (.ins (G.cl 8) dx1 [("goes_to", (.ref p2)), ("pile_of", (.ref p3)), ("piles", (.ref p4)), ("comes_from", (.ref p5)), ("made", (.int (v_self.made)))]), dictA p2 (v_self.goes_to : (List (Str × Str))), dictA p3 (v_self.pile_of : (List (Str × Int))), dictE lstA p4 (v_self.piles : (List (Int × (List Str)))), F] : List (Asn G)) := hS
    refine c_nil ?_
    obtain ⟨h12, hm⟩ := R.wp_need hm
    refine k_sortDA hS (i := 0) rfl h12 fun p11 H hS => ?_
    refine fz_no ?_
    have hS : Sep H ([dictE dictA p5 (v_self.comes_from : (List (Str × (List (Str × Bool))))), lstA p11 (sortT (((dget v_self.comes_from v_name).getD ([] : (List (Str × Bool)))).map (·.1)) : (List Str)), cell a_v_self (.ins (G.cl 8) dx1 [("goes_to", (.ref p2)), ("pile_of", (.ref p3)), ("piles", (.ref p4)), ("comes_from", (.ref p5)), ("made", (.int (v_self.made)))]), dictA p2 (v_self.goes_to : (List (Str × Str))), dictA p3 (v_self.pile_of : (List (Str × Int))), dictE lstA p4 (v_self.piles : (List (Int × (List Str)))), F] : List (Asn G)) := hb10 _ _ (hS.sel [1, 2, 0, 3, 4, 5, 6, 7] (by decide) rfl)
    have hS : Sep H (ThreadsA a_v_self v_self :: [lstA p11 (sortT (((dget v_self.comes_from v_name).getD ([] : (List (Str × Bool)))).map (·.1)) : (List Str)), F] : List (Asn G)) := pack_Threads (hS.sel [2, 3, 4, 5, 0, 1, 6] (by decide) rfl)
    exact hm _ _ (hS.sel [1, 0, 2] (by decide) rfl)
def sp_Threads_depth (G : Gx) : Sp := fun vs H Q E => ∃ (a_v_self : Addr) (v_self : Threads) (v_name : Str) (F : Asn G), vs = [.ref a_v_self, (.str (v_name))] ∧ Sep H ([ThreadsA a_v_self v_self, F] : List (Asn G)) ∧ R.wp (m_Threads_depth v_self v_name) (fun r => ∀ H', Sep H' ([ThreadsA a_v_self v_self, F] : List (Asn G)) → Q (.int (r)) H') (fun x => ∀ H', Sep H' ([ThreadsA a_v_self v_self, F] : List (Asn G)) → Eok G x E H')
abbrev N_Threads_depth : List Str := ["self", "name", "met", "above"]
theorem sc_Threads_depth : FnScope N_Threads_depth ["self", "name"] (defScope s_Threads_depth) := ⟨rfl, rfl, rfl, by decide +kernel, rfl, by decide +kernel, by decide +kernel⟩
theorem ok_Threads_depth (T : Txt G mg) : FnOk P w G.K mg base (L2.CX P w) 2 T.a_Threads_depth T.fd_Threads_depth ["self", "name"] (sp_Threads_depth G) := by
  have nd := sc_Threads_depth.nd
  refine Fun.okX T.F_Threads_depth sc_Threads_depth (fun vs H Q E h => ?_) (fun cdv A outer s H vs Q E hr h => ?_)
  · obtain ⟨a_v_self, v_self, v_name, F, rfl, _⟩ := h; rfl
  · obtain ⟨a_v_self, v_self, v_name, F, rfl, hS, hm⟩ := h
    refine ⟨_, (pss_cons (ps_expr (pe_meth (pv 0) T.cl_Threads T.m_Threads_sure (ok_Threads_sure T) (hr.mono (by decide)) T.b_Threads_sure .nil (passes_call (takes_of rfl rfl rfl rfl) (fun _ _ _ _ h => h)) (pa_cons (pv 1) pa_nil)))
      (pss_cons (ps_set (i := 2) nd rfl (Or.inl rfl) (pe_disp (pps_cons (pv 1) pe_bl pps_nil) rfl rfl (by simp) (by show 1 ≤ 15; decide)))
      (pss_cons (ps_set (i := 3) nd rfl (Or.inl rfl) (pe_dget (hu_of hr) (pe_fld (pv 0) rfl) (pv 1) (fun _ _ => rfl)))
      (pss_cons (ps_while (passes_of rfl) (PW.pt (pw_and (pt_cmp (pc_din (hu_of hr) (pv 3) (pe_fld (pv 0) rfl))) (pw_and1 (pt_cmp (pc_dnotin (hu_of hr) (pv 3) (pv 2)))))) (pss_cons (ps_asg pe_bl (pg_sub (pv 2) (pv 3) (set_dict (hu_of hr))))
      (pss_one (ps_set (i := 3) nd rfl (Or.inl rfl) (pe_dget (hu_of hr) (pe_fld (pv 0) rfl) (pv 3) (fun _ _ => rfl))))))
      (pss_one (ps_ret (pe_op op_sub (pe_callB call_lenD (by rfl) T.z_len PySem.boot_len (pa_cons (pv 2) pa_nil)) pe_int))))))), ?_⟩
    unfold m_Threads_depth at hm
    have hS : Sep H (ThreadsA a_v_self v_self :: [F] : List (Asn G)) := hS.sel [0, 1] (by decide) rfl
    obtain ⟨dx1, p2, p3, p4, p5, hS⟩ := open_Threads hS
    have hS : Sep H ([cell a_v_self (.ins (G.cl 8) dx1 [("goes_to", (.ref p2)), ("pile_of", (.ref p3)), ("piles", (.ref p4)), ("comes_from", (.ref p5)), ("made", (.int (v_self.made)))]), dictA p2 (v_self.goes_to : (List (Str × Str))), dictA p3 (v_self.pile_of : (List (Str × Int))), dictE lstA p4 (v_self.piles : (List (Int × (List Str)))), dictE dictA p5 (v_self.comes_from : (List (Str × (List (Str × Bool))))), F] : List (Asn G)) := hS
    refine f_seq ?_
    refine c_drop ?_
    refine c_meth ?_
    refine ev_to (ev_var rfl) ?_
    refine ⟨_, _, _, rfl, (hS.getCell (i := 0) rfl), rfl, ?_⟩
    refine ea_to (ea_cons (ev_var rfl) ea_nil) ?_
    have hS : Sep H (ThreadsA a_v_self v_self :: [F] : List (Asn G)) := pack_Threads (hS.sel [0, 1, 2, 3, 4, 5] (by decide) rfl)
    refine ⟨a_v_self, (v_self : Threads), v_name, star [F], rfl, Sep.unstar (M := [ThreadsA a_v_self v_self]) (hS.sel [0, 1] (by decide) rfl : Sep H (([ThreadsA a_v_self v_self] ++ [F] : List (Asn G)))), R.wp_mono (R.wp_bind hm) (fun r6 hm H hS => ?_) (fun x hx H hS => ?_)⟩
    ·
      have hS : Sep H ([ThreadsA a_v_self v_self, F] : List (Asn G)) := Sep.star (M := [ThreadsA a_v_self v_self]) hS
      have hS : Sep H (ThreadsA a_v_self v_self :: [F] : List (Asn G)) := hS.sel [0, 1] (by decide) rfl
      obtain ⟨dx7, p8, p9, p10, p11, hS⟩ := open_Threads hS
      have hS : Sep H ([cell a_v_self (.ins (G.cl 8) dx7 [("goes_to", (.ref p8)), ("pile_of", (.ref p9)), ("piles", (.ref p10)), ("comes_from", (.ref p11)), ("made", (.int (v_self.made)))]), dictA p8 (v_self.goes_to : (List (Str × Str))), dictA p9 (v_self.pile_of : (List (Str × Int))), dictE lstA p10 (v_self.piles : (List (Int × (List Str)))), dictE dictA p11 (v_self.comes_from : (List (Str × (List (Str × Bool))))), F] : List (Asn G)) := hS
      refine sq_nx ?_
      refine f_seq ?_
      refine c_asg ?_
      refine c_disp ?_
      refine k_disp (κ := Str) (β := Bool) hS fun p12 H hS => ?_
      have hS : Sep H ([dictA p12 (([] : (List (Str × Bool))) : (List (Str × Bool))), cell a_v_self (.ins (G.cl 8) dx7 [("goes_to", (.ref p8)), ("pile_of", (.ref p9)), ("piles", (.ref p10)), ("comes_from", (.ref p11)), ("made", (.int (v_self.made)))]), dictA p8 (v_self.goes_to : (List (Str × Str))), dictA p9 (v_self.pile_of : (List (Str × Int))), dictE lstA p10 (v_self.piles : (List (Int × (List Str)))), dictE dictA p11 (v_self.comes_from : (List (Str × (List (Str × Bool))))), F] : List (Asn G)) := hS
      refine pr_cons ?_
      refine ev_to (ev_var rfl) ?_
      refine pr_1 ?_
      refine ev_to ev_c ?_
      refine pr_2 ?_
      refine pr_nil ?_
      refine k_dispEnd (qs := ([(v_name, true)] : (List (Str × Bool)))) (kvs := [(Kx.key v_name, (.bl (true)))]) hS (i := 0) rfl rfl ⟨⟨rfl, rfl⟩, True.intro⟩ (by show 1 ≤ 15; decide) rfl fun H hS => ?_
      have hS : Sep H ([dictA p12 (mergeD [] ([(v_name, true)] : (List (Str × Bool))) : (List (Str × Bool))), cell a_v_self (.ins (G.cl 8) dx7 [("goes_to", (.ref p8)), ("pile_of", (.ref p9)), ("piles", (.ref p10)), ("comes_from", (.ref p11)), ("made", (.int (v_self.made)))]), dictA p8 (v_self.goes_to : (List (Str × Str))), dictA p9 (v_self.pile_of : (List (Str × Int))), dictE lstA p10 (v_self.piles : (List (Int × (List Str)))), dictE dictA p11 (v_self.comes_from : (List (Str × (List (Str × Bool))))), F] : List (Asn G)) := hS
      obtain ⟨y13, hy13, hm⟩ := wp_let hm
      have hS : Sep H ([dictA p12 (y13 : (List (Str × Bool))), cell a_v_self (.ins (G.cl 8) dx7 [("goes_to", (.ref p8)), ("pile_of", (.ref p9)), ("piles", (.ref p10)), ("comes_from", (.ref p11)), ("made", (.int (v_self.made)))]), dictA p8 (v_self.goes_to : (List (Str × Str))), dictA p9 (v_self.pile_of : (List (Str × Int))), dictE lstA p10 (v_self.piles : (List (Int × (List Str)))), dictE dictA p11 (v_self.comes_from : (List (Str × (List (Str × Bool))))), F] : List (Asn G)) := by rw [← hy13]; exact hS
      refine c_set (σ' := [some (.ref a_v_self), some (.str (v_name)), some (.ref p12), none]) rfl ?_
      refine sq_nx ?_
      refine f_seq ?_
      refine c_asg ?_
      obtain ⟨y14, hy14, hm⟩ := wp_dget hm
      obtain ⟨v15, g16, hv17⟩ := dget_some hS (i := 2) rfl hy14
      have hv17 : v15 = (.str (y14)) := hv17
      subst hv17
      refine ev_to (ev_dget (y := y14) hS (i := 2) rfl (ev_fld (ev_var rfl) (hS.getCell (i := 1) rfl) T.cl_Threads T.n_Threads_goes_to rfl) (ev_var rfl) g16) ?_
      refine c_set (σ' := [some (.ref a_v_self), some (.str (v_name)), some (.ref p12), some (.str (y14))]) rfl ?_
      refine sq_nx ?_
      refine f_seq ?_
      refine k_whileN (τ := (List (Str × Bool)) × Str) (n := 64) (c := fun (s18 : (List (Str × Bool)) × Str) => (dhas v_self.goes_to s18.2) && (!dhas s18.1 s18.2)) (s := (y13, y14)) (fun (s18 : (List (Str × Bool)) × Str) (σ : L2.St) (H : Hp) => σ = [some (.ref a_v_self), some (.str (v_name)), some (.ref p12), some (.str (s18.2))] ∧ Sep H ([dictA p12 (s18.1 : (List (Str × Bool))), cell a_v_self (.ins (G.cl 8) dx7 [("goes_to", (.ref p8)), ("pile_of", (.ref p9)), ("piles", (.ref p10)), ("comes_from", (.ref p11)), ("made", (.int (v_self.made)))]), dictA p8 (v_self.goes_to : (List (Str × Str))), dictA p9 (v_self.pile_of : (List (Str × Int))), dictE lstA p10 (v_self.piles : (List (Int × (List Str)))), dictE dictA p11 (v_self.comes_from : (List (Str × (List (Str × Bool))))), F] : List (Asn G))) ⟨rfl, hS.sel [0, 1, 2, 3, 4, 5, 6] (by decide) rfl⟩ hm (fun s18 σ H hI => by obtain ⟨rfl, hS⟩ := hI; exact (et_and (et_B (ev_din hS (i := 2) (k := s18.2) rfl (ev_var rfl) (ev_fld (ev_var rfl) (hS.getCell (i := 1) rfl) T.cl_Threads T.n_Threads_goes_to rfl))) fun _ => (et_B (ev_dnotin hS (i := 0) (k := s18.2) rfl (ev_var rfl) (ev_var rfl))))) (fun s18 σ H q N hI hm nx => ?_) (fun s18 σ H hm hI => ?_)
      ·
        obtain ⟨rfl, hS⟩ := hI
        refine f_seq ?_
        refine c_asgS ?_
        refine ev_to ev_c ?_
        refine ev_to (ev_var rfl) ?_
        refine ev_to (ev_var rfl) ?_
        obtain ⟨h19, hm⟩ := R.wp_need hm
        refine k_setD (k := s18.2) (y := true) hS (i := 0) rfl rfl h19 rfl fun H hS => ?_
        have hS : Sep H ([dictA p12 (dput s18.1 s18.2 true : (List (Str × Bool))), cell a_v_self (.ins (G.cl 8) dx7 [("goes_to", (.ref p8)), ("pile_of", (.ref p9)), ("piles", (.ref p10)), ("comes_from", (.ref p11)), ("made", (.int (v_self.made)))]), dictA p8 (v_self.goes_to : (List (Str × Str))), dictA p9 (v_self.pile_of : (List (Str × Int))), dictE lstA p10 (v_self.piles : (List (Int × (List Str)))), dictE dictA p11 (v_self.comes_from : (List (Str × (List (Str × Bool))))), F] : List (Asn G)) := hS
        refine sq_nx ?_
        refine c_asg ?_
        obtain ⟨y20, hy20, hm⟩ := wp_dget hm
        obtain ⟨v21, g22, hv23⟩ := dget_some hS (i := 2) rfl hy20
        have hv23 : v21 = (.str (y20)) := hv23
        subst hv23
        refine ev_to (ev_dget (y := y20) hS (i := 2) rfl (ev_fld (ev_var rfl) (hS.getCell (i := 1) rfl) T.cl_Threads T.n_Threads_goes_to rfl) (ev_var rfl) g22) ?_
        refine c_set (σ' := [some (.ref a_v_self), some (.str (v_name)), some (.ref p12), some (.str (y20))]) rfl ?_
        exact nx _ _ _ hm ⟨rfl, hS.sel [0, 1, 2, 3, 4, 5, 6] (by decide) rfl⟩
      · obtain ⟨rfl, hS⟩ := hI
        refine sq_nx ?_
        refine c_ret ?_
        refine ev_to (ev_sub (ev_lenD hS (i := 0) rfl (ev_var rfl)) ev_c) ?_
        have hS : Sep H (ThreadsA a_v_self v_self :: [dictA p12 (s18.1 : (List (Str × Bool))), F] : List (Asn G)) := pack_Threads (hS.sel [1, 2, 3, 4, 5, 0, 6] (by decide) rfl)
        exact hm _ (hS.sel [0, 2] (by decide) rfl)
    ·
      have hS : Sep H ([ThreadsA a_v_self v_self, F] : List (Asn G)) := Sep.star (M := [ThreadsA a_v_self v_self]) hS
      exact hx _ (hS.sel [0, 1] (by decide) rfl)
def sp_Threads_depth_A (G : Gx) : Sp := fun vs H Q E => ∃ (a_v_self : Addr) (v_self : Threads) (a_v_name : V) (v_name : Any) (F : Asn G), vs = [.ref a_v_self, a_v_name] ∧ Im.im G H a_v_name v_name ∧ Sep H ([ThreadsA a_v_self v_self, F] : List (Asn G)) ∧ R.wp (m_Threads_depth_A v_self v_name) (fun r => ∀ H', Sep H' ([ThreadsA a_v_self v_self, F] : List (Asn G)) → Q (.int (r)) H') (fun x => ∀ H', Sep H' ([ThreadsA a_v_self v_self, F] : List (Asn G)) → Eok G x E H')
abbrev N_Threads_depth_A : List Str := ["self", "name", "met", "above"]
theorem sc_Threads_depth_A : FnScope N_Threads_depth_A ["self", "name"] (defScope s_Threads_depth) := ⟨rfl, rfl, rfl, by decide +kernel, rfl, by decide +kernel, by decide +kernel⟩
theorem ok_Threads_depth_A (T : Txt G mg) : FnOk P w G.K mg base (L2.CX P w) 2 T.a_Threads_depth T.fd_Threads_depth ["self", "name"] (sp_Threads_depth_A G) := by
  have nd := sc_Threads_depth_A.nd
  refine Fun.okX T.F_Threads_depth sc_Threads_depth_A (fun vs H Q E h => ?_) (fun cdv A outer s H vs Q E hr h => ?_)
  · obtain ⟨a_v_self, v_self, a_v_name, v_name, F, rfl, _⟩ := h; rfl
  · obtain ⟨a_v_self, v_self, a_v_name, v_name, F, rfl, him_v_name, hS, hm⟩ := h
    have hS := hS.addIm him_v_name
    refine ⟨_, (pss_cons (ps_expr (pe_meth (pv 0) T.cl_Threads T.m_Threads_sure (ok_Threads_sure_A T) (hr.mono (by decide)) T.b_Threads_sure .nil (passes_call (takes_of rfl rfl rfl rfl) (fun _ _ _ _ h => h)) (pa_cons (pv 1) pa_nil)))
      (pss_cons (ps_set (i := 2) nd rfl (Or.inl rfl) (pe_disp (pps_cons (pv 1) pe_bl pps_nil) rfl rfl (by simp) (by show 1 ≤ 15; decide)))
      (pss_cons (ps_set (i := 3) nd rfl (Or.inl rfl) (pe_dget (hu_of hr) (pe_fld (pv 0) rfl) (pv 1) (fun _ _ => rfl)))
      (pss_cons (ps_while (passes_of rfl) (PW.pt (pw_and (pt_cmp (pc_din (hu_of hr) (pv 3) (pe_fld (pv 0) rfl))) (pw_and1 (pt_cmp (pc_dnotin (hu_of hr) (pv 3) (pv 2)))))) (pss_cons (ps_asg pe_bl (pg_sub (pv 2) (pv 3) (set_dict (hu_of hr))))
      (pss_one (ps_set (i := 3) nd rfl (Or.inl rfl) (pe_dget (hu_of hr) (pe_fld (pv 0) rfl) (pv 3) (fun _ _ => rfl))))))
      (pss_one (ps_ret (pe_op op_sub (pe_callB call_lenD (by rfl) T.z_len PySem.boot_len (pa_cons (pv 2) pa_nil)) pe_int))))))), ?_⟩
    unfold m_Threads_depth_A at hm
    have hS : Sep H (ThreadsA a_v_self v_self :: [imA a_v_name (v_name : Any), F] : List (Asn G)) := hS.sel [1, 0, 2] (by decide) rfl
    obtain ⟨dx1, p2, p3, p4, p5, hS⟩ := open_Threads hS
    have hS : Sep H ([cell a_v_self (.ins (G.cl 8) dx1 [("goes_to", (.ref p2)), ("pile_of", (.ref p3)), ("piles", (.ref p4)), ("comes_from", (.ref p5)), ("made", (.int (v_self.made)))]), dictA p2 (v_self.goes_to : (List (Str × Str))), dictA p3 (v_self.pile_of : (List (Str × Int))), dictE lstA p4 (v_self.piles : (List (Int × (List Str)))), dictE dictA p5 (v_self.comes_from : (List (Str × (List (Str × Bool))))), imA a_v_name (v_name : Any), F] : List (Asn G)) := hS
    refine f_seq ?_
    refine c_drop ?_
    refine c_meth ?_
    refine ev_to (ev_var rfl) ?_
    refine ⟨_, _, _, rfl, (hS.getCell (i := 0) rfl), rfl, ?_⟩
    refine ea_to (ea_cons (ev_var rfl) ea_nil) ?_
    have hS : Sep H (ThreadsA a_v_self v_self :: [imA a_v_name (v_name : Any), F] : List (Asn G)) := pack_Threads (hS.sel [0, 1, 2, 3, 4, 5, 6] (by decide) rfl)
    refine ⟨a_v_self, (v_self : Threads), a_v_name, (v_name : Any), star [imA a_v_name (v_name : Any), F], rfl, (hS.im (i := 1) rfl), Sep.unstar (M := [ThreadsA a_v_self v_self]) (hS.sel [0, 1, 2] (by decide) rfl : Sep H (([ThreadsA a_v_self v_self] ++ [imA a_v_name (v_name : Any), F] : List (Asn G)))), R.wp_mono (R.wp_bind hm) (fun r6 hm H hS => ?_) (fun x hx H hS => ?_)⟩
    ·
      have hS : Sep H ([ThreadsA a_v_self v_self, imA a_v_name (v_name : Any), F] : List (Asn G)) := Sep.star (M := [ThreadsA a_v_self v_self]) hS
      have hS : Sep H (ThreadsA a_v_self v_self :: [imA a_v_name (v_name : Any), F] : List (Asn G)) := hS.sel [0, 1, 2] (by decide) rfl
      obtain ⟨dx7, p8, p9, p10, p11, hS⟩ := open_Threads hS
      have hS : Sep H ([cell a_v_self (.ins (G.cl 8) dx7 [("goes_to", (.ref p8)), ("pile_of", (.ref p9)), ("piles", (.ref p10)), ("comes_from", (.ref p11)), ("made", (.int (v_self.made)))]), dictA p8 (v_self.goes_to : (List (Str × Str))), dictA p9 (v_self.pile_of : (List (Str × Int))), dictE lstA p10 (v_self.piles : (List (Int × (List Str)))), dictE dictA p11 (v_self.comes_from : (List (Str × (List (Str × Bool))))), imA a_v_name (v_name : Any), F] : List (Asn G)) := hS
      refine sq_nx ?_
      refine f_seq ?_
      refine c_asg ?_
      refine c_disp ?_
      refine k_disp (κ := Str) (β := Bool) hS fun p12 H hS => ?_
      have hS : Sep H ([dictA p12 (([] : (List (Str × Bool))) : (List (Str × Bool))), cell a_v_self (.ins (G.cl 8) dx7 [("goes_to", (.ref p8)), ("pile_of", (.ref p9)), ("piles", (.ref p10)), ("comes_from", (.ref p11)), ("made", (.int (v_self.made)))]), dictA p8 (v_self.goes_to : (List (Str × Str))), dictA p9 (v_self.pile_of : (List (Str × Int))), dictE lstA p10 (v_self.piles : (List (Int × (List Str)))), dictE dictA p11 (v_self.comes_from : (List (Str × (List (Str × Bool))))), imA a_v_name (v_name : Any), F] : List (Asn G)) := hS
      refine pr_cons ?_
      refine ev_to (ev_var rfl) ?_
      obtain ⟨s13, hs14, hm⟩ := Ml.wp_asStr hm
      have hv15 := v_str (hS.im (i := 6) rfl) hs14
      subst hv15
      refine pr_1 ?_
      refine ev_to ev_c ?_
      refine pr_2 ?_
      refine pr_nil ?_
      refine k_dispEnd (qs := ([(s13, true)] : (List (Str × Bool)))) (kvs := [(Kx.key s13, (.bl (true)))]) hS (i := 0) rfl rfl ⟨⟨rfl, rfl⟩, True.intro⟩ (by show 1 ≤ 15; decide) rfl fun H hS => ?_
      have hS : Sep H ([dictA p12 (mergeD [] ([(s13, true)] : (List (Str × Bool))) : (List (Str × Bool))), cell a_v_self (.ins (G.cl 8) dx7 [("goes_to", (.ref p8)), ("pile_of", (.ref p9)), ("piles", (.ref p10)), ("comes_from", (.ref p11)), ("made", (.int (v_self.made)))]), dictA p8 (v_self.goes_to : (List (Str × Str))), dictA p9 (v_self.pile_of : (List (Str × Int))), dictE lstA p10 (v_self.piles : (List (Int × (List Str)))), dictE dictA p11 (v_self.comes_from : (List (Str × (List (Str × Bool))))), imA (.str (s13)) (v_name : Any), F] : List (Asn G)) := hS
      obtain ⟨y16, hy16, hm⟩ := wp_let hm
      have hS : Sep H ([dictA p12 (y16 : (List (Str × Bool))), cell a_v_self (.ins (G.cl 8) dx7 [("goes_to", (.ref p8)), ("pile_of", (.ref p9)), ("piles", (.ref p10)), ("comes_from", (.ref p11)), ("made", (.int (v_self.made)))]), dictA p8 (v_self.goes_to : (List (Str × Str))), dictA p9 (v_self.pile_of : (List (Str × Int))), dictE lstA p10 (v_self.piles : (List (Int × (List Str)))), dictE dictA p11 (v_self.comes_from : (List (Str × (List (Str × Bool))))), imA (.str (s13)) (v_name : Any), F] : List (Asn G)) := by rw [← hy16]; exact hS
      refine c_set (σ' := [some (.ref a_v_self), some (.str (s13)), some (.ref p12), none]) rfl ?_
      refine sq_nx ?_
      refine f_seq ?_
      refine c_asg ?_
      obtain ⟨s17, hs18, hm⟩ := Ml.wp_asStr hm
      have hv19 := v_str (hS.im (i := 6) rfl) hs18
      injection hv19 with hv19; subst hv19
      obtain ⟨y20, hy20, hm⟩ := wp_dget hm
      obtain ⟨v21, g22, hv23⟩ := dget_some hS (i := 2) rfl hy20
      have hv23 : v21 = (.str (y20)) := hv23
      subst hv23
      refine ev_to (ev_dget (y := y20) hS (i := 2) rfl (ev_fld (ev_var rfl) (hS.getCell (i := 1) rfl) T.cl_Threads T.n_Threads_goes_to rfl) (ev_var rfl) g22) ?_
      refine c_set (σ' := [some (.ref a_v_self), some (.str (s13)), some (.ref p12), some (.str (y20))]) rfl ?_
      refine sq_nx ?_
      refine f_seq ?_
      refine k_whileN (τ := (List (Str × Bool)) × Str) (n := 64) (c := fun (s24 : (List (Str × Bool)) × Str) => (dhas v_self.goes_to s24.2) && (!dhas s24.1 s24.2)) (s := (y16, y20)) (fun (s24 : (List (Str × Bool)) × Str) (σ : L2.St) (H : Hp) => σ = [some (.ref a_v_self), some (.str (s13)), some (.ref p12), some (.str (s24.2))] ∧ Sep H ([dictA p12 (s24.1 : (List (Str × Bool))), cell a_v_self (.ins (G.cl 8) dx7 [("goes_to", (.ref p8)), ("pile_of", (.ref p9)), ("piles", (.ref p10)), ("comes_from", (.ref p11)), ("made", (.int (v_self.made)))]), dictA p8 (v_self.goes_to : (List (Str × Str))), dictA p9 (v_self.pile_of : (List (Str × Int))), dictE lstA p10 (v_self.piles : (List (Int × (List Str)))), dictE dictA p11 (v_self.comes_from : (List (Str × (List (Str × Bool))))), imA (.str (s13)) (v_name : Any), F] : List (Asn G))) ⟨rfl, hS.sel [0, 1, 2, 3, 4, 5, 6, 7] (by decide) rfl⟩ hm (fun s24 σ H hI => by obtain ⟨rfl, hS⟩ := hI; exact (et_and (et_B (ev_din hS (i := 2) (k := s24.2) rfl (ev_var rfl) (ev_fld (ev_var rfl) (hS.getCell (i := 1) rfl) T.cl_Threads T.n_Threads_goes_to rfl))) fun _ => (et_B (ev_dnotin hS (i := 0) (k := s24.2) rfl (ev_var rfl) (ev_var rfl))))) (fun s24 σ H q N hI hm nx => ?_) (fun s24 σ H hm hI => ?_)
      ·
        obtain ⟨rfl, hS⟩ := hI
        refine f_seq ?_
        refine c_asgS ?_
        refine ev_to ev_c ?_
        refine ev_to (ev_var rfl) ?_
        refine ev_to (ev_var rfl) ?_
        obtain ⟨h25, hm⟩ := R.wp_need hm
        refine k_setD (k := s24.2) (y := true) hS (i := 0) rfl rfl h25 rfl fun H hS => ?_
        have hS : Sep H ([dictA p12 (dput s24.1 s24.2 true : (List (Str × Bool))), cell a_v_self (.ins (G.cl 8) dx7 [("goes_to", (.ref p8)), ("pile_of", (.ref p9)), ("piles", (.ref p10)), ("comes_from", (.ref p11)), ("made", (.int (v_self.made)))]), dictA p8 (v_self.goes_to : (List (Str × Str))), dictA p9 (v_self.pile_of : (List (Str × Int))), dictE lstA p10 (v_self.piles : (List (Int × (List Str)))), dictE dictA p11 (v_self.comes_from : (List (Str × (List (Str × Bool))))), imA (.str (s13)) (v_name : Any), F] : List (Asn G)) := hS
        refine sq_nx ?_
        refine c_asg ?_
        obtain ⟨y26, hy26, hm⟩ := wp_dget hm
        obtain ⟨v27, g28, hv29⟩ := dget_some hS (i := 2) rfl hy26
        have hv29 : v27 = (.str (y26)) := hv29
        subst hv29
        refine ev_to (ev_dget (y := y26) hS (i := 2) rfl (ev_fld (ev_var rfl) (hS.getCell (i := 1) rfl) T.cl_Threads T.n_Threads_goes_to rfl) (ev_var rfl) g28) ?_
        refine c_set (σ' := [some (.ref a_v_self), some (.str (s13)), some (.ref p12), some (.str (y26))]) rfl ?_
        exact nx _ _ _ hm ⟨rfl, hS.sel [0, 1, 2, 3, 4, 5, 6, 7] (by decide) rfl⟩
      · obtain ⟨rfl, hS⟩ := hI
        refine sq_nx ?_
        refine c_ret ?_
        refine ev_to (ev_sub (ev_lenD hS (i := 0) rfl (ev_var rfl)) ev_c) ?_
        have hS : Sep H (ThreadsA a_v_self v_self :: [dictA p12 (s24.1 : (List (Str × Bool))), imA (.str (s13)) (v_name : Any), F] : List (Asn G)) := pack_Threads (hS.sel [1, 2, 3, 4, 5, 0, 6, 7] (by decide) rfl)
        exact hm _ (hS.sel [0, 3] (by decide) rfl)
    ·
      have hS : Sep H ([ThreadsA a_v_self v_self, imA a_v_name (v_name : Any), F] : List (Asn G)) := Sep.star (M := [ThreadsA a_v_self v_self]) hS
      exact hx _ (hS.sel [0, 2] (by decide) rfl)
def sp_law_draws (G : Gx) : Sp := fun vs H Q E => ∃ (a_v_law_script : V) (v_law_script : Script) (v_law_many : Int) (F : Asn G), vs = [a_v_law_script, (.int (v_law_many))] ∧ Im.im G H a_v_law_script v_law_script ∧ Sep H ([F] : List (Asn G)) ∧ R.wp (m_law_draws v_law_script v_law_many) (fun r => ∀ p H', Sep H' ([lstA p (r : (List Int)), F] : List (Asn G)) → Q (.ref p) H') (fun _ => False)
abbrev N_law_draws : List Str := ["_law_script", "_law_many", "_law_found", "_law_more", "_law_k", "_law_cell"]
theorem sc_law_draws : FnScope N_law_draws ["_law_script", "_law_many"] (defScope s_law_draws) := ⟨rfl, rfl, rfl, by decide +kernel, rfl, by decide +kernel, by decide +kernel⟩
theorem ok_law_draws (T : Txt G mg) : FnOk P w G.K mg base CX0 1 T.a_law_draws T.fd_law_draws ["_law_script", "_law_many"] (sp_law_draws G) := by
  have nd := sc_law_draws.nd
  refine Fun.ok T.F_law_draws sc_law_draws (fun vs H Q E h => ?_) (fun cdv A outer s H vs Q E hr h => ?_)
  · obtain ⟨a_v_law_script, v_law_script, v_law_many, F, rfl, _⟩ := h; rfl
  · obtain ⟨a_v_law_script, v_law_script, v_law_many, F, rfl, him_v_law_script, hS, hm⟩ := h
    obtain ⟨ad_v_law_script, rfl, _⟩ := im_script him_v_law_script
    have hS := hS.addIm him_v_law_script
    refine ⟨_, (pss_cons (ps_set (i := 2) nd rfl (Or.inl rfl) (pe_fz (pe_lst pa_nil)))
      (pss_cons (ps_set (i := 3) nd rfl (Or.inl rfl) pe_int)
      (pss_cons (ps_for PassesOwn.never rfl (pi_range1 rfl T.z_range (pa_cons (pv 1) pa_nil)) (pg_name (i := 4) nd rfl (Or.inl rfl)) (pss_cons (ps_set (i := 5) nd rfl (Or.inl rfl) pe_int)
      (pss_cons (ps_if (pt_cmpR op_gt (pe_callB (lenSqK G.K) (by rfl) T.z_len PySem.boot_len (pa_cons (pv 0) pa_nil)) pe_int (nomark _)) (pss_one (ps_set (i := 5) nd rfl (Or.inl rfl) (pe_ix (ix_listK G.K) (pv 0) (pe_op op_mod (pv 4) (pe_callB (lenSqK G.K) (by rfl) T.z_len PySem.boot_len (pa_cons (pv 0) pa_nil))) (fun _ _ => rfl)))) pss_nil)
      (pss_cons (ps_set (i := 3) nd rfl (Or.inl rfl) (pe_op op_mod (pe_op op_add (pe_op op_add (pe_op op_add (pe_op op_mul (pv 3) pe_int) (pv 5)) (pv 4)) pe_int) pe_int))
      (pss_one (ps_expr (pe_bmK G.K PySem.F.plainAttrs_list PySem.F.slot_list_append PySem.F.type_list_append mt_append (pe_fz (pv 2)) (pa_cons (pe_op op_mod (pe_op op_mul (pv 3) (pv 3)) pe_int) pa_nil))))))))
      (pss_one (ps_ret (pe_fz (pv 2))))))), ?_⟩
    unfold m_law_draws at hm
    refine f_seq ?_
    refine c_asg ?_
    refine c_fz ?_
    refine c_lst ?_
    refine ea_to ea_nil ?_
    refine k_lst (α := Int) (vs := []) (xs := ([] : (List Int))) hS True.intro (by show 0 ≤ sizeLine; decide) fun p1 H hS => ?_
    refine fz_no ?_
    refine c_set (σ' := [some (.ref ad_v_law_script), some (.int (v_law_many)), some (.ref p1), none, none, none]) rfl ?_
    refine sq_nx ?_
    refine f_seq ?_
    refine c_asg ?_
    refine ev_to ev_c ?_
    refine c_set (σ' := [some (.ref ad_v_law_script), some (.int (v_law_many)), some (.ref p1), some (.int (7)), none, none]) rfl ?_
    refine sq_nx ?_
    refine f_seq ?_
    refine c_for ?_
    refine c_rng1 ?_
    refine ea_to (ea_cons (ev_var rfl) ea_nil) ?_
    obtain ⟨h2, hm⟩ := R.wp_need hm
    refine k_rng1 h2.1 h2.2 ?_
    refine k_for (τ := (List Int) × Int) (fun (s3 : (List Int) × Int) (σ : L2.St) (H : Hp) => ∃ (w6 w7 : Option V), σ = [some (.ref ad_v_law_script), some (.int (v_law_many)), some (.ref p1), some (.int (s3.2)), w6, w7] ∧ Sep H ([lstA p1 (s3.1 : (List Int)), imA (.ref ad_v_law_script) v_law_script, F] : List (Asn G))) (im := (fun _ v (x : Int) => v = .int x)) (s := (([] : (List Int)), 7)) (fun _ => wk_range) ⟨_, _, rfl, hS.sel [0, 1, 2] (by decide) rfl⟩ hm (fun s3 x4 v5 σ H q N hI hx hm nx => ?_) (fun s3 σ H hm hI => ?_)
    ·
      obtain ⟨w6, w7, rfl, hS⟩ := hI
      cases hx
      refine c_gN (σ' := [some (.ref ad_v_law_script), some (.int (v_law_many)), some (.ref p1), some (.int (s3.2)), some (.int (x4)), w7]) rfl ?_
      refine f_seq ?_
      refine c_asg ?_
      refine ev_to ev_c ?_
      refine c_set (σ' := [some (.ref ad_v_law_script), some (.int (v_law_many)), some (.ref p1), some (.int (s3.2)), some (.int (x4)), some (.int (0))]) rfl ?_
      refine sq_nx ?_
      refine f_seq ?_
      refine f_if ?_
      refine et_to (et_test (ev_i0 (ev_lenLm (ev_var rfl) (sq_script (hS.im (i := 1) rfl))) ev_c)) ?_
      refine ifK_J (τ := Int) (fun (s8 : Int) (σ : L2.St) (H : Hp) => σ = [some (.ref ad_v_law_script), some (.int (v_law_many)), some (.ref p1), some (.int (s3.2)), some (.int (x4)), some (.int (s8))] ∧ Sep H ([lstA p1 (s3.1 : (List Int)), imA (.ref ad_v_law_script) v_law_script, F] : List (Asn G))) hm (fun hb q hm nx => ?_) (fun hb q hm nx => ?_) (fun s8 σ H hm hI => ?_)
      ·
        refine c_asg ?_
        obtain ⟨h9, hm⟩ := R.wp_need hm
        obtain ⟨x10, hx10, hm⟩ := wp_idx hm
        refine ev_to (ev_ixSq (ev_var rfl) (ev_mod (ev_var rfl) (ev_lenLm (ev_var rfl) (sq_script (hS.im (i := 1) rfl))) h9) (sq_script (hS.im (i := 1) rfl)) (atI_map hx10)) ?_
        refine c_set (σ' := [some (.ref ad_v_law_script), some (.int (v_law_many)), some (.ref p1), some (.int (s3.2)), some (.int (x4)), some (.int (x10))]) rfl ?_
        exact nx _ _ _ hm ⟨rfl, hS.sel [0, 1, 2] (by decide) rfl⟩
      ·
        refine st_nx ?_
        exact nx _ _ _ hm ⟨rfl, hS.sel [0, 1, 2] (by decide) rfl⟩
      · obtain ⟨rfl, hS⟩ := hI
        refine sq_nx ?_
        refine f_seq ?_
        refine c_asg ?_
        refine ev_to (ev_mod (ev_add (ev_add (ev_add (ev_mul (ev_var rfl) ev_c (.inr (by constructor <;> decide))) (ev_var rfl)) (ev_var rfl)) ev_c) ev_c (by decide)) ?_
        obtain ⟨y11, hy11, hm⟩ := wp_let hm
        refine n_is (w := (.int (y11))) (by first | rw [hy11] | (subst hy11; rfl)) ?_
        refine c_set (σ' := [some (.ref ad_v_law_script), some (.int (v_law_many)), some (.ref p1), some (.int (y11)), some (.int (x4)), some (.int (s8))]) rfl ?_
        refine sq_nx ?_
        refine c_drop ?_
        refine c_bm ?_
        refine ev_to (ev_fz (ev_var rfl)) ⟨tyL hS (i := 0) rfl, ?_⟩
        obtain ⟨h12, hm⟩ := R.wp_need hm
        refine ea_to (ea_cons (ev_mod (ev_mul (ev_var rfl) (ev_var rfl) h12) ev_c (by decide)) ea_nil) ?_
        obtain ⟨h13, hm⟩ := R.wp_need hm
        refine k_append (x := (y11 * y11) % 2147483629) hS (i := 0) rfl rfl h13 rfl fun H hS => ?_
        exact nx _ _ _ hm ⟨_, _, rfl, hS.sel [0, 1, 2] (by decide) rfl⟩
    · obtain ⟨w6, w7, rfl, hS⟩ := hI
      refine sq_nx ?_
      refine c_ret ?_
      refine ev_to (ev_fz (ev_var rfl)) ?_
      exact hm _ _ (hS.sel [0, 2] (by decide) rfl)
def sp_law_name_by (G : Gx) : Sp := fun vs H Q E => ∃ (v_law_shape : Int) (v_law_k : Int) (F : Asn G), vs = [(.int (v_law_shape)), (.int (v_law_k))] ∧ Sep H ([F] : List (Asn G)) ∧ R.wp (m_law_name_by v_law_shape v_law_k) (fun r => ∀ H', Sep H' ([F] : List (Asn G)) → Q (.str (r)) H') (fun _ => False)
abbrev N_law_name_by : List Str := ["_law_shape", "_law_k", "_law_signs", "_law_place", "_law_name", "_law_turn"]
theorem sc_law_name_by : FnScope N_law_name_by ["_law_shape", "_law_k"] (defScope s_law_name_by) := ⟨rfl, rfl, rfl, by decide +kernel, rfl, by decide +kernel, by decide +kernel⟩
theorem ok_law_name_by (T : Txt G mg) : FnOk P w G.K mg base CX0 1 T.a_law_name_by T.fd_law_name_by ["_law_shape", "_law_k"] (sp_law_name_by G) := by
  have nd := sc_law_name_by.nd
  refine Fun.ok T.F_law_name_by sc_law_name_by (fun vs H Q E h => ?_) (fun cdv A outer s H vs Q E hr h => ?_)
  · obtain ⟨v_law_shape, v_law_k, F, rfl, _⟩ := h; rfl
  · obtain ⟨v_law_shape, v_law_k, F, rfl, hS, hm⟩ := h
    refine ⟨_, (pss_cons (ps_set (i := 2) nd rfl (Or.inl rfl) pe_str)
      (pss_cons (ps_if (pt_cmpR op_eq (pe_op op_mod (pv 0) pe_int) pe_int (nomark _)) (pss_one (ps_ret (pe_op op_repS (pe_ix ix_str (pv 2) (pe_op op_mod (pe_op op_add (pe_op op_fdiv (pv 0) pe_int) (pe_op op_fdiv (pv 1) pe_int)) pe_int) (fun _ _ => rfl)) (pe_op op_add pe_int (pe_op op_mod (pv 1) pe_int))))) pss_nil)
      (pss_cons (ps_set (i := 3) nd rfl (Or.inl rfl) (pe_op op_mod (pe_op op_fdiv (pv 0) pe_int) pe_int))
      (pss_cons (ps_set (i := 4) nd rfl (Or.inl rfl) pe_str)
      (pss_cons (ps_for PassesOwn.never rfl (pi_range1 rfl T.z_range (pa_cons (pe_op op_add (pe_op op_add (pv 3) pe_int) (pe_op op_mod (pe_op op_fdiv (pv 0) pe_int) (pe_op op_sub pe_int (pv 3)))) pa_nil)) (pg_name (i := 5) nd rfl (Or.inl rfl)) (pss_one (ps_if (pt_cmpR op_eq (pv 5) (pv 3) (nomark _)) (pss_one (ps_set (i := 4) nd rfl (Or.inl rfl) (pe_op op_catS (pv 4) (pe_ix ix_str (pv 2) (pe_op op_mod (pe_op op_add (pe_op op_fdiv (pv 0) pe_int) (pe_op op_fdiv (pv 1) pe_int)) pe_int) (fun _ _ => rfl))))) (pss_one (ps_if (pt_cmpR op_eq (pv 5) (pe_op op_add (pv 3) pe_int) (nomark _)) (pss_one (ps_set (i := 4) nd rfl (Or.inl rfl) (pe_op op_catS (pv 4) (pe_ix ix_str (pv 2) (pe_op op_mod (pe_op op_add (pe_op op_fdiv (pv 0) pe_int) (pv 1)) pe_int) (fun _ _ => rfl))))) (pss_one (ps_set (i := 4) nd rfl (Or.inl rfl) (pe_op op_catS (pv 4) (pe_ix ix_str (pv 2) (pe_op op_mod (pe_op op_add (pe_op op_fdiv (pv 0) pe_int) (pe_op op_mul (pv 5) (pe_op op_add pe_int (pe_op op_mod (pv 0) pe_int)))) pe_int) (fun _ _ => rfl))))))))))
      (pss_one (ps_ret (pv 4)))))))), ?_⟩
    unfold m_law_name_by at hm
    refine f_seq ?_
    refine c_asg ?_
    refine ev_to ev_c ?_
    refine c_set (σ' := [some (.int (v_law_shape)), some (.int (v_law_k)), some (.str (("abcdefghijklmnopqrstuvwxyz0123456789" : Str))), none, none, none]) rfl ?_
    refine sq_nx ?_
    refine f_seq ?_
    refine f_if ?_
    refine et_to (et_test (ev_eqI (ev_mod (ev_var rfl) ev_c (by decide)) ev_c)) ?_
    refine ifK_2 (fun hb1 => ?_) (fun hb1 => ?_)
    · have hm := R.wp_ifY hm hb1
      refine c_ret ?_
      obtain ⟨c2, hc2, hm⟩ := wp_idx hm
      obtain ⟨h3, hm⟩ := R.wp_need hm
      refine ev_to (ev_repS (ev_ixS (ev_var rfl) (ev_mod (ev_add (ev_fdiv (ev_var rfl) ev_c ⟨by decide, by decide⟩) (ev_fdiv (ev_var rfl) ev_c ⟨by decide, by decide⟩)) ev_c (by decide)) (by decide +kernel) hc2) (ev_add ev_c (ev_mod (ev_var rfl) ev_c (by decide))) h3) ?_
      exact hm _ (hS.sel [0] (by decide) rfl)
    · have hm := R.wp_ifN hm (by first | (rw [hb1]; decide) | simpa using hb1)
      refine st_nx ?_
      refine sq_nx ?_
      refine f_seq ?_
      refine c_asg ?_
      refine ev_to (ev_mod (ev_fdiv (ev_var rfl) ev_c ⟨by decide, by decide⟩) ev_c (by decide)) ?_
      obtain ⟨y4, hy4, hm⟩ := wp_let hm
      refine n_is (w := (.int (y4))) (by first | rw [hy4] | (subst hy4; rfl)) ?_
      refine c_set (σ' := [some (.int (v_law_shape)), some (.int (v_law_k)), some (.str (("abcdefghijklmnopqrstuvwxyz0123456789" : Str))), some (.int (y4)), none, none]) rfl ?_
      refine sq_nx ?_
      refine f_seq ?_
      refine c_asg ?_
      refine ev_to ev_c ?_
      refine c_set (σ' := [some (.int (v_law_shape)), some (.int (v_law_k)), some (.str (("abcdefghijklmnopqrstuvwxyz0123456789" : Str))), some (.int (y4)), some (.str (("" : Str))), none]) rfl ?_
      refine sq_nx ?_
      refine f_seq ?_
      refine c_for ?_
      refine c_rng1 ?_
      obtain ⟨h5, hm⟩ := R.wp_need hm
      refine ea_to (ea_cons (ev_add (ev_add (ev_var rfl) ev_c) (ev_mod (ev_fdiv (ev_var rfl) ev_c ⟨by decide, by decide⟩) (ev_sub ev_c (ev_var rfl)) h5)) ea_nil) ?_
      obtain ⟨h6, hm⟩ := R.wp_need hm
      refine k_rng1 h6.1 h6.2 ?_
      refine k_for (τ := Str) (fun (s7 : Str) (σ : L2.St) (H : Hp) => ∃ (w10 : Option V), σ = [some (.int (v_law_shape)), some (.int (v_law_k)), some (.str (("abcdefghijklmnopqrstuvwxyz0123456789" : Str))), some (.int (y4)), some (.str (s7)), w10] ∧ Sep H ([F] : List (Asn G))) (im := (fun _ v (x : Int) => v = .int x)) (s := (("" : Str))) (fun _ => wk_range) ⟨_, rfl, hS.sel [0] (by decide) rfl⟩ hm (fun s7 x8 v9 σ H q N hI hx hm nx => ?_) (fun s7 σ H hm hI => ?_)
      ·
        obtain ⟨w10, rfl, hS⟩ := hI
        cases hx
        refine c_gN (σ' := [some (.int (v_law_shape)), some (.int (v_law_k)), some (.str (("abcdefghijklmnopqrstuvwxyz0123456789" : Str))), some (.int (y4)), some (.str (s7)), some (.int (x8))]) rfl ?_
        refine f_if ?_
        refine et_to (et_test (ev_eqI (ev_var rfl) (ev_var rfl))) ?_
        refine ifK_J (τ := Str) (fun (s11 : Str) (σ : L2.St) (H : Hp) => σ = [some (.int (v_law_shape)), some (.int (v_law_k)), some (.str (("abcdefghijklmnopqrstuvwxyz0123456789" : Str))), some (.int (y4)), some (.str (s11)), some (.int (x8))] ∧ Sep H ([F] : List (Asn G))) hm (fun hb q hm nx => ?_) (fun hb q hm nx => ?_) (fun s11 σ H hm hI => ?_)
        ·
          refine c_asg ?_
          obtain ⟨c12, hc12, hm⟩ := wp_idx hm
          obtain ⟨h13, hm⟩ := R.wp_need hm
          refine ev_to (ev_catS (ev_var rfl) (ev_ixS (ev_var rfl) (ev_mod (ev_add (ev_fdiv (ev_var rfl) ev_c ⟨by decide, by decide⟩) (ev_fdiv (ev_var rfl) ev_c ⟨by decide, by decide⟩)) ev_c (by decide)) (by decide +kernel) hc12) h13) ?_
          obtain ⟨y14, hy14, hm⟩ := wp_let hm
          refine n_is (w := (.str (y14))) (by first | rw [hy14] | (subst hy14; rfl)) ?_
          refine c_set (σ' := [some (.int (v_law_shape)), some (.int (v_law_k)), some (.str (("abcdefghijklmnopqrstuvwxyz0123456789" : Str))), some (.int (y4)), some (.str (y14)), some (.int (x8))]) rfl ?_
          exact nx _ _ _ hm ⟨rfl, hS.sel [0] (by decide) rfl⟩
        ·
          refine f_if ?_
          refine et_to (et_test (ev_eqI (ev_var rfl) (ev_add (ev_var rfl) ev_c))) ?_
          refine ifK_J (τ := Str) (fun (s15 : Str) (σ : L2.St) (H : Hp) => σ = [some (.int (v_law_shape)), some (.int (v_law_k)), some (.str (("abcdefghijklmnopqrstuvwxyz0123456789" : Str))), some (.int (y4)), some (.str (s15)), some (.int (x8))] ∧ Sep H ([F] : List (Asn G))) hm (fun hb q hm nx => ?_) (fun hb q hm nx => ?_) (fun s15 σ H hm hI => ?_)
          ·
            refine c_asg ?_
            obtain ⟨c16, hc16, hm⟩ := wp_idx hm
            obtain ⟨h17, hm⟩ := R.wp_need hm
            refine ev_to (ev_catS (ev_var rfl) (ev_ixS (ev_var rfl) (ev_mod (ev_add (ev_fdiv (ev_var rfl) ev_c ⟨by decide, by decide⟩) (ev_var rfl)) ev_c (by decide)) (by decide +kernel) hc16) h17) ?_
            obtain ⟨y18, hy18, hm⟩ := wp_let hm
            refine n_is (w := (.str (y18))) (by first | rw [hy18] | (subst hy18; rfl)) ?_
            refine c_set (σ' := [some (.int (v_law_shape)), some (.int (v_law_k)), some (.str (("abcdefghijklmnopqrstuvwxyz0123456789" : Str))), some (.int (y4)), some (.str (y18)), some (.int (x8))]) rfl ?_
            exact nx _ _ _ hm ⟨rfl, hS.sel [0] (by decide) rfl⟩
          ·
            refine c_asg ?_
            obtain ⟨h19, hm⟩ := R.wp_need hm
            obtain ⟨c20, hc20, hm⟩ := wp_idx hm
            obtain ⟨h21, hm⟩ := R.wp_need hm
            refine ev_to (ev_catS (ev_var rfl) (ev_ixS (ev_var rfl) (ev_mod (ev_add (ev_fdiv (ev_var rfl) ev_c ⟨by decide, by decide⟩) (ev_mul (ev_var rfl) (ev_add ev_c (ev_mod (ev_var rfl) ev_c (by decide))) h19)) ev_c (by decide)) (by decide +kernel) hc20) h21) ?_
            obtain ⟨y22, hy22, hm⟩ := wp_let hm
            refine n_is (w := (.str (y22))) (by first | rw [hy22] | (subst hy22; rfl)) ?_
            refine c_set (σ' := [some (.int (v_law_shape)), some (.int (v_law_k)), some (.str (("abcdefghijklmnopqrstuvwxyz0123456789" : Str))), some (.int (y4)), some (.str (y22)), some (.int (x8))]) rfl ?_
            exact nx _ _ _ hm ⟨rfl, hS.sel [0] (by decide) rfl⟩
          · obtain ⟨rfl, hS⟩ := hI
            exact nx _ _ _ hm ⟨rfl, hS.sel [0] (by decide) rfl⟩
        · obtain ⟨rfl, hS⟩ := hI
          exact nx _ _ _ hm ⟨_, rfl, hS.sel [0] (by decide) rfl⟩
      · obtain ⟨w10, rfl, hS⟩ := hI
        refine sq_nx ?_
        refine c_ret ?_
        refine ev_to (ev_var rfl) ?_
        exact hm _ (hS.sel [0] (by decide) rfl)
def sp_law_pool (G : Gx) : Sp := fun vs H Q E => ∃ (a_v_law_draws_here : Addr) (v_law_draws_here : (List Int)) (F : Asn G), vs = [.ref a_v_law_draws_here] ∧ Sep H ([lstA a_v_law_draws_here (v_law_draws_here : (List Int)), F] : List (Asn G)) ∧ R.wp (m_law_pool v_law_draws_here) (fun r => ∀ p H', Sep H' ([lstA p (r : (List Str)), lstA a_v_law_draws_here (v_law_draws_here : (List Int)), F] : List (Asn G)) → Q (.ref p) H') (fun _ => False)
abbrev N_law_pool : List Str := ["_law_draws_here", "_law_many", "_law_k"]
theorem sc_law_pool : FnScope N_law_pool ["_law_draws_here"] (defScope s_law_pool) := ⟨rfl, rfl, rfl, by decide +kernel, rfl, by decide +kernel, by decide +kernel⟩
theorem ok_law_pool (T : Txt G mg) : FnOk P w G.K mg base CX0 2 T.a_law_pool T.fd_law_pool ["_law_draws_here"] (sp_law_pool G) := by
  have nd := sc_law_pool.nd
  refine Fun.ok T.F_law_pool sc_law_pool (fun vs H Q E h => ?_) (fun cdv A outer s H vs Q E hr h => ?_)
  · obtain ⟨a_v_law_draws_here, v_law_draws_here, F, rfl, _⟩ := h; rfl
  · obtain ⟨a_v_law_draws_here, v_law_draws_here, F, rfl, hS, hm⟩ := h
    refine ⟨_, (pss_cons (ps_set (i := 1) nd rfl (Or.inl rfl) (pe_op op_add pe_int (pe_op op_mod (pe_ix (ix_listK G.K) (pe_fz (pv 0)) pe_int (fun _ _ => rfl)) pe_int)))
      (pss_one (ps_ret (pe_fz (pe_lc (own := [("_law_k", 2)]) (g := gName 2) rfl nd (pi_range1 rfl T.z_range (pa_cons (pv 1) pa_nil)) (blkOk_by (own := [("_law_k", 2)]) (N := N_law_pool) (sc := defScope s_law_pool) (by decide +kernel)) (fun _ _ _ _ _ => pg_name (i := 2) nd rfl (Or.inl rfl)) (fun _ _ _ _ _ => pts_nil) (fun _ _ _ _ _ => (pe_call (ok_law_name_by T) (hr.mono (by decide)) rfl T.g_law_name_by T.kp_law_name_by T.b_law_name_by .nil pass0 (pa_cons (pe_ix (ix_listK G.K) (pe_fz (pv 0)) pe_int (fun _ _ => rfl)) (pa_cons (pv 2) pa_nil))))))))), ?_⟩
    unfold m_law_pool at hm
    refine f_seq ?_
    refine c_asg ?_
    obtain ⟨x1, hx1, hm⟩ := wp_idx hm
    refine ev_to (ev_add ev_c (ev_mod (ev_ixSq (ev_fz (ev_var rfl)) ev_c (hS.sqF (i := 0) rfl) (atI_map hx1)) ev_c (by decide))) ?_
    obtain ⟨y2, hy2, hm⟩ := wp_let hm
    refine n_is (w := (.int (y2))) (by first | rw [hy2] | (subst hy2; rfl)) ?_
    refine c_set (σ' := [some (.ref a_v_law_draws_here), some (.int (y2)), none]) rfl ?_
    refine sq_nx ?_
    refine c_ret ?_
    refine c_fz ?_
    refine c_lc ?_
    refine c_rng1 ?_
    refine ea_to (ea_cons (ev_var rfl) ea_nil) ?_
    obtain ⟨h3, hm⟩ := R.wp_need hm
    refine k_rng1 h3.1 h3.2 ?_
    obtain ⟨h4, hm⟩ := R.wp_need hm
    refine lc_sep (β := Str) (fun (_ : Unit) => ([lstA a_v_law_draws_here (v_law_draws_here : (List Int)), F] : List (Asn G))) (s := ()) (im := (fun _ v (x : Int) => v = .int x)) hS (fun _ _ _ => wk_range) h4 hm (fun p5 _ ys8 x6 v7 H q Nx hS hx hm kS kN => ?_) (fun p5 t H hm hS => ?_)
    ·
      cases hx
      refine c_gLc (σ' := [some (.ref a_v_law_draws_here), some (.int (y2)), some (.int (x6))]) rfl rfl ?_
      refine c_yes ?_
      refine c_call ?_
      obtain ⟨x9, hx9, hm⟩ := wp_idx hm
      refine ea_to (ea_cons (ev_ixSq (ev_fz (ev_var rfl)) ev_c (hS.sqF (i := 1) rfl) (atI_map hx9)) (ea_cons (ev_var rfl) ea_nil)) ?_
      refine ⟨x9, x6, star [lstA p5 (ys8 : List Str), lstA a_v_law_draws_here (v_law_draws_here : (List Int)), F], rfl, Sep.unstar (M := []) (hS.sel [0, 1, 2] (by decide) rfl : Sep H (([] ++ [lstA p5 (ys8 : List Str), lstA a_v_law_draws_here (v_law_draws_here : (List Int)), F] : List (Asn G)))), R.wp_mono (R.wp_bind hm) (fun r10 hm H hS => ?_) (fun _ z => z)⟩
      have hS : Sep H ([lstA p5 (ys8 : List Str), lstA a_v_law_draws_here (v_law_draws_here : (List Int)), F] : List (Asn G)) := Sep.star (M := []) hS
      exact kS () _ _ _ hm rfl (hS.sel [0, 1, 2] (by decide) rfl)
    · revert hm hS; generalize t = t11; intro hm hS
      refine fz_no ?_
      exact hm _ _ (hS.sel [0, 1, 2] (by decide) rfl)
def sp_law_called (G : Gx) : Sp := fun vs H Q E => ∃ (v_law_call : Int) (a_v_law_threads : Addr) (v_law_threads : Threads) (a_v_law_index : Addr) (v_law_index : Index) (v_law_name : Str) (v_law_bad : Bool) (F : Asn G), vs = [(.int (v_law_call)), .ref a_v_law_threads, .ref a_v_law_index, (.str (v_law_name)), (.bl (v_law_bad))] ∧ Sep H ([ThreadsA a_v_law_threads v_law_threads, IndexA a_v_law_index v_law_index, F] : List (Asn G)) ∧ R.wp (m_law_called v_law_call v_law_threads v_law_index v_law_name v_law_bad) (fun r => ∀ (p : V) H', Sep H' ([imA p (r.1 : Any), ThreadsA a_v_law_threads r.2.1, IndexA a_v_law_index r.2.2, F] : List (Asn G)) → Q p H') (fun x => ∀ H', Sep H' ([ThreadsA a_v_law_threads v_law_threads, IndexA a_v_law_index v_law_index, F] : List (Asn G)) → Eok G x E H')
abbrev N_law_called : List Str := ["_law_call", "_law_threads", "_law_index", "_law_name", "_law_bad"]
theorem sc_law_called : FnScope N_law_called ["_law_call", "_law_threads", "_law_index", "_law_name", "_law_bad"] (defScope s_law_called) := ⟨rfl, rfl, rfl, by decide +kernel, rfl, by decide +kernel, by decide +kernel⟩
theorem ok_law_called (T : Txt G mg) : FnOk P w G.K mg base (L2.CX P w) 4 T.a_law_called T.fd_law_called ["_law_call", "_law_threads", "_law_index", "_law_name", "_law_bad"] (sp_law_called G) := by
  have nd := sc_law_called.nd
  refine Fun.okX T.F_law_called sc_law_called (fun vs H Q E h => ?_) (fun cdv A outer s H vs Q E hr h => ?_)
  · obtain ⟨v_law_call, a_v_law_threads, v_law_threads, a_v_law_index, v_law_index, v_law_name, v_law_bad, F, rfl, _⟩ := h; rfl
  · obtain ⟨v_law_call, a_v_law_threads, v_law_threads, a_v_law_index, v_law_index, v_law_name, v_law_bad, F, rfl, hS, hm⟩ := h
    refine ⟨_, (pss_cons (ps_if (PW.pt (pw_and (pt_cmpR op_eq (pv 0) pe_int (nomark _)) (pw_and1 (pt_val (pv 4))))) (pss_one (ps_ret (pe_meth (pv 1) T.cl_Threads T.m_Threads_add (ok_Threads_add T) (hr.mono (by decide)) T.b_Threads_add .nil (passes_call (takes_of rfl rfl rfl rfl) (fun _ _ _ _ h => h)) (pa_cons (pv 3) (pa_cons pe_str pa_nil))))) pss_nil)
      (pss_cons (ps_if (PW.pt (pw_and (pt_cmpR op_eq (pv 0) pe_int (nomark _)) (pw_and1 (pt_val (pv 4))))) (pss_one (ps_ret (pe_meth (pv 2) T.cl_Index T.m_Index_add (ok_Index_add T) (hr.mono (by decide)) T.b_Index_add .nil (passes_call (takes_of rfl rfl rfl rfl) (fun _ _ _ _ h => h)) (pa_cons (pv 3) (pa_cons (pe_fz (pe_lst (pa_cons pe_str pa_nil))) pa_nil))))) pss_nil)
      (pss_cons (ps_if (pt_cmpR op_eq (pv 0) pe_int (nomark _)) (pss_one (ps_ret (pe_meth (pv 1) T.cl_Threads T.m_Threads_add (ok_Threads_add T) (hr.mono (by decide)) (T.bd_Threads_add_2).2 (T.bd_Threads_add_2).1 (passes_call (takes_of rfl rfl rfl rfl) (fun _ _ _ _ h => h)) (pa_cons (pv 3) pa_nil)))) pss_nil)
      (pss_cons (ps_if (pt_cmpR op_eq (pv 0) pe_int (nomark _)) (pss_one (ps_ret (pe_meth (pv 1) T.cl_Threads T.m_Threads_take_out (ok_Threads_take_out T) (hr.mono (by decide)) T.b_Threads_take_out .nil (passes_call (takes_of rfl rfl rfl rfl) (fun _ _ _ _ h => h)) (pa_cons (pv 3) pa_nil)))) pss_nil)
      (pss_cons (ps_if (pt_cmpR op_eq (pv 0) pe_int (nomark _)) (pss_one (ps_ret (pe_fz (pe_meth (pv 1) T.cl_Threads T.m_Threads_thread (ok_Threads_thread T) (hr.mono (by decide)) T.b_Threads_thread .nil (passes_call (takes_of rfl rfl rfl rfl) (fun _ _ _ _ h => h)) (pa_cons (pv 3) pa_nil))))) pss_nil)
      (pss_cons (ps_if (pt_cmpR op_eq (pv 0) pe_int (nomark _)) (pss_one (ps_ret (pe_meth (pv 1) T.cl_Threads T.m_Threads_depth (ok_Threads_depth T) (hr.mono (by decide)) T.b_Threads_depth .nil (passes_call (takes_of rfl rfl rfl rfl) (fun _ _ _ _ h => h)) (pa_cons (pv 3) pa_nil)))) pss_nil)
      (pss_cons (ps_if (pt_cmpR op_eq (pv 0) pe_int (nomark _)) (pss_one (ps_ret (pe_meth (pv 2) T.cl_Index T.m_Index_add (ok_Index_add T) (hr.mono (by decide)) T.b_Index_add .nil (passes_call (takes_of rfl rfl rfl rfl) (fun _ _ _ _ h => h)) (pa_cons (pv 3) (pa_cons (pe_fz (pe_lst (pa_cons (pv 3) (pa_cons pe_str pa_nil)))) pa_nil))))) pss_nil)
      (pss_cons (ps_if (pt_cmpR op_eq (pv 0) pe_int (nomark _)) (pss_one (ps_ret (pe_meth (pv 2) T.cl_Index T.m_Index_take_out (ok_Index_take_out T) (hr.mono (by decide)) T.b_Index_take_out .nil (passes_call (takes_of rfl rfl rfl rfl) (fun _ _ _ _ h => h)) (pa_cons (pv 3) pa_nil)))) pss_nil)
      (pss_one (ps_ret (pe_fz (pe_meth (pv 2) T.cl_Index T.m_Index_words (ok_Index_words T) (hr.mono (by decide)) T.b_Index_words .nil (passes_call (takes_of rfl rfl rfl rfl) (fun _ _ _ _ h => h)) (pa_cons (pv 3) pa_nil))))))))))))), ?_⟩
    unfold m_law_called at hm
    refine f_seq ?_
    refine f_if ?_
    refine et_to (et_and (et_test (ev_eqI (ev_var rfl) ev_c)) fun _ => (et_B (ev_var rfl))) ?_
    refine ifK_2 (fun hb1 => ?_) (fun hb1 => ?_)
    · have hm := R.wp_ifY hm hb1
      refine c_ret ?_
      refine c_meth ?_
      refine ev_to (ev_var rfl) ?_
      obtain ⟨d2, _, _, _, _, hO3⟩ := ins_Threads hS (i := 0) rfl
      refine ⟨_, _, _, rfl, hO3, rfl, ?_⟩
      refine ea_to (ea_cons (ev_var rfl) (ea_cons ev_c ea_nil)) ?_
      refine ⟨a_v_law_threads, (v_law_threads : Threads), v_law_name, ("zother" : Str), star [IndexA a_v_law_index v_law_index, F], rfl, Sep.unstar (M := [ThreadsA a_v_law_threads v_law_threads]) (hS.sel [0, 1, 2] (by decide) rfl : Sep H (([ThreadsA a_v_law_threads v_law_threads] ++ [IndexA a_v_law_index v_law_index, F] : List (Asn G)))), R.wp_mono (R.wp_bind hm) (fun r4 hm H hS => ?_) (fun x hx H hS => ?_)⟩
      ·
        have hS : Sep H ([ThreadsA a_v_law_threads r4, IndexA a_v_law_index v_law_index, F] : List (Asn G)) := Sep.star (M := [ThreadsA a_v_law_threads r4]) hS
        have hS := hS.addIm (v := .non) (x := (Any.non : Any)) (any_non.mpr rfl)
        exact hm _ _ (hS.sel [0, 1, 2, 3] (by decide) rfl)
      ·
        have hS : Sep H ([ThreadsA a_v_law_threads v_law_threads, IndexA a_v_law_index v_law_index, F] : List (Asn G)) := Sep.star (M := [ThreadsA a_v_law_threads v_law_threads]) hS
        exact hx _ (hS.sel [0, 1, 2] (by decide) rfl)
    · have hm := R.wp_ifN hm (by first | (rw [hb1]; decide) | simpa using hb1)
      refine st_nx ?_
      refine sq_nx ?_
      refine f_seq ?_
      refine f_if ?_
      refine et_to (et_and (et_test (ev_eqI (ev_var rfl) ev_c)) fun _ => (et_B (ev_var rfl))) ?_
      refine ifK_2 (fun hb6 => ?_) (fun hb6 => ?_)
      · have hm := R.wp_ifY hm hb6
        refine c_ret ?_
        refine c_meth ?_
        refine ev_to (ev_var rfl) ?_
        obtain ⟨d7, _, _, hO8⟩ := ins_Index hS (i := 1) rfl
        refine ⟨_, _, _, rfl, hO8, rfl, ?_⟩
        refine c_cons ?_
        refine ev_to (ev_var rfl) ?_
        refine c_cons ?_
        refine c_fz ?_
        refine c_lst ?_
        refine ea_to (ea_cons ev_c ea_nil) ?_
        refine k_lst (α := Str) (vs := [(.str (("zother" : Str)))]) (xs := [("zother" : Str)]) hS ⟨rfl, True.intro⟩ (by show 1 ≤ sizeLine; decide) fun p9 H hS => ?_
        refine fz_no ?_
        refine c_nil ?_
        refine ⟨a_v_law_index, (v_law_index : Index), v_law_name, p9, ([("zother" : Str)] : (List Str)), star [ThreadsA a_v_law_threads v_law_threads, F], rfl, Sep.unstar (M := [IndexA a_v_law_index v_law_index, lstA p9 ([("zother" : Str)] : (List Str))]) (hS.sel [2, 0, 1, 3] (by decide) rfl : Sep H (([IndexA a_v_law_index v_law_index, lstA p9 ([("zother" : Str)] : (List Str))] ++ [ThreadsA a_v_law_threads v_law_threads, F] : List (Asn G)))), R.wp_mono (R.wp_bind hm) (fun r10 hm H hS => ?_) (fun x hx H hS => ?_)⟩
        ·
          have hS : Sep H ([IndexA a_v_law_index r10, lstA p9 ([("zother" : Str)] : (List Str)), ThreadsA a_v_law_threads v_law_threads, F] : List (Asn G)) := Sep.star (M := [IndexA a_v_law_index r10, lstA p9 ([("zother" : Str)] : (List Str))]) hS
          have hS := hS.addIm (v := .non) (x := (Any.non : Any)) (any_non.mpr rfl)
          exact hm _ _ (hS.sel [0, 3, 1, 4] (by decide) rfl)
        ·
          have hS : Sep H ([IndexA a_v_law_index v_law_index, lstA p9 ([("zother" : Str)] : (List Str)), ThreadsA a_v_law_threads v_law_threads, F] : List (Asn G)) := Sep.star (M := [IndexA a_v_law_index v_law_index, lstA p9 ([("zother" : Str)] : (List Str))]) hS
          exact hx _ (hS.sel [2, 0, 3] (by decide) rfl)
      · have hm := R.wp_ifN hm (by first | (rw [hb6]; decide) | simpa using hb6)
        refine st_nx ?_
        refine sq_nx ?_
        refine f_seq ?_
        refine f_if ?_
        refine et_to (et_test (ev_eqI (ev_var rfl) ev_c)) ?_
        refine ifK_2 (fun hb12 => ?_) (fun hb12 => ?_)
        · have hm := R.wp_ifY hm hb12
          refine c_ret ?_
          refine c_meth ?_
          refine ev_to (ev_var rfl) ?_
          obtain ⟨d13, _, _, _, _, hO14⟩ := ins_Threads hS (i := 0) rfl
          refine ⟨_, _, _, rfl, hO14, rfl, ?_⟩
          refine ea_to (ea_cons (ev_var rfl) ea_nil) ?_
          refine ⟨a_v_law_threads, (v_law_threads : Threads), v_law_name, ("" : Str), star [IndexA a_v_law_index v_law_index, F], rfl, Sep.unstar (M := [ThreadsA a_v_law_threads v_law_threads]) (hS.sel [0, 1, 2] (by decide) rfl : Sep H (([ThreadsA a_v_law_threads v_law_threads] ++ [IndexA a_v_law_index v_law_index, F] : List (Asn G)))), R.wp_mono (R.wp_bind hm) (fun r15 hm H hS => ?_) (fun x hx H hS => ?_)⟩
          ·
            have hS : Sep H ([ThreadsA a_v_law_threads r15, IndexA a_v_law_index v_law_index, F] : List (Asn G)) := Sep.star (M := [ThreadsA a_v_law_threads r15]) hS
            have hS := hS.addIm (v := .non) (x := (Any.non : Any)) (any_non.mpr rfl)
            exact hm _ _ (hS.sel [0, 1, 2, 3] (by decide) rfl)
          ·
            have hS : Sep H ([ThreadsA a_v_law_threads v_law_threads, IndexA a_v_law_index v_law_index, F] : List (Asn G)) := Sep.star (M := [ThreadsA a_v_law_threads v_law_threads]) hS
            exact hx _ (hS.sel [0, 1, 2] (by decide) rfl)
        · have hm := R.wp_ifN hm (by first | (rw [hb12]; decide) | simpa using hb12)
          refine st_nx ?_
          refine sq_nx ?_
          refine f_seq ?_
          refine f_if ?_
          refine et_to (et_test (ev_eqI (ev_var rfl) ev_c)) ?_
          refine ifK_2 (fun hb17 => ?_) (fun hb17 => ?_)
          · have hm := R.wp_ifY hm hb17
            refine c_ret ?_
            refine c_meth ?_
            refine ev_to (ev_var rfl) ?_
            obtain ⟨d18, _, _, _, _, hO19⟩ := ins_Threads hS (i := 0) rfl
            refine ⟨_, _, _, rfl, hO19, rfl, ?_⟩
            refine ea_to (ea_cons (ev_var rfl) ea_nil) ?_
            refine ⟨a_v_law_threads, (v_law_threads : Threads), v_law_name, star [IndexA a_v_law_index v_law_index, F], rfl, Sep.unstar (M := [ThreadsA a_v_law_threads v_law_threads]) (hS.sel [0, 1, 2] (by decide) rfl : Sep H (([ThreadsA a_v_law_threads v_law_threads] ++ [IndexA a_v_law_index v_law_index, F] : List (Asn G)))), R.wp_mono (R.wp_bind hm) (fun r20 hm H hS => ?_) (fun x hx H hS => ?_)⟩
            ·
              have hS : Sep H ([ThreadsA a_v_law_threads r20, IndexA a_v_law_index v_law_index, F] : List (Asn G)) := Sep.star (M := [ThreadsA a_v_law_threads r20]) hS
              have hS := hS.addIm (v := .non) (x := (Any.non : Any)) (any_non.mpr rfl)
              exact hm _ _ (hS.sel [0, 1, 2, 3] (by decide) rfl)
            ·
              have hS : Sep H ([ThreadsA a_v_law_threads v_law_threads, IndexA a_v_law_index v_law_index, F] : List (Asn G)) := Sep.star (M := [ThreadsA a_v_law_threads v_law_threads]) hS
              exact hx _ (hS.sel [0, 1, 2] (by decide) rfl)
          · have hm := R.wp_ifN hm (by first | (rw [hb17]; decide) | simpa using hb17)
            refine st_nx ?_
            refine sq_nx ?_
            refine f_seq ?_
            refine f_if ?_
            refine et_to (et_test (ev_eqI (ev_var rfl) ev_c)) ?_
            refine ifK_2 (fun hb22 => ?_) (fun hb22 => ?_)
            · have hm := R.wp_ifY hm hb22
              refine c_ret ?_
              refine c_fz ?_
              refine c_meth ?_
              refine ev_to (ev_var rfl) ?_
              obtain ⟨d23, _, _, _, _, hO24⟩ := ins_Threads hS (i := 0) rfl
              refine ⟨_, _, _, rfl, hO24, rfl, ?_⟩
              refine ea_to (ea_cons (ev_var rfl) ea_nil) ?_
              refine ⟨a_v_law_threads, (v_law_threads : Threads), v_law_name, star [IndexA a_v_law_index v_law_index, F], rfl, Sep.unstar (M := [ThreadsA a_v_law_threads v_law_threads]) (hS.sel [0, 1, 2] (by decide) rfl : Sep H (([ThreadsA a_v_law_threads v_law_threads] ++ [IndexA a_v_law_index v_law_index, F] : List (Asn G)))), R.wp_mono (R.wp_bind hm) (fun r25 hm p26 H hS => ?_) (fun x hx H hS => ?_)⟩
              ·
                have hS : Sep H ([lstA p26 (r25 : (List Str)), ThreadsA a_v_law_threads v_law_threads, IndexA a_v_law_index v_law_index, F] : List (Asn G)) := Sep.star (M := [lstA p26 (r25 : (List Str)), ThreadsA a_v_law_threads v_law_threads]) hS
                refine fz_yes (xs := (r25 : (List Str))) hS (i := 0) rfl fun H hS => ?_
                have hS : Sep H ([imA (.ref p26) (r25 : (List Str)), ThreadsA a_v_law_threads v_law_threads, IndexA a_v_law_index v_law_index, F] : List (Asn G)) := hS
                have hS := hS.addIm (v := (.ref p26)) (x := ((Any.lst (r25.map Any.str)) : Any)) (any_lstS (hS.im (i := 0) rfl))
                exact hm _ _ (hS.sel [0, 2, 3, 4] (by decide) rfl)
              ·
                have hS : Sep H ([ThreadsA a_v_law_threads v_law_threads, IndexA a_v_law_index v_law_index, F] : List (Asn G)) := Sep.star (M := [ThreadsA a_v_law_threads v_law_threads]) hS
                exact hx _ (hS.sel [0, 1, 2] (by decide) rfl)
            · have hm := R.wp_ifN hm (by first | (rw [hb22]; decide) | simpa using hb22)
              refine st_nx ?_
              refine sq_nx ?_
              refine f_seq ?_
              refine f_if ?_
              refine et_to (et_test (ev_eqI (ev_var rfl) ev_c)) ?_
              refine ifK_2 (fun hb29 => ?_) (fun hb29 => ?_)
              · have hm := R.wp_ifY hm hb29
                refine c_ret ?_
                refine c_meth ?_
                refine ev_to (ev_var rfl) ?_
                obtain ⟨d30, _, _, _, _, hO31⟩ := ins_Threads hS (i := 0) rfl
                refine ⟨_, _, _, rfl, hO31, rfl, ?_⟩
                refine ea_to (ea_cons (ev_var rfl) ea_nil) ?_
                refine ⟨a_v_law_threads, (v_law_threads : Threads), v_law_name, star [IndexA a_v_law_index v_law_index, F], rfl, Sep.unstar (M := [ThreadsA a_v_law_threads v_law_threads]) (hS.sel [0, 1, 2] (by decide) rfl : Sep H (([ThreadsA a_v_law_threads v_law_threads] ++ [IndexA a_v_law_index v_law_index, F] : List (Asn G)))), R.wp_mono (R.wp_bind hm) (fun r32 hm H hS => ?_) (fun x hx H hS => ?_)⟩
                ·
                  have hS : Sep H ([ThreadsA a_v_law_threads v_law_threads, IndexA a_v_law_index v_law_index, F] : List (Asn G)) := Sep.star (M := [ThreadsA a_v_law_threads v_law_threads]) hS
                  have hS := hS.addIm (v := (.int (r32))) (x := ((Any.int r32) : Any)) (any_int.mpr rfl)
                  exact hm _ _ (hS.sel [0, 1, 2, 3] (by decide) rfl)
                ·
                  have hS : Sep H ([ThreadsA a_v_law_threads v_law_threads, IndexA a_v_law_index v_law_index, F] : List (Asn G)) := Sep.star (M := [ThreadsA a_v_law_threads v_law_threads]) hS
                  exact hx _ (hS.sel [0, 1, 2] (by decide) rfl)
              · have hm := R.wp_ifN hm (by first | (rw [hb29]; decide) | simpa using hb29)
                refine st_nx ?_
                refine sq_nx ?_
                refine f_seq ?_
                refine f_if ?_
                refine et_to (et_test (ev_eqI (ev_var rfl) ev_c)) ?_
                refine ifK_2 (fun hb34 => ?_) (fun hb34 => ?_)
                · have hm := R.wp_ifY hm hb34
                  refine c_ret ?_
                  refine c_meth ?_
                  refine ev_to (ev_var rfl) ?_
                  obtain ⟨d35, _, _, hO36⟩ := ins_Index hS (i := 1) rfl
                  refine ⟨_, _, _, rfl, hO36, rfl, ?_⟩
                  refine c_cons ?_
                  refine ev_to (ev_var rfl) ?_
                  refine c_cons ?_
                  refine c_fz ?_
                  refine c_lst ?_
                  refine ea_to (ea_cons (ev_var rfl) (ea_cons ev_c ea_nil)) ?_
                  refine k_lst (α := Str) (vs := [(.str (v_law_name)), (.str (("rent" : Str)))]) (xs := [v_law_name, ("rent" : Str)]) hS ⟨rfl, ⟨rfl, True.intro⟩⟩ (by show 2 ≤ sizeLine; decide) fun p37 H hS => ?_
                  refine fz_no ?_
                  refine c_nil ?_
                  refine ⟨a_v_law_index, (v_law_index : Index), v_law_name, p37, ([v_law_name, ("rent" : Str)] : (List Str)), star [ThreadsA a_v_law_threads v_law_threads, F], rfl, Sep.unstar (M := [IndexA a_v_law_index v_law_index, lstA p37 ([v_law_name, ("rent" : Str)] : (List Str))]) (hS.sel [2, 0, 1, 3] (by decide) rfl : Sep H (([IndexA a_v_law_index v_law_index, lstA p37 ([v_law_name, ("rent" : Str)] : (List Str))] ++ [ThreadsA a_v_law_threads v_law_threads, F] : List (Asn G)))), R.wp_mono (R.wp_bind hm) (fun r38 hm H hS => ?_) (fun x hx H hS => ?_)⟩
                  ·
                    have hS : Sep H ([IndexA a_v_law_index r38, lstA p37 ([v_law_name, ("rent" : Str)] : (List Str)), ThreadsA a_v_law_threads v_law_threads, F] : List (Asn G)) := Sep.star (M := [IndexA a_v_law_index r38, lstA p37 ([v_law_name, ("rent" : Str)] : (List Str))]) hS
                    have hS := hS.addIm (v := .non) (x := (Any.non : Any)) (any_non.mpr rfl)
                    exact hm _ _ (hS.sel [0, 3, 1, 4] (by decide) rfl)
                  ·
                    have hS : Sep H ([IndexA a_v_law_index v_law_index, lstA p37 ([v_law_name, ("rent" : Str)] : (List Str)), ThreadsA a_v_law_threads v_law_threads, F] : List (Asn G)) := Sep.star (M := [IndexA a_v_law_index v_law_index, lstA p37 ([v_law_name, ("rent" : Str)] : (List Str))]) hS
                    exact hx _ (hS.sel [2, 0, 3] (by decide) rfl)
                · have hm := R.wp_ifN hm (by first | (rw [hb34]; decide) | simpa using hb34)
                  refine st_nx ?_
                  refine sq_nx ?_
                  refine f_seq ?_
                  refine f_if ?_
                  refine et_to (et_test (ev_eqI (ev_var rfl) ev_c)) ?_
                  refine ifK_2 (fun hb40 => ?_) (fun hb40 => ?_)
                  · have hm := R.wp_ifY hm hb40
                    refine c_ret ?_
                    refine c_meth ?_
                    refine ev_to (ev_var rfl) ?_
                    obtain ⟨d41, _, _, hO42⟩ := ins_Index hS (i := 1) rfl
                    refine ⟨_, _, _, rfl, hO42, rfl, ?_⟩
                    refine ea_to (ea_cons (ev_var rfl) ea_nil) ?_
                    refine ⟨a_v_law_index, (v_law_index : Index), v_law_name, star [ThreadsA a_v_law_threads v_law_threads, F], rfl, Sep.unstar (M := [IndexA a_v_law_index v_law_index]) (hS.sel [1, 0, 2] (by decide) rfl : Sep H (([IndexA a_v_law_index v_law_index] ++ [ThreadsA a_v_law_threads v_law_threads, F] : List (Asn G)))), R.wp_mono (R.wp_bind hm) (fun r43 hm H hS => ?_) (fun x hx H hS => ?_)⟩
                    ·
                      have hS : Sep H ([IndexA a_v_law_index r43, ThreadsA a_v_law_threads v_law_threads, F] : List (Asn G)) := Sep.star (M := [IndexA a_v_law_index r43]) hS
                      have hS := hS.addIm (v := .non) (x := (Any.non : Any)) (any_non.mpr rfl)
                      exact hm _ _ (hS.sel [0, 2, 1, 3] (by decide) rfl)
                    ·
                      have hS : Sep H ([IndexA a_v_law_index v_law_index, ThreadsA a_v_law_threads v_law_threads, F] : List (Asn G)) := Sep.star (M := [IndexA a_v_law_index v_law_index]) hS
                      exact hx _ (hS.sel [1, 0, 2] (by decide) rfl)
                  · have hm := R.wp_ifN hm (by first | (rw [hb40]; decide) | simpa using hb40)
                    refine st_nx ?_
                    refine sq_nx ?_
                    refine c_ret ?_
                    refine c_fz ?_
                    refine c_meth ?_
                    refine ev_to (ev_var rfl) ?_
                    obtain ⟨d45, _, _, hO46⟩ := ins_Index hS (i := 1) rfl
                    refine ⟨_, _, _, rfl, hO46, rfl, ?_⟩
                    refine ea_to (ea_cons (ev_var rfl) ea_nil) ?_
                    refine ⟨a_v_law_index, (v_law_index : Index), v_law_name, star [ThreadsA a_v_law_threads v_law_threads, F], rfl, Sep.unstar (M := [IndexA a_v_law_index v_law_index]) (hS.sel [1, 0, 2] (by decide) rfl : Sep H (([IndexA a_v_law_index v_law_index] ++ [ThreadsA a_v_law_threads v_law_threads, F] : List (Asn G)))), R.wp_mono (R.wp_bind hm) (fun r47 hm p48 H hS => ?_) (fun x hx H hS => ?_)⟩
                    ·
                      have hS : Sep H ([lstA p48 (r47 : (List Str)), IndexA a_v_law_index v_law_index, ThreadsA a_v_law_threads v_law_threads, F] : List (Asn G)) := Sep.star (M := [lstA p48 (r47 : (List Str)), IndexA a_v_law_index v_law_index]) hS
                      refine fz_yes (xs := (r47 : (List Str))) hS (i := 0) rfl fun H hS => ?_
                      have hS : Sep H ([imA (.ref p48) (r47 : (List Str)), IndexA a_v_law_index v_law_index, ThreadsA a_v_law_threads v_law_threads, F] : List (Asn G)) := hS
                      have hS := hS.addIm (v := (.ref p48)) (x := ((Any.lst (r47.map Any.str)) : Any)) (any_lstS (hS.im (i := 0) rfl))
                      exact hm _ _ (hS.sel [0, 3, 2, 4] (by decide) rfl)
                    ·
                      have hS : Sep H ([IndexA a_v_law_index v_law_index, ThreadsA a_v_law_threads v_law_threads, F] : List (Asn G)) := Sep.star (M := [IndexA a_v_law_index v_law_index]) hS
                      exact hx _ (hS.sel [1, 0, 2] (by decide) rfl)
def sp_law_called_A (G : Gx) : Sp := fun vs H Q E => ∃ (v_law_call : Int) (a_v_law_threads : Addr) (v_law_threads : Threads) (a_v_law_index : Addr) (v_law_index : Index) (a_v_law_name : V) (v_law_name : Any) (v_law_bad : Bool) (F : Asn G), vs = [(.int (v_law_call)), .ref a_v_law_threads, .ref a_v_law_index, a_v_law_name, (.bl (v_law_bad))] ∧ Im.im G H a_v_law_name v_law_name ∧ Sep H ([ThreadsA a_v_law_threads v_law_threads, IndexA a_v_law_index v_law_index, F] : List (Asn G)) ∧ R.wp (m_law_called_A v_law_call v_law_threads v_law_index v_law_name v_law_bad) (fun r => ∀ (p : V) H', Sep H' ([imA p (r.1 : Any), ThreadsA a_v_law_threads r.2.1, IndexA a_v_law_index r.2.2, F] : List (Asn G)) → Q p H') (fun x => ∀ H', Sep H' ([ThreadsA a_v_law_threads v_law_threads, IndexA a_v_law_index v_law_index, F] : List (Asn G)) → Eok G x E H')
abbrev N_law_called_A : List Str := ["_law_call", "_law_threads", "_law_index", "_law_name", "_law_bad"]
theorem sc_law_called_A : FnScope N_law_called_A ["_law_call", "_law_threads", "_law_index", "_law_name", "_law_bad"] (defScope s_law_called) := ⟨rfl, rfl, rfl, by decide +kernel, rfl, by decide +kernel, by decide +kernel⟩
theorem ok_law_called_A (T : Txt G mg) : FnOk P w G.K mg base (L2.CX P w) 4 T.a_law_called T.fd_law_called ["_law_call", "_law_threads", "_law_index", "_law_name", "_law_bad"] (sp_law_called_A G) := by
  have nd := sc_law_called_A.nd
  refine Fun.okX T.F_law_called sc_law_called_A (fun vs H Q E h => ?_) (fun cdv A outer s H vs Q E hr h => ?_)
  · obtain ⟨v_law_call, a_v_law_threads, v_law_threads, a_v_law_index, v_law_index, a_v_law_name, v_law_name, v_law_bad, F, rfl, _⟩ := h; rfl
  · obtain ⟨v_law_call, a_v_law_threads, v_law_threads, a_v_law_index, v_law_index, a_v_law_name, v_law_name, v_law_bad, F, rfl, him_v_law_name, hS, hm⟩ := h
    have hS := hS.addIm him_v_law_name
    refine ⟨_, (pss_cons (ps_if (PW.pt (pw_and (pt_cmpR op_eq (pv 0) pe_int (nomark _)) (pw_and1 (pt_val (pv 4))))) (pss_one (ps_ret (pe_meth (pv 1) T.cl_Threads T.m_Threads_add (ok_Threads_add T) (hr.mono (by decide)) T.b_Threads_add .nil (passes_call (takes_of rfl rfl rfl rfl) (fun _ _ _ _ h => h)) (pa_cons (pv 3) (pa_cons pe_str pa_nil))))) pss_nil)
      (pss_cons (ps_if (PW.pt (pw_and (pt_cmpR op_eq (pv 0) pe_int (nomark _)) (pw_and1 (pt_val (pv 4))))) (pss_one (ps_ret (pe_meth (pv 2) T.cl_Index T.m_Index_add (ok_Index_add T) (hr.mono (by decide)) T.b_Index_add .nil (passes_call (takes_of rfl rfl rfl rfl) (fun _ _ _ _ h => h)) (pa_cons (pv 3) (pa_cons (pe_fz (pe_lst (pa_cons pe_str pa_nil))) pa_nil))))) pss_nil)
      (pss_cons (ps_if (pt_cmpR op_eq (pv 0) pe_int (nomark _)) (pss_one (ps_ret (pe_meth (pv 1) T.cl_Threads T.m_Threads_add (ok_Threads_add T) (hr.mono (by decide)) (T.bd_Threads_add_2).2 (T.bd_Threads_add_2).1 (passes_call (takes_of rfl rfl rfl rfl) (fun _ _ _ _ h => h)) (pa_cons (pv 3) pa_nil)))) pss_nil)
      (pss_cons (ps_if (pt_cmpR op_eq (pv 0) pe_int (nomark _)) (pss_one (ps_ret (pe_meth (pv 1) T.cl_Threads T.m_Threads_take_out (ok_Threads_take_out_A T) (hr.mono (by decide)) T.b_Threads_take_out .nil (passes_call (takes_of rfl rfl rfl rfl) (fun _ _ _ _ h => h)) (pa_cons (pv 3) pa_nil)))) pss_nil)
      (pss_cons (ps_if (pt_cmpR op_eq (pv 0) pe_int (nomark _)) (pss_one (ps_ret (pe_fz (pe_meth (pv 1) T.cl_Threads T.m_Threads_thread (ok_Threads_thread_A T) (hr.mono (by decide)) T.b_Threads_thread .nil (passes_call (takes_of rfl rfl rfl rfl) (fun _ _ _ _ h => h)) (pa_cons (pv 3) pa_nil))))) pss_nil)
      (pss_cons (ps_if (pt_cmpR op_eq (pv 0) pe_int (nomark _)) (pss_one (ps_ret (pe_meth (pv 1) T.cl_Threads T.m_Threads_depth (ok_Threads_depth_A T) (hr.mono (by decide)) T.b_Threads_depth .nil (passes_call (takes_of rfl rfl rfl rfl) (fun _ _ _ _ h => h)) (pa_cons (pv 3) pa_nil)))) pss_nil)
      (pss_cons (ps_if (pt_cmpR op_eq (pv 0) pe_int (nomark _)) (pss_one (ps_ret (pe_meth (pv 2) T.cl_Index T.m_Index_add (ok_Index_add T) (hr.mono (by decide)) T.b_Index_add .nil (passes_call (takes_of rfl rfl rfl rfl) (fun _ _ _ _ h => h)) (pa_cons (pv 3) (pa_cons (pe_fz (pe_lst (pa_cons (pv 3) (pa_cons pe_str pa_nil)))) pa_nil))))) pss_nil)
      (pss_cons (ps_if (pt_cmpR op_eq (pv 0) pe_int (nomark _)) (pss_one (ps_ret (pe_meth (pv 2) T.cl_Index T.m_Index_take_out (ok_Index_take_out_A T) (hr.mono (by decide)) T.b_Index_take_out .nil (passes_call (takes_of rfl rfl rfl rfl) (fun _ _ _ _ h => h)) (pa_cons (pv 3) pa_nil)))) pss_nil)
      (pss_one (ps_ret (pe_fz (pe_meth (pv 2) T.cl_Index T.m_Index_words (ok_Index_words_A T) (hr.mono (by decide)) T.b_Index_words .nil (passes_call (takes_of rfl rfl rfl rfl) (fun _ _ _ _ h => h)) (pa_cons (pv 3) pa_nil))))))))))))), ?_⟩
    unfold m_law_called_A at hm
    refine f_seq ?_
    refine f_if ?_
    refine et_to (et_and (et_test (ev_eqI (ev_var rfl) ev_c)) fun _ => (et_B (ev_var rfl))) ?_
    refine ifK_2 (fun hb1 => ?_) (fun hb1 => ?_)
    · have hm := R.wp_ifY hm hb1
      refine c_ret ?_
      refine c_meth ?_
      refine ev_to (ev_var rfl) ?_
      obtain ⟨d2, _, _, _, _, hO3⟩ := ins_Threads hS (i := 1) rfl
      refine ⟨_, _, _, rfl, hO3, rfl, ?_⟩
      refine ea_to (ea_cons (ev_var rfl) (ea_cons ev_c ea_nil)) ?_
      obtain ⟨s4, hs5, hm⟩ := Ml.wp_asStr hm
      have hv6 := v_str (hS.im (i := 0) rfl) hs5
      subst hv6
      refine ⟨a_v_law_threads, (v_law_threads : Threads), s4, ("zother" : Str), star [imA (.str (s4)) (v_law_name : Any), IndexA a_v_law_index v_law_index, F], rfl, Sep.unstar (M := [ThreadsA a_v_law_threads v_law_threads]) (hS.sel [1, 0, 2, 3] (by decide) rfl : Sep H (([ThreadsA a_v_law_threads v_law_threads] ++ [imA (.str (s4)) (v_law_name : Any), IndexA a_v_law_index v_law_index, F] : List (Asn G)))), R.wp_mono (R.wp_bind hm) (fun r7 hm H hS => ?_) (fun x hx H hS => ?_)⟩
      ·
        have hS : Sep H ([ThreadsA a_v_law_threads r7, imA (.str (s4)) (v_law_name : Any), IndexA a_v_law_index v_law_index, F] : List (Asn G)) := Sep.star (M := [ThreadsA a_v_law_threads r7]) hS
        have hS := hS.addIm (v := .non) (x := (Any.non : Any)) (any_non.mpr rfl)
        exact hm _ _ (hS.sel [0, 1, 3, 4] (by decide) rfl)
      ·
        have hS : Sep H ([ThreadsA a_v_law_threads v_law_threads, imA (.str (s4)) (v_law_name : Any), IndexA a_v_law_index v_law_index, F] : List (Asn G)) := Sep.star (M := [ThreadsA a_v_law_threads v_law_threads]) hS
        exact hx _ (hS.sel [0, 2, 3] (by decide) rfl)
    · have hm := R.wp_ifN hm (by first | (rw [hb1]; decide) | simpa using hb1)
      refine st_nx ?_
      refine sq_nx ?_
      refine f_seq ?_
      refine f_if ?_
      refine et_to (et_and (et_test (ev_eqI (ev_var rfl) ev_c)) fun _ => (et_B (ev_var rfl))) ?_
      refine ifK_2 (fun hb9 => ?_) (fun hb9 => ?_)
      · have hm := R.wp_ifY hm hb9
        refine c_ret ?_
        refine c_meth ?_
        refine ev_to (ev_var rfl) ?_
        obtain ⟨d10, _, _, hO11⟩ := ins_Index hS (i := 2) rfl
        refine ⟨_, _, _, rfl, hO11, rfl, ?_⟩
        refine c_cons ?_
        refine ev_to (ev_var rfl) ?_
        refine c_cons ?_
        refine c_fz ?_
        refine c_lst ?_
        refine ea_to (ea_cons ev_c ea_nil) ?_
        refine k_lst (α := Str) (vs := [(.str (("zother" : Str)))]) (xs := [("zother" : Str)]) hS ⟨rfl, True.intro⟩ (by show 1 ≤ sizeLine; decide) fun p12 H hS => ?_
        refine fz_no ?_
        refine c_nil ?_
        obtain ⟨s13, hs14, hm⟩ := Ml.wp_asStr hm
        have hv15 := v_str (hS.im (i := 1) rfl) hs14
        subst hv15
        refine ⟨a_v_law_index, (v_law_index : Index), s13, p12, ([("zother" : Str)] : (List Str)), star [imA (.str (s13)) (v_law_name : Any), ThreadsA a_v_law_threads v_law_threads, F], rfl, Sep.unstar (M := [IndexA a_v_law_index v_law_index, lstA p12 ([("zother" : Str)] : (List Str))]) (hS.sel [3, 0, 1, 2, 4] (by decide) rfl : Sep H (([IndexA a_v_law_index v_law_index, lstA p12 ([("zother" : Str)] : (List Str))] ++ [imA (.str (s13)) (v_law_name : Any), ThreadsA a_v_law_threads v_law_threads, F] : List (Asn G)))), R.wp_mono (R.wp_bind hm) (fun r16 hm H hS => ?_) (fun x hx H hS => ?_)⟩
        ·
          have hS : Sep H ([IndexA a_v_law_index r16, lstA p12 ([("zother" : Str)] : (List Str)), imA (.str (s13)) (v_law_name : Any), ThreadsA a_v_law_threads v_law_threads, F] : List (Asn G)) := Sep.star (M := [IndexA a_v_law_index r16, lstA p12 ([("zother" : Str)] : (List Str))]) hS
          have hS := hS.addIm (v := .non) (x := (Any.non : Any)) (any_non.mpr rfl)
          exact hm _ _ (hS.sel [0, 4, 1, 5] (by decide) rfl)
        ·
          have hS : Sep H ([IndexA a_v_law_index v_law_index, lstA p12 ([("zother" : Str)] : (List Str)), imA (.str (s13)) (v_law_name : Any), ThreadsA a_v_law_threads v_law_threads, F] : List (Asn G)) := Sep.star (M := [IndexA a_v_law_index v_law_index, lstA p12 ([("zother" : Str)] : (List Str))]) hS
          exact hx _ (hS.sel [3, 0, 4] (by decide) rfl)
      · have hm := R.wp_ifN hm (by first | (rw [hb9]; decide) | simpa using hb9)
        refine st_nx ?_
        refine sq_nx ?_
        refine f_seq ?_
        refine f_if ?_
        refine et_to (et_test (ev_eqI (ev_var rfl) ev_c)) ?_
        refine ifK_2 (fun hb18 => ?_) (fun hb18 => ?_)
        · have hm := R.wp_ifY hm hb18
          refine c_ret ?_
          refine c_meth ?_
          refine ev_to (ev_var rfl) ?_
          obtain ⟨d19, _, _, _, _, hO20⟩ := ins_Threads hS (i := 1) rfl
          refine ⟨_, _, _, rfl, hO20, rfl, ?_⟩
          refine ea_to (ea_cons (ev_var rfl) ea_nil) ?_
          obtain ⟨s21, hs22, hm⟩ := Ml.wp_asStr hm
          have hv23 := v_str (hS.im (i := 0) rfl) hs22
          subst hv23
          refine ⟨a_v_law_threads, (v_law_threads : Threads), s21, ("" : Str), star [imA (.str (s21)) (v_law_name : Any), IndexA a_v_law_index v_law_index, F], rfl, Sep.unstar (M := [ThreadsA a_v_law_threads v_law_threads]) (hS.sel [1, 0, 2, 3] (by decide) rfl : Sep H (([ThreadsA a_v_law_threads v_law_threads] ++ [imA (.str (s21)) (v_law_name : Any), IndexA a_v_law_index v_law_index, F] : List (Asn G)))), R.wp_mono (R.wp_bind hm) (fun r24 hm H hS => ?_) (fun x hx H hS => ?_)⟩
          ·
            have hS : Sep H ([ThreadsA a_v_law_threads r24, imA (.str (s21)) (v_law_name : Any), IndexA a_v_law_index v_law_index, F] : List (Asn G)) := Sep.star (M := [ThreadsA a_v_law_threads r24]) hS
            have hS := hS.addIm (v := .non) (x := (Any.non : Any)) (any_non.mpr rfl)
            exact hm _ _ (hS.sel [0, 1, 3, 4] (by decide) rfl)
          ·
            have hS : Sep H ([ThreadsA a_v_law_threads v_law_threads, imA (.str (s21)) (v_law_name : Any), IndexA a_v_law_index v_law_index, F] : List (Asn G)) := Sep.star (M := [ThreadsA a_v_law_threads v_law_threads]) hS
            exact hx _ (hS.sel [0, 2, 3] (by decide) rfl)
        · have hm := R.wp_ifN hm (by first | (rw [hb18]; decide) | simpa using hb18)
          refine st_nx ?_
          refine sq_nx ?_
          refine f_seq ?_
          refine f_if ?_
          refine et_to (et_test (ev_eqI (ev_var rfl) ev_c)) ?_
          refine ifK_2 (fun hb26 => ?_) (fun hb26 => ?_)
          · have hm := R.wp_ifY hm hb26
            refine c_ret ?_
            refine c_meth ?_
            refine ev_to (ev_var rfl) ?_
            obtain ⟨d27, _, _, _, _, hO28⟩ := ins_Threads hS (i := 1) rfl
            refine ⟨_, _, _, rfl, hO28, rfl, ?_⟩
            refine ea_to (ea_cons (ev_var rfl) ea_nil) ?_
            refine ⟨a_v_law_threads, (v_law_threads : Threads), a_v_law_name, (v_law_name : Any), star [imA a_v_law_name (v_law_name : Any), IndexA a_v_law_index v_law_index, F], rfl, (hS.im (i := 0) rfl), Sep.unstar (M := [ThreadsA a_v_law_threads v_law_threads]) (hS.sel [1, 0, 2, 3] (by decide) rfl : Sep H (([ThreadsA a_v_law_threads v_law_threads] ++ [imA a_v_law_name (v_law_name : Any), IndexA a_v_law_index v_law_index, F] : List (Asn G)))), R.wp_mono (R.wp_bind hm) (fun r29 hm H hS => ?_) (fun x hx H hS => ?_)⟩
            ·
              have hS : Sep H ([ThreadsA a_v_law_threads r29, imA a_v_law_name (v_law_name : Any), IndexA a_v_law_index v_law_index, F] : List (Asn G)) := Sep.star (M := [ThreadsA a_v_law_threads r29]) hS
              have hS := hS.addIm (v := .non) (x := (Any.non : Any)) (any_non.mpr rfl)
              exact hm _ _ (hS.sel [0, 1, 3, 4] (by decide) rfl)
            ·
              have hS : Sep H ([ThreadsA a_v_law_threads v_law_threads, imA a_v_law_name (v_law_name : Any), IndexA a_v_law_index v_law_index, F] : List (Asn G)) := Sep.star (M := [ThreadsA a_v_law_threads v_law_threads]) hS
              exact hx _ (hS.sel [0, 2, 3] (by decide) rfl)
          · have hm := R.wp_ifN hm (by first | (rw [hb26]; decide) | simpa using hb26)
            refine st_nx ?_
            refine sq_nx ?_
            refine f_seq ?_
            refine f_if ?_
            refine et_to (et_test (ev_eqI (ev_var rfl) ev_c)) ?_
            refine ifK_2 (fun hb31 => ?_) (fun hb31 => ?_)
            · have hm := R.wp_ifY hm hb31
              refine c_ret ?_
              refine c_fz ?_
              refine c_meth ?_
              refine ev_to (ev_var rfl) ?_
              obtain ⟨d32, _, _, _, _, hO33⟩ := ins_Threads hS (i := 1) rfl
              refine ⟨_, _, _, rfl, hO33, rfl, ?_⟩
              refine ea_to (ea_cons (ev_var rfl) ea_nil) ?_
              refine ⟨a_v_law_threads, (v_law_threads : Threads), a_v_law_name, (v_law_name : Any), star [imA a_v_law_name (v_law_name : Any), IndexA a_v_law_index v_law_index, F], rfl, (hS.im (i := 0) rfl), Sep.unstar (M := [ThreadsA a_v_law_threads v_law_threads]) (hS.sel [1, 0, 2, 3] (by decide) rfl : Sep H (([ThreadsA a_v_law_threads v_law_threads] ++ [imA a_v_law_name (v_law_name : Any), IndexA a_v_law_index v_law_index, F] : List (Asn G)))), R.wp_mono (R.wp_bind hm) (fun r34 hm p35 H hS => ?_) (fun x hx H hS => ?_)⟩
              ·
                have hS : Sep H ([lstA p35 (r34 : (List Str)), ThreadsA a_v_law_threads v_law_threads, imA a_v_law_name (v_law_name : Any), IndexA a_v_law_index v_law_index, F] : List (Asn G)) := Sep.star (M := [lstA p35 (r34 : (List Str)), ThreadsA a_v_law_threads v_law_threads]) hS
                refine fz_yes (xs := (r34 : (List Str))) hS (i := 0) rfl fun H hS => ?_
                have hS : Sep H ([imA (.ref p35) (r34 : (List Str)), ThreadsA a_v_law_threads v_law_threads, imA a_v_law_name (v_law_name : Any), IndexA a_v_law_index v_law_index, F] : List (Asn G)) := hS
                have hS := hS.addIm (v := (.ref p35)) (x := ((Any.lst (r34.map Any.str)) : Any)) (any_lstS (hS.im (i := 0) rfl))
                exact hm _ _ (hS.sel [0, 2, 4, 5] (by decide) rfl)
              ·
                have hS : Sep H ([ThreadsA a_v_law_threads v_law_threads, imA a_v_law_name (v_law_name : Any), IndexA a_v_law_index v_law_index, F] : List (Asn G)) := Sep.star (M := [ThreadsA a_v_law_threads v_law_threads]) hS
                exact hx _ (hS.sel [0, 2, 3] (by decide) rfl)
            · have hm := R.wp_ifN hm (by first | (rw [hb31]; decide) | simpa using hb31)
              refine st_nx ?_
              refine sq_nx ?_
              refine f_seq ?_
              refine f_if ?_
              refine et_to (et_test (ev_eqI (ev_var rfl) ev_c)) ?_
              refine ifK_2 (fun hb38 => ?_) (fun hb38 => ?_)
              · have hm := R.wp_ifY hm hb38
                refine c_ret ?_
                refine c_meth ?_
                refine ev_to (ev_var rfl) ?_
                obtain ⟨d39, _, _, _, _, hO40⟩ := ins_Threads hS (i := 1) rfl
                refine ⟨_, _, _, rfl, hO40, rfl, ?_⟩
                refine ea_to (ea_cons (ev_var rfl) ea_nil) ?_
                refine ⟨a_v_law_threads, (v_law_threads : Threads), a_v_law_name, (v_law_name : Any), star [imA a_v_law_name (v_law_name : Any), IndexA a_v_law_index v_law_index, F], rfl, (hS.im (i := 0) rfl), Sep.unstar (M := [ThreadsA a_v_law_threads v_law_threads]) (hS.sel [1, 0, 2, 3] (by decide) rfl : Sep H (([ThreadsA a_v_law_threads v_law_threads] ++ [imA a_v_law_name (v_law_name : Any), IndexA a_v_law_index v_law_index, F] : List (Asn G)))), R.wp_mono (R.wp_bind hm) (fun r41 hm H hS => ?_) (fun x hx H hS => ?_)⟩
                ·
                  have hS : Sep H ([ThreadsA a_v_law_threads v_law_threads, imA a_v_law_name (v_law_name : Any), IndexA a_v_law_index v_law_index, F] : List (Asn G)) := Sep.star (M := [ThreadsA a_v_law_threads v_law_threads]) hS
                  have hS := hS.addIm (v := (.int (r41))) (x := ((Any.int r41) : Any)) (any_int.mpr rfl)
                  exact hm _ _ (hS.sel [0, 1, 3, 4] (by decide) rfl)
                ·
                  have hS : Sep H ([ThreadsA a_v_law_threads v_law_threads, imA a_v_law_name (v_law_name : Any), IndexA a_v_law_index v_law_index, F] : List (Asn G)) := Sep.star (M := [ThreadsA a_v_law_threads v_law_threads]) hS
                  exact hx _ (hS.sel [0, 2, 3] (by decide) rfl)
              · have hm := R.wp_ifN hm (by first | (rw [hb38]; decide) | simpa using hb38)
                refine st_nx ?_
                refine sq_nx ?_
                refine f_seq ?_
                refine f_if ?_
                refine et_to (et_test (ev_eqI (ev_var rfl) ev_c)) ?_
                refine ifK_2 (fun hb43 => ?_) (fun hb43 => ?_)
                · have hm := R.wp_ifY hm hb43
                  refine c_ret ?_
                  refine c_meth ?_
                  refine ev_to (ev_var rfl) ?_
                  obtain ⟨d44, _, _, hO45⟩ := ins_Index hS (i := 2) rfl
                  refine ⟨_, _, _, rfl, hO45, rfl, ?_⟩
                  refine c_cons ?_
                  refine ev_to (ev_var rfl) ?_
                  refine c_cons ?_
                  refine c_fz ?_
                  refine c_lst ?_
                  refine ea_to (ea_cons (ev_var rfl) (ea_cons ev_c ea_nil)) ?_
                  obtain ⟨s47, hs48, hm⟩ := Ml.wp_asStr hm
                  have hv49 := v_str (hS.im (i := 0) rfl) hs48
                  subst hv49
                  refine k_lst (α := Str) (vs := [(.str (s47)), (.str (("rent" : Str)))]) (xs := [s47, ("rent" : Str)]) hS ⟨rfl, ⟨rfl, True.intro⟩⟩ (by show 2 ≤ sizeLine; decide) fun p46 H hS => ?_
                  refine fz_no ?_
                  refine c_nil ?_
                  obtain ⟨s50, hs51, hm⟩ := Ml.wp_asStr hm
                  have hv52 := v_str (hS.im (i := 1) rfl) hs51
                  injection hv52 with hv52; subst hv52
                  refine ⟨a_v_law_index, (v_law_index : Index), s47, p46, ([s47, ("rent" : Str)] : (List Str)), star [imA (.str (s47)) (v_law_name : Any), ThreadsA a_v_law_threads v_law_threads, F], rfl, Sep.unstar (M := [IndexA a_v_law_index v_law_index, lstA p46 ([s47, ("rent" : Str)] : (List Str))]) (hS.sel [3, 0, 1, 2, 4] (by decide) rfl : Sep H (([IndexA a_v_law_index v_law_index, lstA p46 ([s47, ("rent" : Str)] : (List Str))] ++ [imA (.str (s47)) (v_law_name : Any), ThreadsA a_v_law_threads v_law_threads, F] : List (Asn G)))), R.wp_mono (R.wp_bind hm) (fun r53 hm H hS => ?_) (fun x hx H hS => ?_)⟩
                  ·
                    have hS : Sep H ([IndexA a_v_law_index r53, lstA p46 ([s47, ("rent" : Str)] : (List Str)), imA (.str (s47)) (v_law_name : Any), ThreadsA a_v_law_threads v_law_threads, F] : List (Asn G)) := Sep.star (M := [IndexA a_v_law_index r53, lstA p46 ([s47, ("rent" : Str)] : (List Str))]) hS
                    have hS := hS.addIm (v := .non) (x := (Any.non : Any)) (any_non.mpr rfl)
                    exact hm _ _ (hS.sel [0, 4, 1, 5] (by decide) rfl)
                  ·
                    have hS : Sep H ([IndexA a_v_law_index v_law_index, lstA p46 ([s47, ("rent" : Str)] : (List Str)), imA (.str (s47)) (v_law_name : Any), ThreadsA a_v_law_threads v_law_threads, F] : List (Asn G)) := Sep.star (M := [IndexA a_v_law_index v_law_index, lstA p46 ([s47, ("rent" : Str)] : (List Str))]) hS
                    exact hx _ (hS.sel [3, 0, 4] (by decide) rfl)
                · have hm := R.wp_ifN hm (by first | (rw [hb43]; decide) | simpa using hb43)
                  refine st_nx ?_
                  refine sq_nx ?_
                  refine f_seq ?_
                  refine f_if ?_
                  refine et_to (et_test (ev_eqI (ev_var rfl) ev_c)) ?_
                  refine ifK_2 (fun hb55 => ?_) (fun hb55 => ?_)
                  · have hm := R.wp_ifY hm hb55
                    refine c_ret ?_
                    refine c_meth ?_
                    refine ev_to (ev_var rfl) ?_
                    obtain ⟨d56, _, _, hO57⟩ := ins_Index hS (i := 2) rfl
                    refine ⟨_, _, _, rfl, hO57, rfl, ?_⟩
                    refine ea_to (ea_cons (ev_var rfl) ea_nil) ?_
                    refine ⟨a_v_law_index, (v_law_index : Index), a_v_law_name, (v_law_name : Any), star [imA a_v_law_name (v_law_name : Any), ThreadsA a_v_law_threads v_law_threads, F], rfl, (hS.im (i := 0) rfl), Sep.unstar (M := [IndexA a_v_law_index v_law_index]) (hS.sel [2, 0, 1, 3] (by decide) rfl : Sep H (([IndexA a_v_law_index v_law_index] ++ [imA a_v_law_name (v_law_name : Any), ThreadsA a_v_law_threads v_law_threads, F] : List (Asn G)))), R.wp_mono (R.wp_bind hm) (fun r58 hm H hS => ?_) (fun x hx H hS => ?_)⟩
                    ·
                      have hS : Sep H ([IndexA a_v_law_index r58, imA a_v_law_name (v_law_name : Any), ThreadsA a_v_law_threads v_law_threads, F] : List (Asn G)) := Sep.star (M := [IndexA a_v_law_index r58]) hS
                      have hS := hS.addIm (v := .non) (x := (Any.non : Any)) (any_non.mpr rfl)
                      exact hm _ _ (hS.sel [0, 3, 1, 4] (by decide) rfl)
                    ·
                      have hS : Sep H ([IndexA a_v_law_index v_law_index, imA a_v_law_name (v_law_name : Any), ThreadsA a_v_law_threads v_law_threads, F] : List (Asn G)) := Sep.star (M := [IndexA a_v_law_index v_law_index]) hS
                      exact hx _ (hS.sel [2, 0, 3] (by decide) rfl)
                  · have hm := R.wp_ifN hm (by first | (rw [hb55]; decide) | simpa using hb55)
                    refine st_nx ?_
                    refine sq_nx ?_
                    refine c_ret ?_
                    refine c_fz ?_
                    refine c_meth ?_
                    refine ev_to (ev_var rfl) ?_
                    obtain ⟨d60, _, _, hO61⟩ := ins_Index hS (i := 2) rfl
                    refine ⟨_, _, _, rfl, hO61, rfl, ?_⟩
                    refine ea_to (ea_cons (ev_var rfl) ea_nil) ?_
                    refine ⟨a_v_law_index, (v_law_index : Index), a_v_law_name, (v_law_name : Any), star [imA a_v_law_name (v_law_name : Any), ThreadsA a_v_law_threads v_law_threads, F], rfl, (hS.im (i := 0) rfl), Sep.unstar (M := [IndexA a_v_law_index v_law_index]) (hS.sel [2, 0, 1, 3] (by decide) rfl : Sep H (([IndexA a_v_law_index v_law_index] ++ [imA a_v_law_name (v_law_name : Any), ThreadsA a_v_law_threads v_law_threads, F] : List (Asn G)))), R.wp_mono (R.wp_bind hm) (fun r62 hm p63 H hS => ?_) (fun x hx H hS => ?_)⟩
                    ·
                      have hS : Sep H ([lstA p63 (r62 : (List Str)), IndexA a_v_law_index v_law_index, imA a_v_law_name (v_law_name : Any), ThreadsA a_v_law_threads v_law_threads, F] : List (Asn G)) := Sep.star (M := [lstA p63 (r62 : (List Str)), IndexA a_v_law_index v_law_index]) hS
                      refine fz_yes (xs := (r62 : (List Str))) hS (i := 0) rfl fun H hS => ?_
                      have hS : Sep H ([imA (.ref p63) (r62 : (List Str)), IndexA a_v_law_index v_law_index, imA a_v_law_name (v_law_name : Any), ThreadsA a_v_law_threads v_law_threads, F] : List (Asn G)) := hS
                      have hS := hS.addIm (v := (.ref p63)) (x := ((Any.lst (r62.map Any.str)) : Any)) (any_lstS (hS.im (i := 0) rfl))
                      exact hm _ _ (hS.sel [0, 4, 2, 5] (by decide) rfl)
                    ·
                      have hS : Sep H ([IndexA a_v_law_index v_law_index, imA a_v_law_name (v_law_name : Any), ThreadsA a_v_law_threads v_law_threads, F] : List (Asn G)) := Sep.star (M := [IndexA a_v_law_index v_law_index]) hS
                      exact hx _ (hS.sel [2, 0, 3] (by decide) rfl)
def sp_law_refused (G : Gx) : Sp := fun vs H Q E => ∃ (v_law_call : Int) (a_v_law_threads : Addr) (v_law_threads : Threads) (a_v_law_index : Addr) (v_law_index : Index) (v_law_name : Str) (F : Asn G), vs = [(.int (v_law_call)), .ref a_v_law_threads, .ref a_v_law_index, (.str (v_law_name))] ∧ Sep H ([ThreadsA a_v_law_threads v_law_threads, IndexA a_v_law_index v_law_index, F] : List (Asn G)) ∧ R.wp (m_law_refused v_law_call v_law_threads v_law_index v_law_name) (fun r => ∀ H', Sep H' ([ThreadsA a_v_law_threads r.2.1, IndexA a_v_law_index r.2.2, F] : List (Asn G)) → Q (.bl (r.1)) H') (fun _ => False)
abbrev N_law_refused : List Str := ["_law_call", "_law_threads", "_law_index", "_law_name", "e", "_law_others"]
theorem sc_law_refused : FnScope N_law_refused ["_law_call", "_law_threads", "_law_index", "_law_name"] (defScope s_law_refused) := ⟨rfl, rfl, rfl, by decide +kernel, rfl, by decide +kernel, by decide +kernel⟩
theorem ok_law_refused (T : Txt G mg) : FnOk P w G.K mg base CX0 5 T.a_law_refused T.fd_law_refused ["_law_call", "_law_threads", "_law_index", "_law_name"] (sp_law_refused G) := by
  have nd := sc_law_refused.nd
  refine Fun.ok T.F_law_refused sc_law_refused (fun vs H Q E h => ?_) (fun cdv A outer s H vs Q E hr h => ?_)
  · obtain ⟨v_law_call, a_v_law_threads, v_law_threads, a_v_law_index, v_law_index, v_law_name, F, rfl, _⟩ := h; rfl
  · obtain ⟨v_law_call, a_v_law_threads, v_law_threads, a_v_law_index, v_law_index, v_law_name, F, rfl, hS, hm⟩ := h
    refine ⟨_, (pss_cons (ps_try_as (i := 4) rfl rfl nd rfl rfl ⟨rfl, by decide, .inl T.g_MailError⟩ takes0 (fun W pn xe tk po => (pss_one (ps_expr (pe_callSD (ok_law_called T) (hr.mono (by decide)) rfl T.g_law_called T.kp_law_called T.b_law_called .nil (fun σ => passAt tk σ) (pa_cons (pv 0) (pa_cons (pv 1) (pa_cons (pv 2) (pa_cons (pv 3) (pa_cons pe_bl pa_nil))))))))) (fun a oe cls d pn hz hf => (pss_cons (ps_set (i := 5) nd rfl (Or.inl rfl) (pe_fz (pe_lst (pa_cons (pe_callB (call_isEd G.K List.mem_cons_self hz hf) (by rfl) T.z_isinstance (by decide +kernel) (pa_cons (pv 4) (pa_cons (pe_glob (v := .ref (G.cl 1)) rfl T.g_NoWord rfl) pa_nil))) (pa_cons (pe_callB (call_isEd G.K List.mem_cons_self hz hf) (by rfl) T.z_isinstance (by decide +kernel) (pa_cons (pv 4) (pa_cons (pe_glob (v := .ref (G.cl 2)) rfl T.g_NoLetter rfl) pa_nil))) (pa_cons (pe_callB (call_isEd G.K List.mem_cons_self hz hf) (by rfl) T.z_isinstance (by decide +kernel) (pa_cons (pv 4) (pa_cons (pe_glob (v := .ref (G.cl 3)) rfl T.g_NoRule rfl) pa_nil))) pa_nil))))))
      (pss_cons (ps_set (i := 5) nd rfl (Or.inl rfl) (pe_fz (pe_op op_catR (pe_fz (pv 5)) (pe_fz (pe_lst (pa_cons (pe_callB (call_isEd G.K List.mem_cons_self hz hf) (by rfl) T.z_isinstance (by decide +kernel) (pa_cons (pv 4) (pa_cons (pe_glob (v := .ref (G.cl 5)) rfl T.g_NoParcel rfl) pa_nil))) (pa_cons (pe_callB (call_isEd G.K List.mem_cons_self hz hf) (by rfl) T.z_isinstance (by decide +kernel) (pa_cons (pv 4) (pa_cons (pe_glob (v := .ref (G.cl 6)) rfl T.g_NoRow rfl) pa_nil))) pa_nil)))))))
      (pss_one (ps_ret (pe_and (pe_callB (call_isEd G.K List.mem_cons_self hz hf) (by rfl) T.z_isinstance (by decide +kernel) (pa_cons (pv 4) (pa_cons (pe_glob (v := .ref (G.cl 4)) rfl T.g_NoName rfl) pa_nil))) (pe_and (pe_callB (call_isEd G.K List.mem_cons_self hz hf) (by rfl) T.z_isinstance (by decide +kernel) (pa_cons (pv 4) (pa_cons (pe_bltn (v := .ty "ValueError") (by rfl) T.z_ValueError (by decide +kernel) rfl) pa_nil))) (pe_one (pe_cmpR op_eq (pe_bmK G.K PySem.F.plainAttrs_list PySem.F.slot_list_count PySem.F.type_list_count (mt_countK G.K (huH (hotRoom hr (Nat.le_refl _)))) (pe_fz (pv 5)) (pa_cons pe_bl pa_nil)) pe_int (nomark _)))))))))))
      (pss_one (ps_ret pe_bl))), ?_⟩
    unfold m_law_refused at hm
    refine f_seq ?_
    refine c_drop ?_
    refine c_callSD ?_
    refine ea_to (ea_cons (ev_var rfl) (ea_cons (ev_var rfl) (ea_cons (ev_var rfl) (ea_cons (ev_var rfl) (ea_cons ev_c ea_nil))))) ?_
    refine ⟨v_law_call, a_v_law_threads, (v_law_threads : Threads), a_v_law_index, (v_law_index : Index), v_law_name, true, star [F], rfl, Sep.unstar (M := [ThreadsA a_v_law_threads v_law_threads, IndexA a_v_law_index v_law_index]) (hS.sel [0, 1, 2] (by decide) rfl : Sep H (([ThreadsA a_v_law_threads v_law_threads, IndexA a_v_law_index v_law_index] ++ [F] : List (Asn G)))), R.wp_mono (R.wp_tryC hm) (fun r1 hm p2 H hS => ?_) (fun x hx H hS => ?_)⟩
    ·
      have hS : Sep H ([imA p2 (r1.1 : Any), ThreadsA a_v_law_threads r1.2.1, IndexA a_v_law_index r1.2.2, F] : List (Asn G)) := Sep.star (M := [imA p2 (r1.1 : Any), ThreadsA a_v_law_threads r1.2.1, IndexA a_v_law_index r1.2.2]) hS
      refine sq_nx ?_
      refine c_ret ?_
      refine ev_to ev_c ?_
      exact hm _ (hS.sel [1, 2, 3] (by decide) rfl)
    ·
      have hS : Sep H ([ThreadsA a_v_law_threads v_law_threads, IndexA a_v_law_index v_law_index, F] : List (Asn G)) := Sep.star (M := [ThreadsA a_v_law_threads v_law_threads, IndexA a_v_law_index v_law_index]) hS
      refine w_asE (fun z => T.ex_MailError z) hx (fun hcx hm ea na => ?_) (fun hm => ?_)
      ·
        refine f_seq ?_
        refine c_asg ?_
        refine c_fz ?_
        refine c_lst ?_
        refine ea_to (ea_cons (ev_isXd (ev_var rfl) ev_c (.own _) (T.ec_ hcx) (T.ki_NoWord hcx)) (ea_cons (ev_isXd (ev_var rfl) ev_c (.own _) (T.ec_ hcx) (T.ki_NoLetter hcx)) (ea_cons (ev_isXd (ev_var rfl) ev_c (.own _) (T.ec_ hcx) (T.ki_NoRule hcx)) ea_nil))) ?_
        refine k_lst (α := Bool) (vs := [(.bl (([1] : List Nat).contains x.cls)), (.bl (([2] : List Nat).contains x.cls)), (.bl (([3] : List Nat).contains x.cls))]) (xs := [([1] : List Nat).contains x.cls, ([2] : List Nat).contains x.cls, ([3] : List Nat).contains x.cls]) hS ⟨rfl, ⟨rfl, ⟨rfl, True.intro⟩⟩⟩ (by show 3 ≤ sizeLine; decide) fun p4 H hS => ?_
        refine fz_no ?_
        obtain ⟨y5, hy5, hm⟩ := wp_let hm
        have hS : Sep H ([lstA p4 (y5 : (List Bool)), ThreadsA a_v_law_threads v_law_threads, IndexA a_v_law_index v_law_index, F] : List (Asn G)) := by rw [← hy5]; exact hS
        refine c_set (σ' := [some (.int (v_law_call)), some (.ref a_v_law_threads), some (.ref a_v_law_index), some (.str (v_law_name)), some (.ref ea), some (.ref p4)]) rfl ?_
        refine sq_nx ?_
        refine f_seq ?_
        refine c_asg ?_
        refine c_fz ?_
        refine c_op ?_
        refine ev_to (ev_fz (ev_var rfl)) ?_
        refine c_fz ?_
        refine c_lst ?_
        refine ea_to (ea_cons (ev_isXd (ev_var rfl) ev_c (.own _) (T.ec_ hcx) (T.ki_NoParcel hcx)) (ea_cons (ev_isXd (ev_var rfl) ev_c (.own _) (T.ec_ hcx) (T.ki_NoRow hcx)) ea_nil)) ?_
        refine k_lst (α := Bool) (vs := [(.bl (([5] : List Nat).contains x.cls)), (.bl (([6] : List Nat).contains x.cls))]) (xs := [([5] : List Nat).contains x.cls, ([6] : List Nat).contains x.cls]) hS ⟨rfl, ⟨rfl, True.intro⟩⟩ (by show 2 ≤ sizeLine; decide) fun p6 H hS => ?_
        refine fz_no ?_
        obtain ⟨h7, hm⟩ := R.wp_need hm
        refine k_catG hS (hS.rdL (i := 1) rfl) (hS.rdL (i := 0) rfl) h7 fun p8 H hS => ?_
        refine fz_no ?_
        obtain ⟨y9, hy9, hm⟩ := wp_let hm
        have hS : Sep H ([lstA p8 (y9 : (List Bool)), lstA p6 ([([5] : List Nat).contains x.cls, ([6] : List Nat).contains x.cls] : (List Bool)), lstA p4 (y5 : (List Bool)), ThreadsA a_v_law_threads v_law_threads, IndexA a_v_law_index v_law_index, F] : List (Asn G)) := by rw [← hy9]; exact hS
        refine c_set (σ' := [some (.int (v_law_call)), some (.ref a_v_law_threads), some (.ref a_v_law_index), some (.str (v_law_name)), some (.ref ea), some (.ref p8)]) rfl ?_
        refine sq_nx ?_
        refine c_ret ?_
        refine f_andV ?_
        refine ev_to (ev_isXd (ev_var rfl) ev_c (.own _) (T.ec_ hcx) (T.ki_NoName hcx)) ?_
        refine andVK_J hm hS (fun hb q hm nx => ?_) (fun b10 H hm hS => ?_)
        ·
          refine f_andV ?_
          refine ev_to (ev_isXd (ev_var rfl) ev_c (.ty _) (T.ec_ hcx) (T.ki_ValueError hcx)) ?_
          refine andVK_J hm hS (fun hb q hm nx => ?_) (fun b11 H hm hS => ?_)
          ·
            refine c_op ?_
            refine c_bm ?_
            refine ev_to (ev_fz (ev_var rfl)) ⟨tyL hS (i := 0) rfl, ?_⟩
            refine ea_to (ea_cons ev_c ea_nil) ?_
            obtain ⟨h12, hm⟩ := R.wp_need hm
            obtain ⟨h13, hm⟩ := R.wp_need hm
            refine k_count (xs := (y9 : (List Bool))) (x := true) (dpOwn hS (i := 0) rfl) (.bl _) h12 h13 (Nat.le_of_ble_eq_true rfl) (Nat.le_of_ble_eq_true rfl) ?_
            refine ev_to ev_c ?_
            refine ev_op2 (ev_eqI ev_c ev_c) ?_
            exact nx _ _ hm (hS.sel [0, 1, 2, 3, 4, 5] (by decide) rfl)
          ·
            exact nx _ _ hm (hS.sel [0, 1, 2, 3, 4, 5] (by decide) rfl)
        ·
          exact hm _ (hS.sel [3, 4, 5] (by decide) rfl)
      ·
        exact hm.elim
def sp_law_refused_A (G : Gx) : Sp := fun vs H Q E => ∃ (v_law_call : Int) (a_v_law_threads : Addr) (v_law_threads : Threads) (a_v_law_index : Addr) (v_law_index : Index) (a_v_law_name : V) (v_law_name : Any) (F : Asn G), vs = [(.int (v_law_call)), .ref a_v_law_threads, .ref a_v_law_index, a_v_law_name] ∧ Im.im G H a_v_law_name v_law_name ∧ Sep H ([ThreadsA a_v_law_threads v_law_threads, IndexA a_v_law_index v_law_index, F] : List (Asn G)) ∧ R.wp (m_law_refused_A v_law_call v_law_threads v_law_index v_law_name) (fun r => ∀ H', Sep H' ([ThreadsA a_v_law_threads r.2.1, IndexA a_v_law_index r.2.2, F] : List (Asn G)) → Q (.bl (r.1)) H') (fun _ => False)
abbrev N_law_refused_A : List Str := ["_law_call", "_law_threads", "_law_index", "_law_name", "e", "_law_others"]
theorem sc_law_refused_A : FnScope N_law_refused_A ["_law_call", "_law_threads", "_law_index", "_law_name"] (defScope s_law_refused) := ⟨rfl, rfl, rfl, by decide +kernel, rfl, by decide +kernel, by decide +kernel⟩
theorem ok_law_refused_A (T : Txt G mg) : FnOk P w G.K mg base CX0 5 T.a_law_refused T.fd_law_refused ["_law_call", "_law_threads", "_law_index", "_law_name"] (sp_law_refused_A G) := by
  have nd := sc_law_refused_A.nd
  refine Fun.ok T.F_law_refused sc_law_refused_A (fun vs H Q E h => ?_) (fun cdv A outer s H vs Q E hr h => ?_)
  · obtain ⟨v_law_call, a_v_law_threads, v_law_threads, a_v_law_index, v_law_index, a_v_law_name, v_law_name, F, rfl, _⟩ := h; rfl
  · obtain ⟨v_law_call, a_v_law_threads, v_law_threads, a_v_law_index, v_law_index, a_v_law_name, v_law_name, F, rfl, him_v_law_name, hS, hm⟩ := h
    have hS := hS.addIm him_v_law_name
    refine ⟨_, (pss_cons (ps_try_as (i := 4) rfl rfl nd rfl rfl ⟨rfl, by decide, .inl T.g_MailError⟩ takes0 (fun W pn xe tk po => (pss_one (ps_expr (pe_callSD (ok_law_called_A T) (hr.mono (by decide)) rfl T.g_law_called T.kp_law_called T.b_law_called .nil (fun σ => passAt tk σ) (pa_cons (pv 0) (pa_cons (pv 1) (pa_cons (pv 2) (pa_cons (pv 3) (pa_cons pe_bl pa_nil))))))))) (fun a oe cls d pn hz hf => (pss_cons (ps_set (i := 5) nd rfl (Or.inl rfl) (pe_fz (pe_lst (pa_cons (pe_callB (call_isEd G.K List.mem_cons_self hz hf) (by rfl) T.z_isinstance (by decide +kernel) (pa_cons (pv 4) (pa_cons (pe_glob (v := .ref (G.cl 1)) rfl T.g_NoWord rfl) pa_nil))) (pa_cons (pe_callB (call_isEd G.K List.mem_cons_self hz hf) (by rfl) T.z_isinstance (by decide +kernel) (pa_cons (pv 4) (pa_cons (pe_glob (v := .ref (G.cl 2)) rfl T.g_NoLetter rfl) pa_nil))) (pa_cons (pe_callB (call_isEd G.K List.mem_cons_self hz hf) (by rfl) T.z_isinstance (by decide +kernel) (pa_cons (pv 4) (pa_cons (pe_glob (v := .ref (G.cl 3)) rfl T.g_NoRule rfl) pa_nil))) pa_nil))))))
      (pss_cons (ps_set (i := 5) nd rfl (Or.inl rfl) (pe_fz (pe_op op_catR (pe_fz (pv 5)) (pe_fz (pe_lst (pa_cons (pe_callB (call_isEd G.K List.mem_cons_self hz hf) (by rfl) T.z_isinstance (by decide +kernel) (pa_cons (pv 4) (pa_cons (pe_glob (v := .ref (G.cl 5)) rfl T.g_NoParcel rfl) pa_nil))) (pa_cons (pe_callB (call_isEd G.K List.mem_cons_self hz hf) (by rfl) T.z_isinstance (by decide +kernel) (pa_cons (pv 4) (pa_cons (pe_glob (v := .ref (G.cl 6)) rfl T.g_NoRow rfl) pa_nil))) pa_nil)))))))
      (pss_one (ps_ret (pe_and (pe_callB (call_isEd G.K List.mem_cons_self hz hf) (by rfl) T.z_isinstance (by decide +kernel) (pa_cons (pv 4) (pa_cons (pe_glob (v := .ref (G.cl 4)) rfl T.g_NoName rfl) pa_nil))) (pe_and (pe_callB (call_isEd G.K List.mem_cons_self hz hf) (by rfl) T.z_isinstance (by decide +kernel) (pa_cons (pv 4) (pa_cons (pe_bltn (v := .ty "ValueError") (by rfl) T.z_ValueError (by decide +kernel) rfl) pa_nil))) (pe_one (pe_cmpR op_eq (pe_bmK G.K PySem.F.plainAttrs_list PySem.F.slot_list_count PySem.F.type_list_count (mt_countK G.K (huH (hotRoom hr (Nat.le_refl _)))) (pe_fz (pv 5)) (pa_cons pe_bl pa_nil)) pe_int (nomark _)))))))))))
      (pss_one (ps_ret pe_bl))), ?_⟩
    unfold m_law_refused_A at hm
    refine f_seq ?_
    refine c_drop ?_
    refine c_callSD ?_
    refine ea_to (ea_cons (ev_var rfl) (ea_cons (ev_var rfl) (ea_cons (ev_var rfl) (ea_cons (ev_var rfl) (ea_cons ev_c ea_nil))))) ?_
    refine ⟨v_law_call, a_v_law_threads, (v_law_threads : Threads), a_v_law_index, (v_law_index : Index), a_v_law_name, (v_law_name : Any), true, star [imA a_v_law_name (v_law_name : Any), F], rfl, (hS.im (i := 0) rfl), Sep.unstar (M := [ThreadsA a_v_law_threads v_law_threads, IndexA a_v_law_index v_law_index]) (hS.sel [1, 2, 0, 3] (by decide) rfl : Sep H (([ThreadsA a_v_law_threads v_law_threads, IndexA a_v_law_index v_law_index] ++ [imA a_v_law_name (v_law_name : Any), F] : List (Asn G)))), R.wp_mono (R.wp_tryC hm) (fun r1 hm p2 H hS => ?_) (fun x hx H hS => ?_)⟩
    ·
      have hS : Sep H ([imA p2 (r1.1 : Any), ThreadsA a_v_law_threads r1.2.1, IndexA a_v_law_index r1.2.2, imA a_v_law_name (v_law_name : Any), F] : List (Asn G)) := Sep.star (M := [imA p2 (r1.1 : Any), ThreadsA a_v_law_threads r1.2.1, IndexA a_v_law_index r1.2.2]) hS
      refine sq_nx ?_
      refine c_ret ?_
      refine ev_to ev_c ?_
      exact hm _ (hS.sel [1, 2, 4] (by decide) rfl)
    ·
      have hS : Sep H ([ThreadsA a_v_law_threads v_law_threads, IndexA a_v_law_index v_law_index, imA a_v_law_name (v_law_name : Any), F] : List (Asn G)) := Sep.star (M := [ThreadsA a_v_law_threads v_law_threads, IndexA a_v_law_index v_law_index]) hS
      refine w_asE (fun z => T.ex_MailError z) hx (fun hcx hm ea na => ?_) (fun hm => ?_)
      ·
        refine f_seq ?_
        refine c_asg ?_
        refine c_fz ?_
        refine c_lst ?_
        refine ea_to (ea_cons (ev_isXd (ev_var rfl) ev_c (.own _) (T.ec_ hcx) (T.ki_NoWord hcx)) (ea_cons (ev_isXd (ev_var rfl) ev_c (.own _) (T.ec_ hcx) (T.ki_NoLetter hcx)) (ea_cons (ev_isXd (ev_var rfl) ev_c (.own _) (T.ec_ hcx) (T.ki_NoRule hcx)) ea_nil))) ?_
        refine k_lst (α := Bool) (vs := [(.bl (([1] : List Nat).contains x.cls)), (.bl (([2] : List Nat).contains x.cls)), (.bl (([3] : List Nat).contains x.cls))]) (xs := [([1] : List Nat).contains x.cls, ([2] : List Nat).contains x.cls, ([3] : List Nat).contains x.cls]) hS ⟨rfl, ⟨rfl, ⟨rfl, True.intro⟩⟩⟩ (by show 3 ≤ sizeLine; decide) fun p4 H hS => ?_
        refine fz_no ?_
        obtain ⟨y5, hy5, hm⟩ := wp_let hm
        have hS : Sep H ([lstA p4 (y5 : (List Bool)), ThreadsA a_v_law_threads v_law_threads, IndexA a_v_law_index v_law_index, imA a_v_law_name (v_law_name : Any), F] : List (Asn G)) := by rw [← hy5]; exact hS
        refine c_set (σ' := [some (.int (v_law_call)), some (.ref a_v_law_threads), some (.ref a_v_law_index), some a_v_law_name, some (.ref ea), some (.ref p4)]) rfl ?_
        refine sq_nx ?_
        refine f_seq ?_
        refine c_asg ?_
        refine c_fz ?_
        refine c_op ?_
        refine ev_to (ev_fz (ev_var rfl)) ?_
        refine c_fz ?_
        refine c_lst ?_
        refine ea_to (ea_cons (ev_isXd (ev_var rfl) ev_c (.own _) (T.ec_ hcx) (T.ki_NoParcel hcx)) (ea_cons (ev_isXd (ev_var rfl) ev_c (.own _) (T.ec_ hcx) (T.ki_NoRow hcx)) ea_nil)) ?_
        refine k_lst (α := Bool) (vs := [(.bl (([5] : List Nat).contains x.cls)), (.bl (([6] : List Nat).contains x.cls))]) (xs := [([5] : List Nat).contains x.cls, ([6] : List Nat).contains x.cls]) hS ⟨rfl, ⟨rfl, True.intro⟩⟩ (by show 2 ≤ sizeLine; decide) fun p6 H hS => ?_
        refine fz_no ?_
        obtain ⟨h7, hm⟩ := R.wp_need hm
        refine k_catG hS (hS.rdL (i := 1) rfl) (hS.rdL (i := 0) rfl) h7 fun p8 H hS => ?_
        refine fz_no ?_
        obtain ⟨y9, hy9, hm⟩ := wp_let hm
        have hS : Sep H ([lstA p8 (y9 : (List Bool)), lstA p6 ([([5] : List Nat).contains x.cls, ([6] : List Nat).contains x.cls] : (List Bool)), lstA p4 (y5 : (List Bool)), ThreadsA a_v_law_threads v_law_threads, IndexA a_v_law_index v_law_index, imA a_v_law_name (v_law_name : Any), F] : List (Asn G)) := by rw [← hy9]; exact hS
        refine c_set (σ' := [some (.int (v_law_call)), some (.ref a_v_law_threads), some (.ref a_v_law_index), some a_v_law_name, some (.ref ea), some (.ref p8)]) rfl ?_
        refine sq_nx ?_
        refine c_ret ?_
        refine f_andV ?_
        refine ev_to (ev_isXd (ev_var rfl) ev_c (.own _) (T.ec_ hcx) (T.ki_NoName hcx)) ?_
        refine andVK_J hm hS (fun hb q hm nx => ?_) (fun b10 H hm hS => ?_)
        ·
          refine f_andV ?_
          refine ev_to (ev_isXd (ev_var rfl) ev_c (.ty _) (T.ec_ hcx) (T.ki_ValueError hcx)) ?_
          refine andVK_J hm hS (fun hb q hm nx => ?_) (fun b11 H hm hS => ?_)
          ·
            refine c_op ?_
            refine c_bm ?_
            refine ev_to (ev_fz (ev_var rfl)) ⟨tyL hS (i := 0) rfl, ?_⟩
            refine ea_to (ea_cons ev_c ea_nil) ?_
            obtain ⟨h12, hm⟩ := R.wp_need hm
            obtain ⟨h13, hm⟩ := R.wp_need hm
            refine k_count (xs := (y9 : (List Bool))) (x := true) (dpOwn hS (i := 0) rfl) (.bl _) h12 h13 (Nat.le_of_ble_eq_true rfl) (Nat.le_of_ble_eq_true rfl) ?_
            refine ev_to ev_c ?_
            refine ev_op2 (ev_eqI ev_c ev_c) ?_
            exact nx _ _ hm (hS.sel [0, 1, 2, 3, 4, 5, 6] (by decide) rfl)
          ·
            exact nx _ _ hm (hS.sel [0, 1, 2, 3, 4, 5, 6] (by decide) rfl)
        ·
          exact hm _ (hS.sel [3, 4, 6] (by decide) rfl)
      ·
        exact hm.elim
def sp_law_due (G : Gx) : Sp := fun vs H Q E => ∃ (v_law_call : Int) (v_law_name : Str) (F : Asn G), vs = [(.int (v_law_call)), (.str (v_law_name))] ∧ Sep H ([F] : List (Asn G)) ∧ R.wp (m_law_due v_law_call v_law_name) (fun r => ∀ (p : V) H', Sep H' ([imA p (r : Any), F] : List (Asn G)) → Q p H') (fun _ => False)
abbrev N_law_due : List Str := ["_law_call", "_law_name"]
theorem sc_law_due : FnScope N_law_due ["_law_call", "_law_name"] (defScope s_law_due) := ⟨rfl, rfl, rfl, by decide +kernel, rfl, by decide +kernel, by decide +kernel⟩
theorem ok_law_due (T : Txt G mg) : FnOk P w G.K mg base CX0 1 T.a_law_due T.fd_law_due ["_law_call", "_law_name"] (sp_law_due G) := by
  have nd := sc_law_due.nd
  refine Fun.ok T.F_law_due sc_law_due (fun vs H Q E h => ?_) (fun cdv A outer s H vs Q E hr h => ?_)
  · obtain ⟨v_law_call, v_law_name, F, rfl, _⟩ := h; rfl
  · obtain ⟨v_law_call, v_law_name, F, rfl, hS, hm⟩ := h
    refine ⟨_, (pss_cons (ps_if (pt_cmpR (inSqK G.K) (pv 0) (pe_fz (pe_lst (pa_cons pe_int (pa_cons pe_int (pa_cons pe_int (pa_cons pe_int pa_nil)))))) (by rfl)) (pss_one (ps_ret pe_non)) pss_nil)
      (pss_cons (ps_if (pt_cmpR op_eq (pv 0) pe_int (nomark _)) (pss_one (ps_ret (pe_fz (pe_lst (pa_cons (pv 1) pa_nil))))) pss_nil)
      (pss_cons (ps_if (pt_cmpR op_eq (pv 0) pe_int (nomark _)) (pss_one (ps_ret pe_int)) pss_nil)
      (pss_one (ps_ret (pe_fz (pe_callB (sortedSK G.K) (by rfl) T.z_sorted (by decide +kernel) (pa_cons (pe_fz (pe_op op_catR (pe_fz (pe_lst (pa_cons (pv 1) pa_nil))) (pe_fz (pe_op op_rep (pe_fz (pe_lst (pa_cons pe_str pa_nil))) (pe_callTy call_int1 (by rfl) T.z_int (by decide +kernel) (pa_cons (pe_cmpR op_ne (pv 1) pe_str (nomark _)) pa_nil)))))) pa_nil)))))))), ?_⟩
    unfold m_law_due at hm
    refine f_seq ?_
    refine f_if ?_
    refine f_test ?_
    refine c_op ?_
    refine ev_to (ev_var rfl) ?_
    refine c_fz ?_
    refine c_lst ?_
    refine ea_to (ea_cons ev_c (ea_cons ev_c (ea_cons ev_c (ea_cons ev_c ea_nil)))) ?_
    refine k_lst (α := Int) (vs := [(.int (0)), (.int (1)), (.int (4)), (.int (5))]) (xs := [0, 1, 4, 5]) hS ⟨rfl, ⟨rfl, ⟨rfl, ⟨rfl, True.intro⟩⟩⟩⟩ (by show 4 ≤ sizeLine; decide) fun p1 H hS => ?_
    refine fz_no ?_
    refine ev_op2 (ev_inLI hS (i := 0) rfl ev_c ev_c) ?_
    refine f_bl ?_
    refine ifK_2 (fun hb2 => ?_) (fun hb2 => ?_)
    · have hm := R.wp_ifY hm hb2
      refine c_ret ?_
      refine ev_to ev_c ?_
      have hS := hS.addIm (v := .non) (x := (Any.non : Any)) (any_non.mpr rfl)
      exact hm _ _ (hS.sel [0, 2] (by decide) rfl)
    · have hm := R.wp_ifN hm (by first | (rw [hb2]; decide) | simpa using hb2)
      refine st_nx ?_
      refine sq_nx ?_
      refine f_seq ?_
      refine f_if ?_
      refine et_to (et_test (ev_eqI (ev_var rfl) ev_c)) ?_
      refine ifK_2 (fun hb4 => ?_) (fun hb4 => ?_)
      · have hm := R.wp_ifY hm hb4
        refine c_ret ?_
        refine c_fz ?_
        refine c_lst ?_
        refine ea_to (ea_cons (ev_var rfl) ea_nil) ?_
        refine k_lst (α := Str) (vs := [(.str (v_law_name))]) (xs := [v_law_name]) hS ⟨rfl, True.intro⟩ (by show 1 ≤ sizeLine; decide) fun p5 H hS => ?_
        refine fz_yes (xs := ([v_law_name] : (List Str))) hS (i := 0) rfl fun H hS => ?_
        have hS : Sep H ([imA (.ref p5) ([v_law_name] : (List Str)), lstA p1 ([0, 1, 4, 5] : (List Int)), F] : List (Asn G)) := hS
        have hS := hS.addIm (v := (.ref p5)) (x := ((Any.lst (([v_law_name]).map Any.str)) : Any)) (any_lstS (hS.im (i := 0) rfl))
        exact hm _ _ (hS.sel [0, 3] (by decide) rfl)
      · have hm := R.wp_ifN hm (by first | (rw [hb4]; decide) | simpa using hb4)
        refine st_nx ?_
        refine sq_nx ?_
        refine f_seq ?_
        refine f_if ?_
        refine et_to (et_test (ev_eqI (ev_var rfl) ev_c)) ?_
        refine ifK_2 (fun hb8 => ?_) (fun hb8 => ?_)
        · have hm := R.wp_ifY hm hb8
          refine c_ret ?_
          refine ev_to ev_c ?_
          have hS := hS.addIm (v := (.int (0))) (x := ((Any.int 0) : Any)) (any_int.mpr rfl)
          exact hm _ _ (hS.sel [0, 2] (by decide) rfl)
        · have hm := R.wp_ifN hm (by first | (rw [hb8]; decide) | simpa using hb8)
          refine st_nx ?_
          refine sq_nx ?_
          refine c_ret ?_
          refine c_fz ?_
          refine c_cb ?_
          refine c_cons ?_
          refine c_fz ?_
          refine c_op ?_
          refine c_fz ?_
          refine c_lst ?_
          refine ea_to (ea_cons (ev_var rfl) ea_nil) ?_
          refine k_lst (α := Str) (vs := [(.str (v_law_name))]) (xs := [v_law_name]) hS ⟨rfl, True.intro⟩ (by show 1 ≤ sizeLine; decide) fun p10 H hS => ?_
          refine fz_no ?_
          refine c_fz ?_
          refine c_op ?_
          refine c_fz ?_
          refine c_lst ?_
          refine ea_to (ea_cons ev_c ea_nil) ?_
          refine k_lst (α := Str) (vs := [(.str (("rent" : Str)))]) (xs := [("rent" : Str)]) hS ⟨rfl, True.intro⟩ (by show 1 ≤ sizeLine; decide) fun p11 H hS => ?_
          refine fz_no ?_
          refine ev_to (ev_cb (ea_cons (ev_neS (ev_var rfl) ev_c) ea_nil) fun _ q => .inr ⟨_, rfl, q⟩) ?_
          obtain ⟨h12, hm⟩ := R.wp_need hm
          obtain ⟨h13, hm⟩ := R.wp_need hm
          refine k_rep hS (i := 0) rfl h12 h13 fun p14 H hS => ?_
          refine fz_no ?_
          obtain ⟨h15, hm⟩ := R.wp_need hm
          refine k_catG hS (hS.rdL (i := 2) rfl) (hS.rdL (i := 0) rfl) h15 fun p16 H hS => ?_
          refine fz_no ?_
          refine c_nil ?_
          revert hm; refine R.need_rev fun h18 hm => ?_
          refine k_sorted hS (hS.sqF (i := 0) rfl) h18 fun p17 H hS => ?_
          refine fz_yes (xs := (sortT (([v_law_name]) ++ (repL ([("rent" : Str)]) (if (!decide (v_law_name = ("rent" : Str))) = true then 1 else 0 : Int).toNat)) : (List Str))) hS (i := 0) rfl fun H hS => ?_
          have hS : Sep H ([imA (.ref p17) (sortT (([v_law_name]) ++ (repL ([("rent" : Str)]) (if (!decide (v_law_name = ("rent" : Str))) = true then 1 else 0 : Int).toNat)) : (List Str)), lstA p16 (([v_law_name]) ++ (repL ([("rent" : Str)]) (if (!decide (v_law_name = ("rent" : Str))) = true then 1 else 0 : Int).toNat) : (List Str)), lstA p14 (repL ([("rent" : Str)]) (if (!decide (v_law_name = ("rent" : Str))) = true then 1 else 0 : Int).toNat : (List Str)), lstA p11 ([("rent" : Str)] : (List Str)), lstA p10 ([v_law_name] : (List Str)), lstA p1 ([0, 1, 4, 5] : (List Int)), F] : List (Asn G)) := hS
          have hS := hS.addIm (v := (.ref p17)) (x := ((Any.lst ((sortT (([v_law_name]) ++ (repL ([("rent" : Str)]) (if (!decide (v_law_name = ("rent" : Str))) = true then 1 else 0 : Int).toNat))).map Any.str)) : Any)) (any_lstS (hS.im (i := 0) rfl))
          exact hm _ _ (hS.sel [0, 7] (by decide) rfl)
def sp_law_step (G : Gx) : Sp := fun vs H Q E => ∃ (v_law_call : Int) (a_v_law_threads : Addr) (v_law_threads : Threads) (a_v_law_index : Addr) (v_law_index : Index) (v_law_name : Str) (a_v_law_there : Addr) (v_law_there : (List (List Str))) (F : Asn G), vs = [(.int (v_law_call)), .ref a_v_law_threads, .ref a_v_law_index, (.str (v_law_name)), .ref a_v_law_there] ∧ Sep H ([ThreadsA a_v_law_threads v_law_threads, IndexA a_v_law_index v_law_index, listE lstA a_v_law_there (v_law_there : (List (List Str))), F] : List (Asn G)) ∧ R.wp (m_law_step v_law_call v_law_threads v_law_index v_law_name v_law_there) (fun r => ∀ H', Sep H' ([ThreadsA a_v_law_threads r.2.1, IndexA a_v_law_index r.2.2.1, listE lstA a_v_law_there (r.2.2.2 : (List (List Str))), F] : List (Asn G)) → Q (.bl (r.1)) H') (fun _ => False)
abbrev N_law_step : List Str := ["_law_call", "_law_threads", "_law_index", "_law_name", "_law_there", "_law_mine", "_law_found"]
theorem sc_law_step : FnScope N_law_step ["_law_call", "_law_threads", "_law_index", "_law_name", "_law_there"] (defScope s_law_step) := ⟨rfl, rfl, rfl, by decide +kernel, rfl, by decide +kernel, by decide +kernel⟩
theorem ok_law_step (T : Txt G mg) : FnOk P w G.K mg base CX0 6 T.a_law_step T.fd_law_step ["_law_call", "_law_threads", "_law_index", "_law_name", "_law_there"] (sp_law_step G) := by
  have nd := sc_law_step.nd
  refine Fun.ok T.F_law_step sc_law_step (fun vs H Q E h => ?_) (fun cdv A outer s H vs Q E hr h => ?_)
  · obtain ⟨v_law_call, a_v_law_threads, v_law_threads, a_v_law_index, v_law_index, v_law_name, a_v_law_there, v_law_there, F, rfl, _⟩ := h; rfl
  · obtain ⟨v_law_call, a_v_law_threads, v_law_threads, a_v_law_index, v_law_index, v_law_name, a_v_law_there, v_law_there, F, rfl, hS, hm⟩ := h
    refine ⟨_, (pss_cons (ps_set (i := 5) nd rfl (Or.inl rfl) (pe_fz (pe_ix (ix_listK G.K) (pe_fz (pv 4)) (pe_callTy call_int1 (by rfl) T.z_int (by decide +kernel) (pa_cons (pe_cmpR op_gt (pv 0) pe_int (nomark _)) pa_nil)) (fun _ _ => rfl))))
      (pss_cons (ps_if (pt_cmpR op_eq (pe_cmpR (inSqK G.K) (pv 3) (pe_fz (pv 5)) (by rfl)) (pe_cmpR (inSqK G.K) (pv 0) (pe_fz (pe_lst (pa_cons pe_int (pa_cons pe_int pa_nil)))) (by rfl)) (nomark _)) (pss_one (ps_ret (pe_call (ok_law_refused T) (hr.mono (by decide)) rfl T.g_law_refused T.kp_law_refused T.b_law_refused .nil pass0 (pa_cons (pv 0) (pa_cons (pv 1) (pa_cons (pv 2) (pa_cons (pv 3) pa_nil))))))) pss_nil)
      (pss_cons (ps_set (i := 6) nd rfl (Or.inl rfl) (pe_call (ok_law_called T) (hr.mono (by decide)) rfl T.g_law_called T.kp_law_called T.b_law_called .nil passL (pa_cons (pv 0) (pa_cons (pv 1) (pa_cons (pv 2) (pa_cons (pv 3) (pa_cons pe_bl pa_nil)))))))
      (pss_cons (ps_if (pt_cmpR (inSqK G.K) (pv 0) (pe_fz (pe_lst (pa_cons pe_int (pa_cons pe_int pa_nil)))) (by rfl)) (pss_one (ps_expr (pe_bmK G.K PySem.F.plainAttrs_list PySem.F.slot_list_append PySem.F.type_list_append mt_append (pe_fz (pv 5)) (pa_cons (pv 3) pa_nil)))) pss_nil)
      (pss_cons (ps_if (pt_cmpR (inSqK G.K) (pv 0) (pe_fz (pe_lst (pa_cons pe_int (pa_cons pe_int pa_nil)))) (by rfl)) (pss_one (ps_expr (pe_bmK G.K PySem.F.plainAttrs_list PySem.F.slot_list_remove PySem.F.type_list_remove mt_removeS (pe_fz (pv 5)) (pa_cons (pv 3) pa_nil)))) pss_nil)
      (pss_cons (ps_if (pt_val (pe_callB (isiK G.K) (by rfl) T.z_isinstance (by decide +kernel) (pa_cons (pv 6) (pa_cons (pe_bltn (v := .ty "bool") (by rfl) T.z_bool (by decide +kernel) rfl) pa_nil)))) (pss_one (ps_ret pe_bl)) pss_nil)
      (pss_one (ps_ret (pe_cmpR (eqDK G.K hr.units) (pv 6) (pe_call (ok_law_due T) (hr.mono (by decide)) rfl T.g_law_due T.kp_law_due T.b_law_due .nil pass0 (pa_cons (pv 0) (pa_cons (pv 3) pa_nil))) (nomark _)))))))))), ?_⟩
    unfold m_law_step at hm
    refine f_seq ?_
    refine c_asg ?_
    refine c_fz ?_
    refine c_op ?_
    refine ev_to (ev_fz (ev_var rfl)) ?_
    refine ev_to (ev_cb (ea_cons (ev_i0 (ev_var rfl) ev_c) ea_nil) fun _ q => .inr ⟨_, rfl, q⟩) ?_
    obtain ⟨j1, x2, hx2, hm⟩ := wp_ixJ hm
    refine ixK (x := (x2 : (List Str))) (hS.sel [2, 0, 1, 3] (by decide) rfl : Sep H (listE lstA a_v_law_there (v_law_there : (List (List Str))) :: [ThreadsA a_v_law_threads v_law_threads, IndexA a_v_law_index v_law_index, F] : List (Asn G))) hx2 fun ps3 p4 hl5 hp6 hS => ?_
    have hS : Sep H ([lstA p4 (x2 : (List Str)), listH lstA a_v_law_there ps3 (v_law_there : (List (List Str))) j1, ThreadsA a_v_law_threads v_law_threads, IndexA a_v_law_index v_law_index, F] : List (Asn G)) := hS
    refine fz_no ?_
    refine c_set (σ' := [some (.int (v_law_call)), some (.ref a_v_law_threads), some (.ref a_v_law_index), some (.str (v_law_name)), some (.ref a_v_law_there), some (.ref p4), none]) rfl ?_
    refine sq_nx ?_
    refine f_seq ?_
    refine f_if ?_
    refine f_test ?_
    refine c_op ?_
    refine ev_to (ev_inL hS (i := 0) rfl (ev_var rfl) (ev_fz (ev_var rfl))) ?_
    refine c_op ?_
    refine ev_to (ev_var rfl) ?_
    refine c_fz ?_
    refine c_lst ?_
    refine ea_to (ea_cons ev_c (ea_cons ev_c ea_nil)) ?_
    refine k_lst (α := Int) (vs := [(.int (0)), (.int (4))]) (xs := [0, 4]) hS ⟨rfl, ⟨rfl, True.intro⟩⟩ (by show 2 ≤ sizeLine; decide) fun p7 H hS => ?_
    refine fz_no ?_
    refine ev_op2 (ev_inLI hS (i := 0) rfl ev_c ev_c) ?_
    refine ev_op2 (ev_eqB ev_c ev_c) ?_
    refine f_bl ?_
    refine ifK_2 (fun hb8 => ?_) (fun hb8 => ?_)
    · have hm := R.wp_ifY hm hb8
      refine c_ret ?_
      refine c_call ?_
      refine ea_to (ea_cons (ev_var rfl) (ea_cons (ev_var rfl) (ea_cons (ev_var rfl) (ea_cons (ev_var rfl) ea_nil)))) ?_
      refine ⟨v_law_call, a_v_law_threads, (v_law_threads : Threads), a_v_law_index, (v_law_index : Index), v_law_name, star [lstA p7 ([0, 4] : (List Int)), lstA p4 (x2 : (List Str)), listH lstA a_v_law_there ps3 (v_law_there : (List (List Str))) j1, F], rfl, Sep.unstar (M := [ThreadsA a_v_law_threads v_law_threads, IndexA a_v_law_index v_law_index]) (hS.sel [3, 4, 0, 1, 2, 5] (by decide) rfl : Sep H (([ThreadsA a_v_law_threads v_law_threads, IndexA a_v_law_index v_law_index] ++ [lstA p7 ([0, 4] : (List Int)), lstA p4 (x2 : (List Str)), listH lstA a_v_law_there ps3 (v_law_there : (List (List Str))) j1, F] : List (Asn G)))), R.wp_mono (R.wp_bind hm) (fun r9 hm H hS => ?_) (fun _ z => z)⟩
      have hS : Sep H ([ThreadsA a_v_law_threads r9.2.1, IndexA a_v_law_index r9.2.2, lstA p7 ([0, 4] : (List Int)), lstA p4 (x2 : (List Str)), listH lstA a_v_law_there ps3 (v_law_there : (List (List Str))) j1, F] : List (Asn G)) := Sep.star (M := [ThreadsA a_v_law_threads r9.2.1, IndexA a_v_law_index r9.2.2]) hS
      have hS : Sep H ([listE lstA a_v_law_there (v_law_there : (List (List Str))), ThreadsA a_v_law_threads r9.2.1, IndexA a_v_law_index r9.2.2, lstA p7 ([0, 4] : (List Int)), F] : List (Asn G)) := unfocus0 hl5 hp6 hx2.2 (hS.sel [3, 4, 0, 1, 2, 5] (by decide) rfl)
      exact hm _ (hS.sel [1, 2, 0, 4] (by decide) rfl)
    · have hm := R.wp_ifN hm (by first | (rw [hb8]; decide) | simpa using hb8)
      refine st_nx ?_
      refine sq_nx ?_
      refine f_seq ?_
      refine c_asg ?_
      refine c_call ?_
      refine ea_to (ea_cons (ev_var rfl) (ea_cons (ev_var rfl) (ea_cons (ev_var rfl) (ea_cons (ev_var rfl) (ea_cons ev_c ea_nil))))) ?_
      refine ⟨v_law_call, a_v_law_threads, (v_law_threads : Threads), a_v_law_index, (v_law_index : Index), v_law_name, false, star [lstA p7 ([0, 4] : (List Int)), lstA p4 (x2 : (List Str)), listH lstA a_v_law_there ps3 (v_law_there : (List (List Str))) j1, F], rfl, Sep.unstar (M := [ThreadsA a_v_law_threads v_law_threads, IndexA a_v_law_index v_law_index]) (hS.sel [3, 4, 0, 1, 2, 5] (by decide) rfl : Sep H (([ThreadsA a_v_law_threads v_law_threads, IndexA a_v_law_index v_law_index] ++ [lstA p7 ([0, 4] : (List Int)), lstA p4 (x2 : (List Str)), listH lstA a_v_law_there ps3 (v_law_there : (List (List Str))) j1, F] : List (Asn G)))), R.wp_mono (R.wp_bind hm) (fun r10 hm p11 H hS => ?_) (fun _ z => z.elim)⟩
      have hS : Sep H ([imA p11 (r10.1 : Any), ThreadsA a_v_law_threads r10.2.1, IndexA a_v_law_index r10.2.2, lstA p7 ([0, 4] : (List Int)), lstA p4 (x2 : (List Str)), listH lstA a_v_law_there ps3 (v_law_there : (List (List Str))) j1, F] : List (Asn G)) := Sep.star (M := [imA p11 (r10.1 : Any), ThreadsA a_v_law_threads r10.2.1, IndexA a_v_law_index r10.2.2]) hS
      refine c_set (σ' := [some (.int (v_law_call)), some (.ref a_v_law_threads), some (.ref a_v_law_index), some (.str (v_law_name)), some (.ref a_v_law_there), some (.ref p4), some p11]) rfl ?_
      refine sq_nx ?_
      refine f_seq ?_
      refine f_if ?_
      refine f_test ?_
      refine c_op ?_
      refine ev_to (ev_var rfl) ?_
      refine c_fz ?_
      refine c_lst ?_
      refine ea_to (ea_cons ev_c (ea_cons ev_c ea_nil)) ?_
      refine k_lst (α := Int) (vs := [(.int (0)), (.int (4))]) (xs := [0, 4]) hS ⟨rfl, ⟨rfl, True.intro⟩⟩ (by show 2 ≤ sizeLine; decide) fun p13 H hS => ?_
      refine fz_no ?_
      refine ev_op2 (ev_inLI hS (i := 0) rfl ev_c ev_c) ?_
      refine f_bl ?_
      refine ifK_J (τ := (List Str)) (fun (s14 : (List Str)) (σ : L2.St) (H : Hp) => σ = [some (.int (v_law_call)), some (.ref a_v_law_threads), some (.ref a_v_law_index), some (.str (v_law_name)), some (.ref a_v_law_there), some (.ref p4), some p11] ∧ Sep H ([lstA p13 ([0, 4] : (List Int)), imA p11 (r10.1 : Any), ThreadsA a_v_law_threads r10.2.1, IndexA a_v_law_index r10.2.2, lstA p7 ([0, 4] : (List Int)), lstA p4 (s14 : (List Str)), listH lstA a_v_law_there ps3 (v_law_there : (List (List Str))) j1, F] : List (Asn G))) hm (fun hb q hm nx => ?_) (fun hb q hm nx => ?_) (fun s14 σ H hm hI => ?_)
      ·
        refine c_drop ?_
        refine c_bm ?_
        refine ev_to (ev_fz (ev_var rfl)) ⟨tyL hS (i := 5) rfl, ?_⟩
        refine ea_to (ea_cons (ev_var rfl) ea_nil) ?_
        obtain ⟨h15, hm⟩ := R.wp_need hm
        refine k_append (x := v_law_name) hS (i := 5) rfl rfl h15 rfl fun H hS => ?_
        exact nx _ _ _ hm ⟨rfl, hS.sel [0, 1, 2, 3, 4, 5, 6, 7] (by decide) rfl⟩
      ·
        refine st_nx ?_
        exact nx _ _ _ hm ⟨rfl, hS.sel [0, 1, 2, 3, 4, 5, 6, 7] (by decide) rfl⟩
      · obtain ⟨rfl, hS⟩ := hI
        refine sq_nx ?_
        refine f_seq ?_
        refine f_if ?_
        refine f_test ?_
        refine c_op ?_
        refine ev_to (ev_var rfl) ?_
        refine c_fz ?_
        refine c_lst ?_
        refine ea_to (ea_cons ev_c (ea_cons ev_c ea_nil)) ?_
        refine k_lst (α := Int) (vs := [(.int (1)), (.int (5))]) (xs := [1, 5]) hS ⟨rfl, ⟨rfl, True.intro⟩⟩ (by show 2 ≤ sizeLine; decide) fun p16 H hS => ?_
        refine fz_no ?_
        refine ev_op2 (ev_inLI hS (i := 0) rfl ev_c ev_c) ?_
        refine f_bl ?_
        refine ifK_J (τ := (List Str)) (fun (s17 : (List Str)) (σ : L2.St) (H : Hp) => σ = [some (.int (v_law_call)), some (.ref a_v_law_threads), some (.ref a_v_law_index), some (.str (v_law_name)), some (.ref a_v_law_there), some (.ref p4), some p11] ∧ Sep H ([lstA p16 ([1, 5] : (List Int)), lstA p13 ([0, 4] : (List Int)), imA p11 (r10.1 : Any), ThreadsA a_v_law_threads r10.2.1, IndexA a_v_law_index r10.2.2, lstA p7 ([0, 4] : (List Int)), lstA p4 (s17 : (List Str)), listH lstA a_v_law_there ps3 (v_law_there : (List (List Str))) j1, F] : List (Asn G))) hm (fun hb q hm nx => ?_) (fun hb q hm nx => ?_) (fun s17 σ H hm hI => ?_)
        ·
          refine c_drop ?_
          refine c_bm ?_
          refine ev_to (ev_fz (ev_var rfl)) ⟨tyL hS (i := 6) rfl, ?_⟩
          refine ea_to (ea_cons (ev_var rfl) ea_nil) ?_
          obtain ⟨h18, hm⟩ := R.wp_need hm
          refine k_removeS (x := v_law_name) hS (i := 6) rfl h18 rfl fun H hS => ?_
          exact nx _ _ _ hm ⟨rfl, hS.sel [0, 1, 2, 3, 4, 5, 6, 7, 8] (by decide) rfl⟩
        ·
          refine st_nx ?_
          exact nx _ _ _ hm ⟨rfl, hS.sel [0, 1, 2, 3, 4, 5, 6, 7, 8] (by decide) rfl⟩
        · obtain ⟨rfl, hS⟩ := hI
          refine sq_nx ?_
          refine f_seq ?_
          refine f_if ?_
          refine et_to (et_B (ev_isAny (ev_var rfl) ev_c (hS.im (i := 2) rfl) (by decide))) ?_
          refine ifK_2 (fun hb19 => ?_) (fun hb19 => ?_)
          · have hm := R.wp_ifY hm hb19
            refine c_ret ?_
            refine ev_to ev_c ?_
            have hS : Sep H ([listE lstA a_v_law_there (v_law_there.set j1 s17 : (List (List Str))), lstA p16 ([1, 5] : (List Int)), lstA p13 ([0, 4] : (List Int)), imA p11 (r10.1 : Any), ThreadsA a_v_law_threads r10.2.1, IndexA a_v_law_index r10.2.2, lstA p7 ([0, 4] : (List Int)), F] : List (Asn G)) := unfocusE (y := (s17 : (List Str))) hl5 hp6 (hS.sel [6, 7, 0, 1, 2, 3, 4, 5, 8] (by decide) rfl)
            exact hm _ (hS.sel [4, 5, 0, 7] (by decide) rfl)
          · have hm := R.wp_ifN hm (by first | (rw [hb19]; decide) | simpa using hb19)
            refine st_nx ?_
            refine sq_nx ?_
            refine c_ret ?_
            refine c_op ?_
            refine ev_to (ev_var rfl) ?_
            refine c_call ?_
            refine ea_to (ea_cons (ev_var rfl) (ea_cons (ev_var rfl) ea_nil)) ?_
            refine ⟨v_law_call, v_law_name, star [lstA p16 ([1, 5] : (List Int)), lstA p13 ([0, 4] : (List Int)), imA p11 (r10.1 : Any), ThreadsA a_v_law_threads r10.2.1, IndexA a_v_law_index r10.2.2, lstA p7 ([0, 4] : (List Int)), lstA p4 (s17 : (List Str)), listH lstA a_v_law_there ps3 (v_law_there : (List (List Str))) j1, F], rfl, Sep.unstar (M := []) (hS.sel [0, 1, 2, 3, 4, 5, 6, 7, 8] (by decide) rfl : Sep H (([] ++ [lstA p16 ([1, 5] : (List Int)), lstA p13 ([0, 4] : (List Int)), imA p11 (r10.1 : Any), ThreadsA a_v_law_threads r10.2.1, IndexA a_v_law_index r10.2.2, lstA p7 ([0, 4] : (List Int)), lstA p4 (s17 : (List Str)), listH lstA a_v_law_there ps3 (v_law_there : (List (List Str))) j1, F] : List (Asn G)))), R.wp_mono (R.wp_bind hm) (fun r20 hm p21 H hS => ?_) (fun _ z => z)⟩
            have hS : Sep H ([imA p21 (r20 : Any), lstA p16 ([1, 5] : (List Int)), lstA p13 ([0, 4] : (List Int)), imA p11 (r10.1 : Any), ThreadsA a_v_law_threads r10.2.1, IndexA a_v_law_index r10.2.2, lstA p7 ([0, 4] : (List Int)), lstA p4 (s17 : (List Str)), listH lstA a_v_law_there ps3 (v_law_there : (List (List Str))) j1, F] : List (Asn G)) := Sep.star (M := [imA p21 (r20 : Any)]) hS
            obtain ⟨b23, hb23, hm⟩ := wp_eqA hm
            refine ev_op2 (ev_eqA ev_c ev_c (hS.im (i := 3) rfl) (hS.im (i := 0) rfl) hb23) ?_
            have hS : Sep H ([listE lstA a_v_law_there (v_law_there.set j1 s17 : (List (List Str))), imA p21 (r20 : Any), lstA p16 ([1, 5] : (List Int)), lstA p13 ([0, 4] : (List Int)), imA p11 (r10.1 : Any), ThreadsA a_v_law_threads r10.2.1, IndexA a_v_law_index r10.2.2, lstA p7 ([0, 4] : (List Int)), F] : List (Asn G)) := unfocusE (y := (s17 : (List Str))) hl5 hp6 (hS.sel [7, 8, 0, 1, 2, 3, 4, 5, 6, 9] (by decide) rfl)
            exact hm _ (hS.sel [5, 6, 0, 8] (by decide) rfl)
def sp_law (G : Gx) : Sp := fun vs H Q E => ∃ (a_v_law_script : V) (v_law_script : Script) (F : Asn G), vs = [a_v_law_script] ∧ Im.im G H a_v_law_script v_law_script ∧ Sep H ([F] : List (Asn G)) ∧ R.wp (m_law v_law_script) (fun r => ∀ H', Sep H' ([F] : List (Asn G)) → Q (.bl (r)) H') (fun _ => False)
abbrev N_law : List Str := ["_law_script", "_law_draws_here", "_law_pool_here", "_law_threads", "_law_index", "_law_there", "_law_k", "_law_name", "_law_call", "_law_other"]
theorem sc_law : FnScope N_law ["_law_script"] (defScope s_law) := ⟨rfl, rfl, rfl, by decide +kernel, rfl, by decide +kernel, by decide +kernel⟩
theorem ok_law (T : Txt G mg) : FnOk P w G.K mg base CX0 7 T.a_law T.fd_law ["_law_script"] (sp_law G) := by
  have nd := sc_law.nd
  refine Fun.ok T.F_law sc_law (fun vs H Q E h => ?_) (fun cdv A outer s H vs Q E hr h => ?_)
  · obtain ⟨a_v_law_script, v_law_script, F, rfl, _⟩ := h; rfl
  · obtain ⟨a_v_law_script, v_law_script, F, rfl, him_v_law_script, hS, hm⟩ := h
    obtain ⟨ad_v_law_script, rfl, _⟩ := im_script him_v_law_script
    have hS := hS.addIm him_v_law_script
    refine ⟨_, (pss_cons (ps_set (i := 1) nd rfl (Or.inl rfl) (pe_fz (pe_call (ok_law_draws T) (hr.mono (by decide)) rfl T.g_law_draws T.kp_law_draws T.b_law_draws .nil pass0 (pa_cons (pv 0) (pa_cons pe_int pa_nil)))))
      (pss_cons (ps_set (i := 2) nd rfl (Or.inl rfl) (pe_fz (pe_call (ok_law_pool T) (hr.mono (by decide)) rfl T.g_law_pool T.kp_law_pool T.b_law_pool .nil pass0 (pa_cons (pe_fz (pv 1)) pa_nil))))
      (pss_cons (ps_set (i := 3) nd rfl (Or.inl rfl) (pe_make0 T.k_Threads (ok_Threads___init__ T) (hr.mono (by decide)) rfl T.g_Threads T.b_Threads___init__ .nil pass0))
      (pss_cons (ps_set (i := 4) nd rfl (Or.inl rfl) (pe_make0 T.k_Index (ok_Index___init__ T) (hr.mono (by decide)) rfl T.g_Index T.b_Index___init__ .nil pass0))
      (pss_cons (ps_set (i := 5) nd rfl (Or.inl rfl) (pe_fz (pe_lst (pa_cons (pe_fz (pe_lst pa_nil)) (pa_cons (pe_fz (pe_lst pa_nil)) pa_nil)))))
      (pss_cons (ps_for PassesOwn.never rfl (pi_range1 rfl T.z_range (pa_cons (pe_op op_add pe_int (pe_op op_mod (pe_ix (ix_listK G.K) (pe_fz (pv 1)) pe_int (fun _ _ => rfl)) pe_int)) pa_nil)) (pg_name (i := 6) nd rfl (Or.inl rfl)) (pss_cons (ps_set (i := 7) nd rfl (Or.inl rfl) (pe_ix (ix_listK G.K) (pe_fz (pv 2)) (pe_op op_mod (pe_ix (ix_listK G.K) (pe_fz (pv 1)) (pe_op op_add pe_int (pe_op op_mul pe_int (pv 6))) (fun _ _ => rfl)) (pe_callB (lenSqK G.K) (by rfl) T.z_len PySem.boot_len (pa_cons (pe_fz (pv 2)) pa_nil))) (fun _ _ => rfl)))
      (pss_cons (ps_set (i := 8) nd rfl (Or.inl rfl) (pe_op op_mod (pe_ix (ix_listK G.K) (pe_fz (pv 1)) (pe_op op_add pe_int (pe_op op_mul pe_int (pv 6))) (fun _ _ => rfl)) pe_int))
      (pss_cons (ps_if (pt_not (pt_val (pe_call (ok_law_step T) (hr.mono (by decide)) rfl T.g_law_step T.kp_law_step T.b_law_step .nil pass0 (pa_cons (pv 8) (pa_cons (pv 3) (pa_cons (pv 4) (pa_cons (pv 7) (pa_cons (pe_fz (pv 5)) pa_nil)))))))) (pss_one (ps_ret pe_bl)) pss_nil)
      (pss_cons (ps_set (i := 9) nd rfl (Or.inl rfl) (pe_ix (ix_listK G.K) (pe_fz (pe_lst (pa_cons pe_int (pa_cons pe_int (pa_cons pe_int (pa_cons pe_int (pa_cons pe_int (pa_cons pe_int (pa_cons pe_int pa_nil))))))))) (pv 8) (fun _ _ => rfl)))
      (pss_cons (ps_if (PW.pt (pw_and (pt_cmpR op_eq (pe_op op_mod (pe_ix (ix_listK G.K) (pe_fz (pv 1)) (pe_op op_add pe_int (pe_op op_mul pe_int (pv 6))) (fun _ _ => rfl)) pe_int) pe_int (nomark _)) (pw_and1 (pt_not (pt_val (pe_call (ok_law_step T) (hr.mono (by decide)) rfl T.g_law_step T.kp_law_step T.b_law_step .nil pass0 (pa_cons (pv 9) (pa_cons (pv 3) (pa_cons (pv 4) (pa_cons (pv 7) (pa_cons (pe_fz (pv 5)) pa_nil))))))))))) (pss_one (ps_ret pe_bl)) pss_nil)
      (pss_cons (ps_if (PW.pt (pw_or (pt_cmpR (neDK G.K hr.units) (pe_fz (pe_meth0 (pv 3) T.cl_Threads T.m_Threads_names (ok_Threads_names T) (hr.mono (by decide)) T.b_Threads_names .nil pass0)) (pe_fz (pe_callB (sortedSK G.K) (by rfl) T.z_sorted (by decide +kernel) (pa_cons (pe_fz (pe_ix (ix_listK G.K) (pe_fz (pv 5)) pe_int (fun _ _ => rfl))) pa_nil))) (nomark _)) (pw_or1 (pt_cmpR (neDK G.K hr.units) (pe_fz (pe_meth (pv 4) T.cl_Index T.m_Index_having (ok_Index_having T) (hr.mono (by decide)) T.b_Index_having .nil pass0 (pa_cons pe_str pa_nil))) (pe_fz (pe_callB (sortedSK G.K) (by rfl) T.z_sorted (by decide +kernel) (pa_cons (pe_fz (pe_ix (ix_listK G.K) (pe_fz (pv 5)) pe_int (fun _ _ => rfl))) pa_nil))) (nomark _))))) (pss_one (ps_ret pe_bl)) pss_nil)
      (pss_cons (ps_if (PW.pt (pw_or (pt_cmpR (neDK G.K hr.units) (pe_fz (pe_meth (pv 3) T.cl_Threads T.m_Threads_answers_to (ok_Threads_answers_to T) (hr.mono (by decide)) T.b_Threads_answers_to .nil pass0 (pa_cons pe_str pa_nil))) (pe_fz (pe_lst pa_nil)) (nomark _)) (pw_or (pt_cmpR (neDK G.K hr.units) (pe_fz (pe_meth (pv 4) T.cl_Index T.m_Index_having (ok_Index_having T) (hr.mono (by decide)) T.b_Index_having .nil pass0 (pa_cons pe_str pa_nil))) (pe_fz (pe_lst pa_nil)) (nomark _)) (pw_or1 (pt_cmpR (inSqK G.K) pe_str (pe_fz (pe_meth0 (pv 4) T.cl_Index T.m_Index_all_words (ok_Index_all_words T) (hr.mono (by decide)) T.b_Index_all_words .nil pass0)) (by rfl)))))) (pss_one (ps_ret pe_bl)) pss_nil)
      (pss_one (ps_if (PW.pt (pw_and (pt_cmpR op_gt (pe_op op_mod (pe_ix (ix_listK G.K) (pe_fz (pv 1)) (pe_op op_add pe_int (pe_op op_mul pe_int (pv 6))) (fun _ _ => rfl)) pe_int) pe_int (nomark _)) (pw_and1 (pt_not (pt_val (pe_call (ok_law_step T) (hr.mono (by decide)) rfl T.g_law_step T.kp_law_step T.b_law_step .nil pass0 (pa_cons (pv 8) (pa_cons (pv 3) (pa_cons (pv 4) (pa_cons (pv 7) (pa_cons (pe_fz (pv 5)) pa_nil))))))))))) (pss_one (ps_ret pe_bl)) pss_nil))))))))))
      (pss_cons (ps_for PassesOwn.never rfl (pi_listK G.K (pe_fz (pe_lst (pa_cons pe_int (pa_cons pe_int (pa_cons pe_int (pa_cons pe_int (pa_cons pe_int pa_nil)))))))) (pg_name (i := 8) nd rfl (Or.inl rfl)) (pss_one (ps_if (pt_not (pt_val (pe_call (ok_law_refused_A T) (hr.mono (by decide)) rfl T.g_law_refused T.kp_law_refused T.b_law_refused .nil pass0 (pa_cons (pv 8) (pa_cons (pv 3) (pa_cons (pv 4) (pa_cons (pe_ix (ix_listK G.K) (pe_fz (pe_lst (pa_cons pe_non (pa_cons pe_int (pa_cons pe_int pa_nil))))) (pe_op op_mod (pe_op op_fdiv (pe_ix (ix_listK G.K) (pe_fz (pv 1)) pe_int (fun _ _ => rfl)) (pe_op op_add pe_int (pv 8))) pe_int) (fun _ _ => rfl)) pa_nil))))))) (pss_one (ps_ret pe_bl)) pss_nil)))
      (pss_cons (ps_if (pt_cmpR (neDK G.K hr.units) (pe_fz (pe_meth0 (pv 3) T.cl_Threads T.m_Threads_threads (ok_Threads_threads T) (hr.mono (by decide)) T.b_Threads_threads .nil pass0)) (pe_fz (pe_lc (own := [("_law_name", 7)]) (g := gName 7) rfl nd (pi_listK G.K (pe_fz (pe_callB (sortedSK G.K) (by rfl) T.z_sorted (by decide +kernel) (pa_cons (pe_fz (pe_ix (ix_listK G.K) (pe_fz (pv 5)) pe_int (fun _ _ => rfl))) pa_nil)))) (blkOk_by (own := [("_law_name", 7)]) (N := N_law) (sc := defScope s_law) (by decide +kernel)) (fun _ _ _ _ _ => pg_name (i := 7) nd rfl (Or.inl rfl)) (fun _ _ _ _ _ => pts_nil) (fun _ _ _ _ _ => (pe_fz (pe_lst (pa_cons (pv 7) pa_nil)))))) (nomark _)) (pss_one (ps_ret pe_bl)) pss_nil)
      (pss_cons (ps_expr (pe_meth (pv 3) T.cl_Threads T.m_Threads_add (ok_Threads_add T) (hr.mono (by decide)) T.b_Threads_add .nil passL (pa_cons pe_str (pa_cons pe_str pa_nil))))
      (pss_cons (ps_for PassesOwn.never rfl (pi_listK G.K (pe_fz (pe_lst (pa_cons pe_int (pa_cons pe_int (pa_cons pe_int (pa_cons pe_int pa_nil))))))) (pg_name (i := 8) nd rfl (Or.inl rfl)) (pss_one (ps_if (pt_not (pt_val (pe_call (ok_law_refused T) (hr.mono (by decide)) rfl T.g_law_refused T.kp_law_refused T.b_law_refused .nil pass0 (pa_cons (pv 8) (pa_cons (pv 3) (pa_cons (pv 4) (pa_cons pe_str pa_nil))))))) (pss_one (ps_ret pe_bl)) pss_nil)))
      (pss_one (ps_ret (pe_and (pe_cmpR (eqDK G.K hr.units) (pe_fz (pe_meth (pv 3) T.cl_Threads T.m_Threads_thread (ok_Threads_thread T) (hr.mono (by decide)) T.b_Threads_thread .nil passL (pa_cons pe_str pa_nil))) (pe_fz (pe_lst (pa_cons pe_str pa_nil))) (nomark _)) (pe_one (pe_cmpR (eqDK G.K hr.units) (pe_fz (pe_meth0 (pv 3) T.cl_Threads T.m_Threads_names (ok_Threads_names T) (hr.mono (by decide)) T.b_Threads_names .nil pass0)) (pe_fz (pe_callB (sortedSK G.K) (by rfl) T.z_sorted (by decide +kernel) (pa_cons (pe_fz (pe_op op_catR (pe_fz (pe_ix (ix_listK G.K) (pe_fz (pv 5)) pe_int (fun _ _ => rfl))) (pe_fz (pe_lst (pa_cons pe_str pa_nil))))) pa_nil))) (nomark _)))))))))))))))), ?_⟩
    unfold m_law at hm
    refine f_seq ?_
    refine c_asg ?_
    refine c_fz ?_
    refine c_call ?_
    refine ea_to (ea_cons (ev_var rfl) (ea_cons ev_c ea_nil)) ?_
    refine ⟨_, v_law_script, 60, star [imA (.ref ad_v_law_script) v_law_script, F], rfl, (hS.im (i := 0) rfl), Sep.unstar (M := []) (hS.sel [0, 1] (by decide) rfl : Sep H (([] ++ [imA (.ref ad_v_law_script) v_law_script, F] : List (Asn G)))), R.wp_mono (R.wp_bind hm) (fun r1 hm p2 H hS => ?_) (fun _ z => z)⟩
    have hS : Sep H ([lstA p2 (r1 : (List Int)), imA (.ref ad_v_law_script) v_law_script, F] : List (Asn G)) := Sep.star (M := [lstA p2 (r1 : (List Int))]) hS
    refine fz_no ?_
    refine c_set (σ' := [some (.ref ad_v_law_script), some (.ref p2), none, none, none, none, none, none, none, none]) rfl ?_
    refine sq_nx ?_
    refine f_seq ?_
    refine c_asg ?_
    refine c_fz ?_
    refine c_call ?_
    refine ea_to (ea_cons (ev_fz (ev_var rfl)) ea_nil) ?_
    refine ⟨p2, (r1 : (List Int)), star [imA (.ref ad_v_law_script) v_law_script, F], rfl, Sep.unstar (M := [lstA p2 (r1 : (List Int))]) (hS.sel [0, 1, 2] (by decide) rfl : Sep H (([lstA p2 (r1 : (List Int))] ++ [imA (.ref ad_v_law_script) v_law_script, F] : List (Asn G)))), R.wp_mono (R.wp_bind hm) (fun r3 hm p4 H hS => ?_) (fun _ z => z)⟩
    have hS : Sep H ([lstA p4 (r3 : (List Str)), lstA p2 (r1 : (List Int)), imA (.ref ad_v_law_script) v_law_script, F] : List (Asn G)) := Sep.star (M := [lstA p4 (r3 : (List Str)), lstA p2 (r1 : (List Int))]) hS
    refine fz_no ?_
    refine c_set (σ' := [some (.ref ad_v_law_script), some (.ref p2), some (.ref p4), none, none, none, none, none, none, none]) rfl ?_
    refine sq_nx ?_
    refine f_seq ?_
    refine c_asg ?_
    refine c_make ?_
    refine ea_to ea_nil ?_
    intro p5 d6 np nd ne
    have hS := hS.newI (C := G.cl 8) np nd ne (by rw [T.fz_Threads]; decide)
    refine ⟨p5, d6, star [lstA p4 (r3 : (List Str)), lstA p2 (r1 : (List Int)), imA (.ref ad_v_law_script) v_law_script, F], rfl, Sep.unstar (M := [cell p5 (.ins (G.cl 8) d6 [])]) (hS.sel [0, 1, 2, 3, 4] (by decide) rfl : Sep _ (([cell p5 (.ins (G.cl 8) d6 [])] ++ [lstA p4 (r3 : (List Str)), lstA p2 (r1 : (List Int)), imA (.ref ad_v_law_script) v_law_script, F] : List (Asn G)))), R.wp_mono (R.wp_bind hm) (fun r7 hm H hS => ⟨rfl, ?_⟩) (fun _ z => z)⟩
    have hS : Sep H ([ThreadsA p5 r7, lstA p4 (r3 : (List Str)), lstA p2 (r1 : (List Int)), imA (.ref ad_v_law_script) v_law_script, F] : List (Asn G)) := Sep.star (M := [ThreadsA p5 r7]) hS
    refine c_set (σ' := [some (.ref ad_v_law_script), some (.ref p2), some (.ref p4), some (.ref p5), none, none, none, none, none, none]) rfl ?_
    refine sq_nx ?_
    refine f_seq ?_
    refine c_asg ?_
    refine c_make ?_
    refine ea_to ea_nil ?_
    intro p8 d9 np nd ne
    have hS := hS.newI (C := G.cl 7) np nd ne (by rw [T.fz_Index]; decide)
    refine ⟨p8, d9, star [ThreadsA p5 r7, lstA p4 (r3 : (List Str)), lstA p2 (r1 : (List Int)), imA (.ref ad_v_law_script) v_law_script, F], rfl, Sep.unstar (M := [cell p8 (.ins (G.cl 7) d9 [])]) (hS.sel [0, 1, 2, 3, 4, 5] (by decide) rfl : Sep _ (([cell p8 (.ins (G.cl 7) d9 [])] ++ [ThreadsA p5 r7, lstA p4 (r3 : (List Str)), lstA p2 (r1 : (List Int)), imA (.ref ad_v_law_script) v_law_script, F] : List (Asn G)))), R.wp_mono (R.wp_bind hm) (fun r10 hm H hS => ⟨rfl, ?_⟩) (fun _ z => z)⟩
    have hS : Sep H ([IndexA p8 r10, ThreadsA p5 r7, lstA p4 (r3 : (List Str)), lstA p2 (r1 : (List Int)), imA (.ref ad_v_law_script) v_law_script, F] : List (Asn G)) := Sep.star (M := [IndexA p8 r10]) hS
    refine c_set (σ' := [some (.ref ad_v_law_script), some (.ref p2), some (.ref p4), some (.ref p5), some (.ref p8), none, none, none, none, none]) rfl ?_
    refine sq_nx ?_
    refine f_seq ?_
    refine c_asg ?_
    refine c_fz ?_
    refine c_lst ?_
    refine c_cons ?_
    refine c_fz ?_
    refine c_lst ?_
    refine ea_to ea_nil ?_
    refine k_lst (α := Str) (vs := []) (xs := ([] : (List Str))) hS True.intro (by show 0 ≤ sizeLine; decide) fun p11 H hS => ?_
    refine fz_no ?_
    refine c_cons ?_
    refine c_fz ?_
    refine c_lst ?_
    refine ea_to ea_nil ?_
    refine k_lst (α := Str) (vs := []) (xs := ([] : (List Str))) hS True.intro (by show 0 ≤ sizeLine; decide) fun p12 H hS => ?_
    refine fz_no ?_
    refine c_nil ?_
    refine k_lstRaw hS (by show 2 ≤ sizeLine; decide) fun p13 H hS => ?_
    have hS : Sep H ([listE lstA p13 ([([] : (List Str)), ([] : (List Str))] : (List (List Str))), IndexA p8 r10, ThreadsA p5 r7, lstA p4 (r3 : (List Str)), lstA p2 (r1 : (List Int)), imA (.ref ad_v_law_script) v_law_script, F] : List (Asn G)) := packE [p11, p12] rfl (hS.sel [0, 2, 1, 3, 4, 5, 6, 7, 8] (by decide) rfl)
    refine fz_no ?_
    obtain ⟨y14, hy14, hm⟩ := wp_let hm
    have hS : Sep H ([listE lstA p13 (y14 : (List (List Str))), IndexA p8 r10, ThreadsA p5 r7, lstA p4 (r3 : (List Str)), lstA p2 (r1 : (List Int)), imA (.ref ad_v_law_script) v_law_script, F] : List (Asn G)) := by rw [← hy14]; exact hS
    refine c_set (σ' := [some (.ref ad_v_law_script), some (.ref p2), some (.ref p4), some (.ref p5), some (.ref p8), some (.ref p13), none, none, none, none]) rfl ?_
    refine sq_nx ?_
    refine f_seq ?_
    refine c_for ?_
    refine c_rng1 ?_
    obtain ⟨x15, hx15, hm⟩ := wp_idx hm
    refine ea_to (ea_cons (ev_add ev_c (ev_mod (ev_ixSq (ev_fz (ev_var rfl)) ev_c (hS.sqF (i := 4) rfl) (atI_map hx15)) ev_c (by decide))) ea_nil) ?_
    obtain ⟨h16, hm⟩ := R.wp_need hm
    refine k_rng1 h16.1 h16.2 ?_
    refine k_forF (τ := Threads × Index × (List (List Str))) (fun (s17 : Threads × Index × (List (List Str))) (σ : L2.St) (H : Hp) => ∃ (w20 w21 w22 w23 : Option V), σ = [some (.ref ad_v_law_script), some (.ref p2), some (.ref p4), some (.ref p5), some (.ref p8), some (.ref p13), w20, w21, w22, w23] ∧ Sep H ([listE lstA p13 (s17.2.2 : (List (List Str))), IndexA p8 s17.2.1, ThreadsA p5 s17.1, lstA p4 (r3 : (List Str)), lstA p2 (r1 : (List Int)), imA (.ref ad_v_law_script) v_law_script, F] : List (Asn G))) (im := (fun _ v (x : Int) => v = .int x)) (s := (r7, r10, y14)) (fun _ => wk_range) ⟨_, _, _, _, rfl, hS.sel [0, 1, 2, 3, 4, 5, 6] (by decide) rfl⟩ hm (fun s17 x18 v19 σ H q N B hI hx hm nx bk ho24 => ?_) (fun s17 σ H hm hI => ?_)
    ·
      obtain ⟨w20, w21, w22, w23, rfl, hS⟩ := hI
      cases hx
      refine c_gN (σ' := [some (.ref ad_v_law_script), some (.ref p2), some (.ref p4), some (.ref p5), some (.ref p8), some (.ref p13), some (.int (x18)), w21, w22, w23]) rfl ?_
      refine f_seq ?_
      refine c_asg ?_
      obtain ⟨x25, hx25, hm⟩ := wp_idx hm
      obtain ⟨h26, hm⟩ := R.wp_need hm
      obtain ⟨x27, hx27, hm⟩ := wp_idx hm
      refine ev_to (ev_ixSq (ev_fz (ev_var rfl)) (ev_mod (ev_ixSq (ev_fz (ev_var rfl)) (ev_add ev_c (ev_mul ev_c (ev_var rfl) (.inl (by constructor <;> decide)))) (hS.sqF (i := 4) rfl) (atI_map hx25)) (ev_lenLm (ev_fz (ev_var rfl)) (hS.sqF (i := 3) rfl)) h26) (hS.sqF (i := 3) rfl) (atI_map hx27)) ?_
      refine c_set (σ' := [some (.ref ad_v_law_script), some (.ref p2), some (.ref p4), some (.ref p5), some (.ref p8), some (.ref p13), some (.int (x18)), some (.str (x27)), w22, w23]) rfl ?_
      refine sq_nx ?_
      refine f_seq ?_
      refine c_asg ?_
      obtain ⟨x28, hx28, hm⟩ := wp_idx hm
      refine ev_to (ev_mod (ev_ixSq (ev_fz (ev_var rfl)) (ev_add ev_c (ev_mul ev_c (ev_var rfl) (.inl (by constructor <;> decide)))) (hS.sqF (i := 4) rfl) (atI_map hx28)) ev_c (by decide)) ?_
      obtain ⟨y29, hy29, hm⟩ := wp_let hm
      refine n_is (w := (.int (y29))) (by first | rw [hy29] | (subst hy29; rfl)) ?_
      refine c_set (σ' := [some (.ref ad_v_law_script), some (.ref p2), some (.ref p4), some (.ref p5), some (.ref p8), some (.ref p13), some (.int (x18)), some (.str (x27)), some (.int (y29)), w23]) rfl ?_
      refine sq_nx ?_
      refine f_seq ?_
      refine f_if ?_
      refine f_not ?_
      refine f_B ?_
      refine c_call ?_
      refine ea_to (ea_cons (ev_var rfl) (ea_cons (ev_var rfl) (ea_cons (ev_var rfl) (ea_cons (ev_var rfl) (ea_cons (ev_fz (ev_var rfl)) ea_nil))))) ?_
      refine ⟨y29, p5, (s17.1 : Threads), p8, (s17.2.1 : Index), x27, p13, (s17.2.2 : (List (List Str))), star [lstA p4 (r3 : (List Str)), lstA p2 (r1 : (List Int)), imA (.ref ad_v_law_script) v_law_script, F], rfl, Sep.unstar (M := [ThreadsA p5 s17.1, IndexA p8 s17.2.1, listE lstA p13 (s17.2.2 : (List (List Str)))]) (hS.sel [2, 1, 0, 3, 4, 5, 6] (by decide) rfl : Sep H (([ThreadsA p5 s17.1, IndexA p8 s17.2.1, listE lstA p13 (s17.2.2 : (List (List Str)))] ++ [lstA p4 (r3 : (List Str)), lstA p2 (r1 : (List Int)), imA (.ref ad_v_law_script) v_law_script, F] : List (Asn G)))), R.wp_mono (R.wp_bind hm) (fun r30 hm H hS => ?_) (fun _ z => z)⟩
      have hS : Sep H ([ThreadsA p5 r30.2.1, IndexA p8 r30.2.2.1, listE lstA p13 (r30.2.2.2 : (List (List Str))), lstA p4 (r3 : (List Str)), lstA p2 (r1 : (List Int)), imA (.ref ad_v_law_script) v_law_script, F] : List (Asn G)) := Sep.star (M := [ThreadsA p5 r30.2.1, IndexA p8 r30.2.2.1, listE lstA p13 (r30.2.2.2 : (List (List Str)))]) hS
      refine f_bl ?_
      refine f_nK ?_
      refine ifK_2 (fun hb31 => ?_) (fun hb31 => ?_)
      · have hm := R.wp_ifY hm hb31
        refine c_ret ?_
        refine ev_to ev_c ?_
        exact (ho24 _ hm) _ (hS.sel [6] (by decide) rfl)
      · have hm := R.wp_ifN hm (by first | (rw [hb31]; decide) | simpa using hb31)
        refine st_nx ?_
        refine sq_nx ?_
        refine f_seq ?_
        refine c_asg ?_
        refine c_op ?_
        refine c_fz ?_
        refine c_lst ?_
        refine ea_to (ea_cons ev_c (ea_cons ev_c (ea_cons ev_c (ea_cons ev_c (ea_cons ev_c (ea_cons ev_c (ea_cons ev_c ea_nil))))))) ?_
        refine k_lst (α := Int) (vs := [(.int (4)), (.int (5)), (.int (6)), (.int (4)), (.int (0)), (.int (1)), (.int (1))]) (xs := [4, 5, 6, 4, 0, 1, 1]) hS ⟨rfl, ⟨rfl, ⟨rfl, ⟨rfl, ⟨rfl, ⟨rfl, ⟨rfl, True.intro⟩⟩⟩⟩⟩⟩⟩ (by show 7 ≤ sizeLine; decide) fun p32 H hS => ?_
        refine fz_no ?_
        refine ev_to (ev_var rfl) ?_
        obtain ⟨x33, hx33, hm⟩ := wp_idx hm
        refine r_ixSq (hS.sqF (i := 0) rfl) (atI_map hx33) _ ?_
        refine c_set (σ' := [some (.ref ad_v_law_script), some (.ref p2), some (.ref p4), some (.ref p5), some (.ref p8), some (.ref p13), some (.int (x18)), some (.str (x27)), some (.int (y29)), some (.int (x33))]) rfl ?_
        refine sq_nx ?_
        refine f_seq ?_
        refine f_if ?_
        refine f_and ?_
        obtain ⟨x34, hx34, hm⟩ := wp_idx hm
        refine et_to (et_test (ev_eqI (ev_mod (ev_ixSq (ev_fz (ev_var rfl)) (ev_add ev_c (ev_mul ev_c (ev_var rfl) (.inl (by constructor <;> decide)))) (hS.sqF (i := 5) rfl) (atI_map hx34)) ev_c (by decide)) ev_c)) ?_
        refine andK_T (τ := Threads × Index × (List (List Str))) (s0 := (r30.2.1, r30.2.2.1, r30.2.2.2)) (fun (s35 : Threads × Index × (List (List Str))) => ([lstA p32 ([4, 5, 6, 4, 0, 1, 1] : (List Int)), ThreadsA p5 s35.1, IndexA p8 s35.2.1, listE lstA p13 (s35.2.2 : (List (List Str))), lstA p4 (r3 : (List Str)), lstA p2 (r1 : (List Int)), imA (.ref ad_v_law_script) v_law_script, F] : List (Asn G))) hm hS (fun hb q hm nx => ?_) (fun s35 b36 H hm hS => ?_)
        ·
          refine f_not ?_
          refine f_B ?_
          refine c_call ?_
          refine ea_to (ea_cons (ev_var rfl) (ea_cons (ev_var rfl) (ea_cons (ev_var rfl) (ea_cons (ev_var rfl) (ea_cons (ev_fz (ev_var rfl)) ea_nil))))) ?_
          refine ⟨x33, p5, (r30.2.1 : Threads), p8, (r30.2.2.1 : Index), x27, p13, (r30.2.2.2 : (List (List Str))), star [lstA p32 ([4, 5, 6, 4, 0, 1, 1] : (List Int)), lstA p4 (r3 : (List Str)), lstA p2 (r1 : (List Int)), imA (.ref ad_v_law_script) v_law_script, F], rfl, Sep.unstar (M := [ThreadsA p5 r30.2.1, IndexA p8 r30.2.2.1, listE lstA p13 (r30.2.2.2 : (List (List Str)))]) (hS.sel [1, 2, 3, 0, 4, 5, 6, 7] (by decide) rfl : Sep H (([ThreadsA p5 r30.2.1, IndexA p8 r30.2.2.1, listE lstA p13 (r30.2.2.2 : (List (List Str)))] ++ [lstA p32 ([4, 5, 6, 4, 0, 1, 1] : (List Int)), lstA p4 (r3 : (List Str)), lstA p2 (r1 : (List Int)), imA (.ref ad_v_law_script) v_law_script, F] : List (Asn G)))), R.wp_mono (R.wp_bind hm) (fun r37 hm H hS => ?_) (fun _ z => z)⟩
          have hS : Sep H ([ThreadsA p5 r37.2.1, IndexA p8 r37.2.2.1, listE lstA p13 (r37.2.2.2 : (List (List Str))), lstA p32 ([4, 5, 6, 4, 0, 1, 1] : (List Int)), lstA p4 (r3 : (List Str)), lstA p2 (r1 : (List Int)), imA (.ref ad_v_law_script) v_law_script, F] : List (Asn G)) := Sep.star (M := [ThreadsA p5 r37.2.1, IndexA p8 r37.2.2.1, listE lstA p13 (r37.2.2.2 : (List (List Str)))]) hS
          refine f_bl ?_
          refine f_nK ?_
          exact nx (r37.2.1, r37.2.2.1, r37.2.2.2) _ _ hm (hS.sel [3, 0, 1, 2, 4, 5, 6, 7] (by decide) rfl)
        ·
          refine ifK_2 (fun hb38 => ?_) (fun hb38 => ?_)
          · have hm := R.wp_ifY hm hb38
            refine c_ret ?_
            refine ev_to ev_c ?_
            exact (ho24 _ hm) _ (hS.sel [7] (by decide) rfl)
          · have hm := R.wp_ifN hm (by first | (rw [hb38]; decide) | simpa using hb38)
            refine st_nx ?_
            refine sq_nx ?_
            refine f_seq ?_
            refine f_if ?_
            refine f_or ?_
            refine f_test ?_
            refine c_op ?_
            refine c_fz ?_
            refine c_meth ?_
            refine ev_to (ev_var rfl) ?_
            obtain ⟨d39, _, _, _, _, hO40⟩ := ins_Threads hS (i := 1) rfl
            refine ⟨_, _, _, rfl, hO40, rfl, ?_⟩
            refine ea_to ea_nil ?_
            refine ⟨p5, (s35.1 : Threads), star [lstA p32 ([4, 5, 6, 4, 0, 1, 1] : (List Int)), IndexA p8 s35.2.1, listE lstA p13 (s35.2.2 : (List (List Str))), lstA p4 (r3 : (List Str)), lstA p2 (r1 : (List Int)), imA (.ref ad_v_law_script) v_law_script, F], rfl, Sep.unstar (M := [ThreadsA p5 s35.1]) (hS.sel [1, 0, 2, 3, 4, 5, 6, 7] (by decide) rfl : Sep H (([ThreadsA p5 s35.1] ++ [lstA p32 ([4, 5, 6, 4, 0, 1, 1] : (List Int)), IndexA p8 s35.2.1, listE lstA p13 (s35.2.2 : (List (List Str))), lstA p4 (r3 : (List Str)), lstA p2 (r1 : (List Int)), imA (.ref ad_v_law_script) v_law_script, F] : List (Asn G)))), R.wp_mono (R.wp_bind hm) (fun r41 hm p42 H hS => ?_) (fun _ z => z)⟩
            have hS : Sep H ([lstA p42 (r41 : (List Str)), ThreadsA p5 s35.1, lstA p32 ([4, 5, 6, 4, 0, 1, 1] : (List Int)), IndexA p8 s35.2.1, listE lstA p13 (s35.2.2 : (List (List Str))), lstA p4 (r3 : (List Str)), lstA p2 (r1 : (List Int)), imA (.ref ad_v_law_script) v_law_script, F] : List (Asn G)) := Sep.star (M := [lstA p42 (r41 : (List Str)), ThreadsA p5 s35.1]) hS
            refine fz_no ?_
            refine c_fz ?_
            refine c_cb ?_
            refine c_cons ?_
            refine c_fz ?_
            refine c_op ?_
            refine ev_to (ev_fz (ev_var rfl)) ?_
            refine ev_to ev_c ?_
            obtain ⟨j43, x44, hx44, hm⟩ := wp_ixJ hm
            refine ixK (x := (x44 : (List Str))) (hS.sel [4, 0, 1, 2, 3, 5, 6, 7, 8] (by decide) rfl : Sep H (listE lstA p13 (s35.2.2 : (List (List Str))) :: [lstA p42 (r41 : (List Str)), ThreadsA p5 s35.1, lstA p32 ([4, 5, 6, 4, 0, 1, 1] : (List Int)), IndexA p8 s35.2.1, lstA p4 (r3 : (List Str)), lstA p2 (r1 : (List Int)), imA (.ref ad_v_law_script) v_law_script, F] : List (Asn G))) hx44 fun ps45 p46 hl47 hp48 hS => ?_
            have hS : Sep H ([lstA p46 (x44 : (List Str)), listH lstA p13 ps45 (s35.2.2 : (List (List Str))) j43, lstA p42 (r41 : (List Str)), ThreadsA p5 s35.1, lstA p32 ([4, 5, 6, 4, 0, 1, 1] : (List Int)), IndexA p8 s35.2.1, lstA p4 (r3 : (List Str)), lstA p2 (r1 : (List Int)), imA (.ref ad_v_law_script) v_law_script, F] : List (Asn G)) := hS
            refine fz_no ?_
            refine c_nil ?_
            obtain ⟨h50, hm⟩ := R.wp_need hm
            refine k_sorted hS (hS.sqF (i := 0) rfl) h50 fun p49 H hS => ?_
            refine fz_no ?_
            obtain ⟨h51, hm⟩ := R.wp_need hm
            obtain ⟨h52, hm⟩ := R.wp_need hm
            refine ev_op2 (ev_neP (G := G) (x := (r41 : (List Str))) (y := sortT x44) ev_c ev_c (dpOwn hS (i := 3) rfl) (dpOwn hS (i := 0) rfl) h51 h52 (Nat.le_of_ble_eq_true rfl)) ?_
            refine f_bl ?_
            have hS : Sep H ([listE lstA p13 (s35.2.2 : (List (List Str))), lstA p49 (sortT x44 : (List Str)), lstA p42 (r41 : (List Str)), ThreadsA p5 s35.1, lstA p32 ([4, 5, 6, 4, 0, 1, 1] : (List Int)), IndexA p8 s35.2.1, lstA p4 (r3 : (List Str)), lstA p2 (r1 : (List Int)), imA (.ref ad_v_law_script) v_law_script, F] : List (Asn G)) := unfocus0 hl47 hp48 hx44.2 (hS.sel [1, 2, 0, 3, 4, 5, 6, 7, 8, 9, 10] (by decide) rfl)
            refine orK_J hm hS (fun hb q hm nx => ?_) (fun b53 H hm hS => ?_)
            ·
              refine f_test ?_
              refine c_op ?_
              refine c_fz ?_
              refine c_meth ?_
              refine ev_to (ev_var rfl) ?_
              obtain ⟨d54, _, _, hO55⟩ := ins_Index hS (i := 5) rfl
              refine ⟨_, _, _, rfl, hO55, rfl, ?_⟩
              refine ea_to (ea_cons ev_c ea_nil) ?_
              refine ⟨p8, (s35.2.1 : Index), ("rent" : Str), star [listE lstA p13 (s35.2.2 : (List (List Str))), lstA p49 (sortT x44 : (List Str)), lstA p42 (r41 : (List Str)), ThreadsA p5 s35.1, lstA p32 ([4, 5, 6, 4, 0, 1, 1] : (List Int)), lstA p4 (r3 : (List Str)), lstA p2 (r1 : (List Int)), imA (.ref ad_v_law_script) v_law_script, F], rfl, Sep.unstar (M := [IndexA p8 s35.2.1]) (hS.sel [5, 0, 1, 2, 3, 4, 6, 7, 8, 9] (by decide) rfl : Sep H (([IndexA p8 s35.2.1] ++ [listE lstA p13 (s35.2.2 : (List (List Str))), lstA p49 (sortT x44 : (List Str)), lstA p42 (r41 : (List Str)), ThreadsA p5 s35.1, lstA p32 ([4, 5, 6, 4, 0, 1, 1] : (List Int)), lstA p4 (r3 : (List Str)), lstA p2 (r1 : (List Int)), imA (.ref ad_v_law_script) v_law_script, F] : List (Asn G)))), R.wp_mono (R.wp_bind hm) (fun r56 hm p57 H hS => ?_) (fun _ z => z)⟩
              have hS : Sep H ([lstA p57 (r56 : (List Str)), IndexA p8 s35.2.1, listE lstA p13 (s35.2.2 : (List (List Str))), lstA p49 (sortT x44 : (List Str)), lstA p42 (r41 : (List Str)), ThreadsA p5 s35.1, lstA p32 ([4, 5, 6, 4, 0, 1, 1] : (List Int)), lstA p4 (r3 : (List Str)), lstA p2 (r1 : (List Int)), imA (.ref ad_v_law_script) v_law_script, F] : List (Asn G)) := Sep.star (M := [lstA p57 (r56 : (List Str)), IndexA p8 s35.2.1]) hS
              refine fz_no ?_
              refine c_fz ?_
              refine c_cb ?_
              refine c_cons ?_
              refine c_fz ?_
              refine c_op ?_
              refine ev_to (ev_fz (ev_var rfl)) ?_
              refine ev_to ev_c ?_
              obtain ⟨j58, x59, hx59, hm⟩ := wp_ixJ hm
              refine ixK (x := (x59 : (List Str))) (hS.sel [2, 0, 1, 3, 4, 5, 6, 7, 8, 9, 10] (by decide) rfl : Sep H (listE lstA p13 (s35.2.2 : (List (List Str))) :: [lstA p57 (r56 : (List Str)), IndexA p8 s35.2.1, lstA p49 (sortT x44 : (List Str)), lstA p42 (r41 : (List Str)), ThreadsA p5 s35.1, lstA p32 ([4, 5, 6, 4, 0, 1, 1] : (List Int)), lstA p4 (r3 : (List Str)), lstA p2 (r1 : (List Int)), imA (.ref ad_v_law_script) v_law_script, F] : List (Asn G))) hx59 fun ps60 p61 hl62 hp63 hS => ?_
              have hS : Sep H ([lstA p61 (x59 : (List Str)), listH lstA p13 ps60 (s35.2.2 : (List (List Str))) j58, lstA p57 (r56 : (List Str)), IndexA p8 s35.2.1, lstA p49 (sortT x44 : (List Str)), lstA p42 (r41 : (List Str)), ThreadsA p5 s35.1, lstA p32 ([4, 5, 6, 4, 0, 1, 1] : (List Int)), lstA p4 (r3 : (List Str)), lstA p2 (r1 : (List Int)), imA (.ref ad_v_law_script) v_law_script, F] : List (Asn G)) := hS
              refine fz_no ?_
              refine c_nil ?_
              obtain ⟨h65, hm⟩ := R.wp_need hm
              refine k_sorted hS (hS.sqF (i := 0) rfl) h65 fun p64 H hS => ?_
              refine fz_no ?_
              obtain ⟨h66, hm⟩ := R.wp_need hm
              obtain ⟨h67, hm⟩ := R.wp_need hm
              refine ev_op2 (ev_neP (G := G) (x := (r56 : (List Str))) (y := sortT x59) ev_c ev_c (dpOwn hS (i := 3) rfl) (dpOwn hS (i := 0) rfl) h66 h67 (Nat.le_of_ble_eq_true rfl)) ?_
              refine f_bl ?_
              have hS : Sep H ([listE lstA p13 (s35.2.2 : (List (List Str))), lstA p64 (sortT x59 : (List Str)), lstA p57 (r56 : (List Str)), IndexA p8 s35.2.1, lstA p49 (sortT x44 : (List Str)), lstA p42 (r41 : (List Str)), ThreadsA p5 s35.1, lstA p32 ([4, 5, 6, 4, 0, 1, 1] : (List Int)), lstA p4 (r3 : (List Str)), lstA p2 (r1 : (List Int)), imA (.ref ad_v_law_script) v_law_script, F] : List (Asn G)) := unfocus0 hl62 hp63 hx59.2 (hS.sel [1, 2, 0, 3, 4, 5, 6, 7, 8, 9, 10, 11, 12] (by decide) rfl)
              exact nx _ _ hm (hS.sel [0, 4, 5, 6, 7, 3, 8, 9, 10, 11] (by decide) rfl)
            ·
              refine ifK_2 (fun hb68 => ?_) (fun hb68 => ?_)
              · have hm := R.wp_ifY hm hb68
                refine c_ret ?_
                refine ev_to ev_c ?_
                exact (ho24 _ hm) _ (hS.sel [9] (by decide) rfl)
              · have hm := R.wp_ifN hm (by first | (rw [hb68]; decide) | simpa using hb68)
                refine st_nx ?_
                refine sq_nx ?_
                refine f_seq ?_
                refine f_if ?_
                refine f_or ?_
                refine f_test ?_
                refine c_op ?_
                refine c_fz ?_
                refine c_meth ?_
                refine ev_to (ev_var rfl) ?_
                obtain ⟨d69, _, _, _, _, hO70⟩ := ins_Threads hS (i := 3) rfl
                refine ⟨_, _, _, rfl, hO70, rfl, ?_⟩
                refine ea_to (ea_cons ev_c ea_nil) ?_
                refine ⟨p5, (s35.1 : Threads), ("zother" : Str), star [listE lstA p13 (s35.2.2 : (List (List Str))), lstA p49 (sortT x44 : (List Str)), lstA p42 (r41 : (List Str)), lstA p32 ([4, 5, 6, 4, 0, 1, 1] : (List Int)), IndexA p8 s35.2.1, lstA p4 (r3 : (List Str)), lstA p2 (r1 : (List Int)), imA (.ref ad_v_law_script) v_law_script, F], rfl, Sep.unstar (M := [ThreadsA p5 s35.1]) (hS.sel [3, 0, 1, 2, 4, 5, 6, 7, 8, 9] (by decide) rfl : Sep H (([ThreadsA p5 s35.1] ++ [listE lstA p13 (s35.2.2 : (List (List Str))), lstA p49 (sortT x44 : (List Str)), lstA p42 (r41 : (List Str)), lstA p32 ([4, 5, 6, 4, 0, 1, 1] : (List Int)), IndexA p8 s35.2.1, lstA p4 (r3 : (List Str)), lstA p2 (r1 : (List Int)), imA (.ref ad_v_law_script) v_law_script, F] : List (Asn G)))), R.wp_mono (R.wp_bind hm) (fun r71 hm p72 H hS => ?_) (fun _ z => z)⟩
                have hS : Sep H ([lstA p72 (r71 : (List Str)), ThreadsA p5 s35.1, listE lstA p13 (s35.2.2 : (List (List Str))), lstA p49 (sortT x44 : (List Str)), lstA p42 (r41 : (List Str)), lstA p32 ([4, 5, 6, 4, 0, 1, 1] : (List Int)), IndexA p8 s35.2.1, lstA p4 (r3 : (List Str)), lstA p2 (r1 : (List Int)), imA (.ref ad_v_law_script) v_law_script, F] : List (Asn G)) := Sep.star (M := [lstA p72 (r71 : (List Str)), ThreadsA p5 s35.1]) hS
                refine fz_no ?_
                refine c_fz ?_
                refine c_lst ?_
                refine ea_to ea_nil ?_
                refine k_lst (α := Str) (vs := []) (xs := ([] : (List Str))) hS True.intro (by show 0 ≤ sizeLine; decide) fun p73 H hS => ?_
                refine fz_no ?_
                obtain ⟨h74, hm⟩ := R.wp_need hm
                obtain ⟨h75, hm⟩ := R.wp_need hm
                refine ev_op2 (ev_neP (G := G) (x := (r71 : (List Str))) (y := ([] : (List Str))) ev_c ev_c (dpOwn hS (i := 1) rfl) (dpOwn hS (i := 0) rfl) h74 h75 (Nat.le_of_ble_eq_true rfl)) ?_
                refine f_bl ?_
                refine orK_J hm hS (fun hb q hm nx => ?_) (fun b76 H hm hS => ?_)
                ·
                  refine f_or ?_
                  refine f_test ?_
                  refine c_op ?_
                  refine c_fz ?_
                  refine c_meth ?_
                  refine ev_to (ev_var rfl) ?_
                  obtain ⟨d77, _, _, hO78⟩ := ins_Index hS (i := 7) rfl
                  refine ⟨_, _, _, rfl, hO78, rfl, ?_⟩
                  refine ea_to (ea_cons ev_c ea_nil) ?_
                  refine ⟨p8, (s35.2.1 : Index), ("zother" : Str), star [lstA p73 (([] : (List Str)) : (List Str)), lstA p72 (r71 : (List Str)), ThreadsA p5 s35.1, listE lstA p13 (s35.2.2 : (List (List Str))), lstA p49 (sortT x44 : (List Str)), lstA p42 (r41 : (List Str)), lstA p32 ([4, 5, 6, 4, 0, 1, 1] : (List Int)), lstA p4 (r3 : (List Str)), lstA p2 (r1 : (List Int)), imA (.ref ad_v_law_script) v_law_script, F], rfl, Sep.unstar (M := [IndexA p8 s35.2.1]) (hS.sel [7, 0, 1, 2, 3, 4, 5, 6, 8, 9, 10, 11] (by decide) rfl : Sep H (([IndexA p8 s35.2.1] ++ [lstA p73 (([] : (List Str)) : (List Str)), lstA p72 (r71 : (List Str)), ThreadsA p5 s35.1, listE lstA p13 (s35.2.2 : (List (List Str))), lstA p49 (sortT x44 : (List Str)), lstA p42 (r41 : (List Str)), lstA p32 ([4, 5, 6, 4, 0, 1, 1] : (List Int)), lstA p4 (r3 : (List Str)), lstA p2 (r1 : (List Int)), imA (.ref ad_v_law_script) v_law_script, F] : List (Asn G)))), R.wp_mono (R.wp_bind hm) (fun r79 hm p80 H hS => ?_) (fun _ z => z)⟩
                  have hS : Sep H ([lstA p80 (r79 : (List Str)), IndexA p8 s35.2.1, lstA p73 (([] : (List Str)) : (List Str)), lstA p72 (r71 : (List Str)), ThreadsA p5 s35.1, listE lstA p13 (s35.2.2 : (List (List Str))), lstA p49 (sortT x44 : (List Str)), lstA p42 (r41 : (List Str)), lstA p32 ([4, 5, 6, 4, 0, 1, 1] : (List Int)), lstA p4 (r3 : (List Str)), lstA p2 (r1 : (List Int)), imA (.ref ad_v_law_script) v_law_script, F] : List (Asn G)) := Sep.star (M := [lstA p80 (r79 : (List Str)), IndexA p8 s35.2.1]) hS
                  refine fz_no ?_
                  refine c_fz ?_
                  refine c_lst ?_
                  refine ea_to ea_nil ?_
                  refine k_lst (α := Str) (vs := []) (xs := ([] : (List Str))) hS True.intro (by show 0 ≤ sizeLine; decide) fun p81 H hS => ?_
                  refine fz_no ?_
                  obtain ⟨h82, hm⟩ := R.wp_need hm
                  obtain ⟨h83, hm⟩ := R.wp_need hm
                  refine ev_op2 (ev_neP (G := G) (x := (r79 : (List Str))) (y := ([] : (List Str))) ev_c ev_c (dpOwn hS (i := 1) rfl) (dpOwn hS (i := 0) rfl) h82 h83 (Nat.le_of_ble_eq_true rfl)) ?_
                  refine f_bl ?_
                  refine orK_J hm hS (fun hb q hm nx => ?_) (fun b84 H hm hS => ?_)
                  ·
                    refine f_test ?_
                    refine c_op ?_
                    refine ev_to ev_c ?_
                    refine c_fz ?_
                    refine c_meth ?_
                    refine ev_to (ev_var rfl) ?_
                    obtain ⟨d85, _, _, hO86⟩ := ins_Index hS (i := 2) rfl
                    refine ⟨_, _, _, rfl, hO86, rfl, ?_⟩
                    refine ea_to ea_nil ?_
                    refine ⟨p8, (s35.2.1 : Index), star [lstA p81 (([] : (List Str)) : (List Str)), lstA p80 (r79 : (List Str)), lstA p73 (([] : (List Str)) : (List Str)), lstA p72 (r71 : (List Str)), ThreadsA p5 s35.1, listE lstA p13 (s35.2.2 : (List (List Str))), lstA p49 (sortT x44 : (List Str)), lstA p42 (r41 : (List Str)), lstA p32 ([4, 5, 6, 4, 0, 1, 1] : (List Int)), lstA p4 (r3 : (List Str)), lstA p2 (r1 : (List Int)), imA (.ref ad_v_law_script) v_law_script, F], rfl, Sep.unstar (M := [IndexA p8 s35.2.1]) (hS.sel [2, 0, 1, 3, 4, 5, 6, 7, 8, 9, 10, 11, 12, 13] (by decide) rfl : Sep H (([IndexA p8 s35.2.1] ++ [lstA p81 (([] : (List Str)) : (List Str)), lstA p80 (r79 : (List Str)), lstA p73 (([] : (List Str)) : (List Str)), lstA p72 (r71 : (List Str)), ThreadsA p5 s35.1, listE lstA p13 (s35.2.2 : (List (List Str))), lstA p49 (sortT x44 : (List Str)), lstA p42 (r41 : (List Str)), lstA p32 ([4, 5, 6, 4, 0, 1, 1] : (List Int)), lstA p4 (r3 : (List Str)), lstA p2 (r1 : (List Int)), imA (.ref ad_v_law_script) v_law_script, F] : List (Asn G)))), R.wp_mono (R.wp_bind hm) (fun r87 hm p88 H hS => ?_) (fun _ z => z)⟩
                    have hS : Sep H ([lstA p88 (r87 : (List Str)), IndexA p8 s35.2.1, lstA p81 (([] : (List Str)) : (List Str)), lstA p80 (r79 : (List Str)), lstA p73 (([] : (List Str)) : (List Str)), lstA p72 (r71 : (List Str)), ThreadsA p5 s35.1, listE lstA p13 (s35.2.2 : (List (List Str))), lstA p49 (sortT x44 : (List Str)), lstA p42 (r41 : (List Str)), lstA p32 ([4, 5, 6, 4, 0, 1, 1] : (List Int)), lstA p4 (r3 : (List Str)), lstA p2 (r1 : (List Int)), imA (.ref ad_v_law_script) v_law_script, F] : List (Asn G)) := Sep.star (M := [lstA p88 (r87 : (List Str)), IndexA p8 s35.2.1]) hS
                    refine fz_no ?_
                    refine ev_op2 (ev_inL hS (i := 0) rfl ev_c ev_c) ?_
                    refine f_bl ?_
                    exact nx _ _ hm (hS.sel [2, 3, 1, 4, 5, 6, 7, 8, 9, 10, 11, 12, 13, 14] (by decide) rfl)
                  ·
                    exact nx _ _ hm (hS.sel [3, 4, 5, 6, 7, 8, 9, 2, 10, 11, 12, 13] (by decide) rfl)
                ·
                  refine ifK_2 (fun hb89 => ?_) (fun hb89 => ?_)
                  · have hm := R.wp_ifY hm hb89
                    refine c_ret ?_
                    refine ev_to ev_c ?_
                    exact (ho24 _ hm) _ (hS.sel [11] (by decide) rfl)
                  · have hm := R.wp_ifN hm (by first | (rw [hb89]; decide) | simpa using hb89)
                    refine st_nx ?_
                    refine sq_nx ?_
                    refine f_if ?_
                    refine f_and ?_
                    obtain ⟨x90, hx90, hm⟩ := wp_idx hm
                    refine et_to (et_test (ev_i0 (ev_mod (ev_ixSq (ev_fz (ev_var rfl)) (ev_add ev_c (ev_mul ev_c (ev_var rfl) (.inl (by constructor <;> decide)))) (hS.sqF (i := 9) rfl) (atI_map hx90)) ev_c (by decide)) ev_c)) ?_
                    refine andK_T (τ := Threads × Index × (List (List Str))) (s0 := (s35.1, s35.2.1, s35.2.2)) (fun (s91 : Threads × Index × (List (List Str))) => ([lstA p73 (([] : (List Str)) : (List Str)), lstA p72 (r71 : (List Str)), ThreadsA p5 s91.1, listE lstA p13 (s91.2.2 : (List (List Str))), lstA p49 (sortT x44 : (List Str)), lstA p42 (r41 : (List Str)), lstA p32 ([4, 5, 6, 4, 0, 1, 1] : (List Int)), IndexA p8 s91.2.1, lstA p4 (r3 : (List Str)), lstA p2 (r1 : (List Int)), imA (.ref ad_v_law_script) v_law_script, F] : List (Asn G))) hm hS (fun hb q hm nx => ?_) (fun s91 b92 H hm hS => ?_)
                    ·
                      refine f_not ?_
                      refine f_B ?_
                      refine c_call ?_
                      refine ea_to (ea_cons (ev_var rfl) (ea_cons (ev_var rfl) (ea_cons (ev_var rfl) (ea_cons (ev_var rfl) (ea_cons (ev_fz (ev_var rfl)) ea_nil))))) ?_
                      refine ⟨y29, p5, (s35.1 : Threads), p8, (s35.2.1 : Index), x27, p13, (s35.2.2 : (List (List Str))), star [lstA p73 (([] : (List Str)) : (List Str)), lstA p72 (r71 : (List Str)), lstA p49 (sortT x44 : (List Str)), lstA p42 (r41 : (List Str)), lstA p32 ([4, 5, 6, 4, 0, 1, 1] : (List Int)), lstA p4 (r3 : (List Str)), lstA p2 (r1 : (List Int)), imA (.ref ad_v_law_script) v_law_script, F], rfl, Sep.unstar (M := [ThreadsA p5 s35.1, IndexA p8 s35.2.1, listE lstA p13 (s35.2.2 : (List (List Str)))]) (hS.sel [2, 7, 3, 0, 1, 4, 5, 6, 8, 9, 10, 11] (by decide) rfl : Sep H (([ThreadsA p5 s35.1, IndexA p8 s35.2.1, listE lstA p13 (s35.2.2 : (List (List Str)))] ++ [lstA p73 (([] : (List Str)) : (List Str)), lstA p72 (r71 : (List Str)), lstA p49 (sortT x44 : (List Str)), lstA p42 (r41 : (List Str)), lstA p32 ([4, 5, 6, 4, 0, 1, 1] : (List Int)), lstA p4 (r3 : (List Str)), lstA p2 (r1 : (List Int)), imA (.ref ad_v_law_script) v_law_script, F] : List (Asn G)))), R.wp_mono (R.wp_bind hm) (fun r93 hm H hS => ?_) (fun _ z => z)⟩
                      have hS : Sep H ([ThreadsA p5 r93.2.1, IndexA p8 r93.2.2.1, listE lstA p13 (r93.2.2.2 : (List (List Str))), lstA p73 (([] : (List Str)) : (List Str)), lstA p72 (r71 : (List Str)), lstA p49 (sortT x44 : (List Str)), lstA p42 (r41 : (List Str)), lstA p32 ([4, 5, 6, 4, 0, 1, 1] : (List Int)), lstA p4 (r3 : (List Str)), lstA p2 (r1 : (List Int)), imA (.ref ad_v_law_script) v_law_script, F] : List (Asn G)) := Sep.star (M := [ThreadsA p5 r93.2.1, IndexA p8 r93.2.2.1, listE lstA p13 (r93.2.2.2 : (List (List Str)))]) hS
                      refine f_bl ?_
                      refine f_nK ?_
                      exact nx (r93.2.1, r93.2.2.1, r93.2.2.2) _ _ hm (hS.sel [3, 4, 0, 2, 5, 6, 7, 1, 8, 9, 10, 11] (by decide) rfl)
                    ·
                      refine ifK_2 (fun hb94 => ?_) (fun hb94 => ?_)
                      · have hm := R.wp_ifY hm hb94
                        refine c_ret ?_
                        refine ev_to ev_c ?_
                        exact (ho24 _ hm) _ (hS.sel [11] (by decide) rfl)
                      · have hm := R.wp_ifN hm (by first | (rw [hb94]; decide) | simpa using hb94)
                        refine st_nx ?_
                        exact nx _ _ _ hm ⟨_, _, _, _, rfl, hS.sel [3, 7, 2, 8, 9, 10, 11] (by decide) rfl⟩
    · obtain ⟨w20, w21, w22, w23, rfl, hS⟩ := hI
      refine sq_nx ?_
      refine f_seq ?_
      refine c_for ?_
      refine c_il ?_
      refine c_fz ?_
      refine c_lst ?_
      refine ea_to (ea_cons ev_c (ea_cons ev_c (ea_cons ev_c (ea_cons ev_c (ea_cons ev_c ea_nil))))) ?_
      refine k_lst (α := Int) (vs := [(.int (1)), (.int (2)), (.int (3)), (.int (5)), (.int (6))]) (xs := [1, 2, 3, 5, 6]) hS ⟨rfl, ⟨rfl, ⟨rfl, ⟨rfl, ⟨rfl, True.intro⟩⟩⟩⟩⟩ (by show 5 ≤ sizeLine; decide) fun p95 H hS => ?_
      refine fz_no ?_
      refine k_il hS (i := 0) rfl ?_
      refine k_forF (τ := Threads × Index) (fun (s96 : Threads × Index) (σ : L2.St) (H : Hp) => ∃ (w99 : Option V), σ = [some (.ref ad_v_law_script), some (.ref p2), some (.ref p4), some (.ref p5), some (.ref p8), some (.ref p13), w20, w21, w99, w23] ∧ Sep H ([lstA p95 ([1, 2, 3, 5, 6] : (List Int)), listE lstA p13 (s17.2.2 : (List (List Str))), IndexA p8 s96.2, ThreadsA p5 s96.1, lstA p4 (r3 : (List Str)), lstA p2 (r1 : (List Int)), imA (.ref ad_v_law_script) v_law_script, F] : List (Asn G))) (im := (Im.im G)) (s := (s17.1, s17.2.1)) (fun _ => wk_list fun _ _ ⟨_, _, h⟩ => h.sq (i := 0) rfl) ⟨_, rfl, hS.sel [0, 1, 2, 3, 4, 5, 6, 7] (by decide) rfl⟩ hm (fun s96 x97 v98 σ H q N B hI hx hm nx bk ho100 => ?_) (fun s96 σ H hm hI => ?_)
      ·
        obtain ⟨w99, rfl, hS⟩ := hI
        cases hx
        refine c_gN (σ' := [some (.ref ad_v_law_script), some (.ref p2), some (.ref p4), some (.ref p5), some (.ref p8), some (.ref p13), w20, w21, some (.int (x97)), w23]) rfl ?_
        refine f_if ?_
        refine f_not ?_
        refine f_B ?_
        refine c_call ?_
        refine c_cons ?_
        refine ev_to (ev_var rfl) ?_
        refine c_cons ?_
        refine ev_to (ev_var rfl) ?_
        refine c_cons ?_
        refine ev_to (ev_var rfl) ?_
        refine c_cons ?_
        refine c_op ?_
        refine c_fz ?_
        refine c_lst ?_
        refine ea_to (ea_cons ev_c (ea_cons ev_c (ea_cons ev_c ea_nil))) ?_
        refine k_lst (α := Any) (vs := [.non, (.int (0)), (.int (7))]) (xs := [Any.non, (Any.int 0), (Any.int 7)]) hS ⟨(any_non.mpr rfl), ⟨(any_int.mpr rfl), ⟨(any_int.mpr rfl), True.intro⟩⟩⟩ (by show 3 ≤ sizeLine; decide) fun p101 H hS => ?_
        refine fz_no ?_
        obtain ⟨x102, hx102, hm⟩ := wp_idx hm
        obtain ⟨h103, hm⟩ := R.wp_need hm
        refine ev_to (ev_mod (ev_fdiv (ev_ixSq (ev_fz (ev_var rfl)) ev_c (hS.sqF (i := 6) rfl) (atI_map hx102)) (ev_add ev_c (ev_var rfl)) h103) ev_c (by decide)) ?_
        obtain ⟨x104, hx104, hm⟩ := wp_idx hm
        obtain ⟨vs105, hq106, hM107⟩ := hS.sq (i := 0) rfl
        obtain ⟨u108, hu109, hi110⟩ := atI_im hM107 hx104
        refine r_ixSq hq106 hu109 _ ?_
        have hS := hS.addIm (v := u108) (x := (x104 : Any)) hi110
        refine c_nil ?_
        refine ⟨x97, p5, (s96.1 : Threads), p8, (s96.2 : Index), u108, (x104 : Any), star [imA u108 (x104 : Any), lstA p101 ([Any.non, (Any.int 0), (Any.int 7)] : (List Any)), lstA p95 ([1, 2, 3, 5, 6] : (List Int)), listE lstA p13 (s17.2.2 : (List (List Str))), lstA p4 (r3 : (List Str)), lstA p2 (r1 : (List Int)), imA (.ref ad_v_law_script) v_law_script, F], rfl, (hS.im (i := 0) rfl), Sep.unstar (M := [ThreadsA p5 s96.1, IndexA p8 s96.2]) (hS.sel [5, 4, 0, 1, 2, 3, 6, 7, 8, 9] (by decide) rfl : Sep H (([ThreadsA p5 s96.1, IndexA p8 s96.2] ++ [imA u108 (x104 : Any), lstA p101 ([Any.non, (Any.int 0), (Any.int 7)] : (List Any)), lstA p95 ([1, 2, 3, 5, 6] : (List Int)), listE lstA p13 (s17.2.2 : (List (List Str))), lstA p4 (r3 : (List Str)), lstA p2 (r1 : (List Int)), imA (.ref ad_v_law_script) v_law_script, F] : List (Asn G)))), R.wp_mono (R.wp_bind hm) (fun r112 hm H hS => ?_) (fun _ z => z)⟩
        have hS : Sep H ([ThreadsA p5 r112.2.1, IndexA p8 r112.2.2, imA u108 (x104 : Any), lstA p101 ([Any.non, (Any.int 0), (Any.int 7)] : (List Any)), lstA p95 ([1, 2, 3, 5, 6] : (List Int)), listE lstA p13 (s17.2.2 : (List (List Str))), lstA p4 (r3 : (List Str)), lstA p2 (r1 : (List Int)), imA (.ref ad_v_law_script) v_law_script, F] : List (Asn G)) := Sep.star (M := [ThreadsA p5 r112.2.1, IndexA p8 r112.2.2]) hS
        refine f_bl ?_
        refine f_nK ?_
        refine ifK_2 (fun hb113 => ?_) (fun hb113 => ?_)
        · have hm := R.wp_ifY hm hb113
          refine c_ret ?_
          refine ev_to ev_c ?_
          exact (ho100 _ hm) _ (hS.sel [9] (by decide) rfl)
        · have hm := R.wp_ifN hm (by first | (rw [hb113]; decide) | simpa using hb113)
          refine st_nx ?_
          exact nx _ _ _ hm ⟨_, rfl, hS.sel [4, 5, 1, 0, 6, 7, 8, 9] (by decide) rfl⟩
      · obtain ⟨w99, rfl, hS⟩ := hI
        refine sq_nx ?_
        refine f_seq ?_
        refine f_if ?_
        refine f_test ?_
        refine c_op ?_
        refine c_fz ?_
        refine c_meth ?_
        refine ev_to (ev_var rfl) ?_
        obtain ⟨d114, _, _, _, _, hO115⟩ := ins_Threads hS (i := 3) rfl
        refine ⟨_, _, _, rfl, hO115, rfl, ?_⟩
        refine ea_to ea_nil ?_
        refine ⟨p5, (s96.1 : Threads), star [lstA p95 ([1, 2, 3, 5, 6] : (List Int)), listE lstA p13 (s17.2.2 : (List (List Str))), IndexA p8 s96.2, lstA p4 (r3 : (List Str)), lstA p2 (r1 : (List Int)), imA (.ref ad_v_law_script) v_law_script, F], rfl, Sep.unstar (M := [ThreadsA p5 s96.1]) (hS.sel [3, 0, 1, 2, 4, 5, 6, 7] (by decide) rfl : Sep H (([ThreadsA p5 s96.1] ++ [lstA p95 ([1, 2, 3, 5, 6] : (List Int)), listE lstA p13 (s17.2.2 : (List (List Str))), IndexA p8 s96.2, lstA p4 (r3 : (List Str)), lstA p2 (r1 : (List Int)), imA (.ref ad_v_law_script) v_law_script, F] : List (Asn G)))), R.wp_mono (R.wp_bind hm) (fun r116 hm p117 H hS => ?_) (fun _ z => z)⟩
        have hS : Sep H ([lstA p117 (r116 : (List (List Str))), ThreadsA p5 s96.1, lstA p95 ([1, 2, 3, 5, 6] : (List Int)), listE lstA p13 (s17.2.2 : (List (List Str))), IndexA p8 s96.2, lstA p4 (r3 : (List Str)), lstA p2 (r1 : (List Int)), imA (.ref ad_v_law_script) v_law_script, F] : List (Asn G)) := Sep.star (M := [lstA p117 (r116 : (List (List Str))), ThreadsA p5 s96.1]) hS
        refine fz_no ?_
        refine c_fz ?_
        refine c_lc ?_
        refine c_il ?_
        refine c_fz ?_
        refine c_cb ?_
        refine c_cons ?_
        refine c_fz ?_
        refine c_op ?_
        refine ev_to (ev_fz (ev_var rfl)) ?_
        refine ev_to ev_c ?_
        obtain ⟨j118, x119, hx119, hm⟩ := wp_ixJ hm
        refine ixK (x := (x119 : (List Str))) (hS.sel [3, 0, 1, 2, 4, 5, 6, 7, 8] (by decide) rfl : Sep H (listE lstA p13 (s17.2.2 : (List (List Str))) :: [lstA p117 (r116 : (List (List Str))), ThreadsA p5 s96.1, lstA p95 ([1, 2, 3, 5, 6] : (List Int)), IndexA p8 s96.2, lstA p4 (r3 : (List Str)), lstA p2 (r1 : (List Int)), imA (.ref ad_v_law_script) v_law_script, F] : List (Asn G))) hx119 fun ps120 p121 hl122 hp123 hS => ?_
        have hS : Sep H ([lstA p121 (x119 : (List Str)), listH lstA p13 ps120 (s17.2.2 : (List (List Str))) j118, lstA p117 (r116 : (List (List Str))), ThreadsA p5 s96.1, lstA p95 ([1, 2, 3, 5, 6] : (List Int)), IndexA p8 s96.2, lstA p4 (r3 : (List Str)), lstA p2 (r1 : (List Int)), imA (.ref ad_v_law_script) v_law_script, F] : List (Asn G)) := hS
        refine fz_no ?_
        refine c_nil ?_
        obtain ⟨h125, hm⟩ := R.wp_need hm
        refine k_sorted hS (hS.sqF (i := 0) rfl) h125 fun p124 H hS => ?_
        refine fz_no ?_
        have hS : Sep H ([listE lstA p13 (s17.2.2 : (List (List Str))), lstA p124 (sortT x119 : (List Str)), lstA p117 (r116 : (List (List Str))), ThreadsA p5 s96.1, lstA p95 ([1, 2, 3, 5, 6] : (List Int)), IndexA p8 s96.2, lstA p4 (r3 : (List Str)), lstA p2 (r1 : (List Int)), imA (.ref ad_v_law_script) v_law_script, F] : List (Asn G)) := unfocus0 hl122 hp123 hx119.2 (hS.sel [1, 2, 0, 3, 4, 5, 6, 7, 8, 9, 10] (by decide) rfl)
        refine k_il hS (i := 1) rfl ?_
        obtain ⟨h126, hm⟩ := R.wp_need hm
        refine lc_sep (β := (List Str)) (fun (_ : Unit) => ([listE lstA p13 (s17.2.2 : (List (List Str))), lstA p124 (sortT x119 : (List Str)), lstA p117 (r116 : (List (List Str))), ThreadsA p5 s96.1, lstA p95 ([1, 2, 3, 5, 6] : (List Int)), IndexA p8 s96.2, lstA p4 (r3 : (List Str)), lstA p2 (r1 : (List Int)), imA (.ref ad_v_law_script) v_law_script, F] : List (Asn G))) (s := ()) (im := (Im.im G)) hS (fun _ _ _ => wk_list fun _ _ h => h.sq (i := 2) rfl) h126 hm (fun p127 _ ys130 x128 v129 H q Nx hS hx hm kS kN => ?_) (fun p127 t H hm hS => ?_)
        ·
          cases hx
          refine c_gLc (σ' := [some (.ref ad_v_law_script), some (.ref p2), some (.ref p4), some (.ref p5), some (.ref p8), some (.ref p13), w20, some (.str (x128)), w99, w23]) rfl rfl ?_
          refine c_yes ?_
          refine c_fz ?_
          refine c_lst ?_
          refine ea_to (ea_cons (ev_var rfl) ea_nil) ?_
          refine k_lst (α := Str) (vs := [(.str (x128))]) (xs := [x128]) hS ⟨rfl, True.intro⟩ (by show 1 ≤ sizeLine; decide) fun p131 H hS => ?_
          refine fz_yes (xs := ([x128] : (List Str))) hS (i := 0) rfl fun H hS => ?_
          have hS : Sep H ([imA (.ref p131) ([x128] : (List Str)), lstA p127 (ys130 : List (List Str)), listE lstA p13 (s17.2.2 : (List (List Str))), lstA p124 (sortT x119 : (List Str)), lstA p117 (r116 : (List (List Str))), ThreadsA p5 s96.1, lstA p95 ([1, 2, 3, 5, 6] : (List Int)), IndexA p8 s96.2, lstA p4 (r3 : (List Str)), lstA p2 (r1 : (List Int)), imA (.ref ad_v_law_script) v_law_script, F] : List (Asn G)) := hS
          exact kS () _ _ _ hm (hS.im (i := 0) rfl) (hS.sel [1, 2, 3, 4, 5, 6, 7, 8, 9, 10, 11] (by decide) rfl)
        · revert hm hS; generalize t = t133; intro hm hS
          refine fz_no ?_
          obtain ⟨h134, hm⟩ := R.wp_need hm
          obtain ⟨h135, hm⟩ := R.wp_need hm
          refine ev_op2 (ev_neP (G := G) (x := (r116 : (List (List Str)))) (y := t133.2) ev_c ev_c (dpOwn hS (i := 3) rfl) (dpOwn hS (i := 0) rfl) h134 h135 (Nat.le_of_ble_eq_true rfl)) ?_
          refine f_bl ?_
          refine ifK_2 (fun hb136 => ?_) (fun hb136 => ?_)
          · have hm := R.wp_ifY hm hb136
            refine c_ret ?_
            refine ev_to ev_c ?_
            exact hm _ (hS.sel [10] (by decide) rfl)
          · have hm := R.wp_ifN hm (by first | (rw [hb136]; decide) | simpa using hb136)
            refine st_nx ?_
            refine sq_nx ?_
            refine f_seq ?_
            refine c_drop ?_
            refine c_meth ?_
            refine ev_to (ev_var rfl) ?_
            obtain ⟨d137, _, _, _, _, hO138⟩ := ins_Threads hS (i := 4) rfl
            refine ⟨_, _, _, rfl, hO138, rfl, ?_⟩
            refine ea_to (ea_cons ev_c (ea_cons ev_c ea_nil)) ?_
            refine ⟨p5, (s96.1 : Threads), ("zfresh" : Str), ("zother" : Str), star [lstA p127 (t133.2 : (List (List Str))), listE lstA p13 (s17.2.2 : (List (List Str))), lstA p124 (sortT x119 : (List Str)), lstA p117 (r116 : (List (List Str))), lstA p95 ([1, 2, 3, 5, 6] : (List Int)), IndexA p8 s96.2, lstA p4 (r3 : (List Str)), lstA p2 (r1 : (List Int)), imA (.ref ad_v_law_script) v_law_script, F], rfl, Sep.unstar (M := [ThreadsA p5 s96.1]) (hS.sel [4, 0, 1, 2, 3, 5, 6, 7, 8, 9, 10] (by decide) rfl : Sep H (([ThreadsA p5 s96.1] ++ [lstA p127 (t133.2 : (List (List Str))), listE lstA p13 (s17.2.2 : (List (List Str))), lstA p124 (sortT x119 : (List Str)), lstA p117 (r116 : (List (List Str))), lstA p95 ([1, 2, 3, 5, 6] : (List Int)), IndexA p8 s96.2, lstA p4 (r3 : (List Str)), lstA p2 (r1 : (List Int)), imA (.ref ad_v_law_script) v_law_script, F] : List (Asn G)))), R.wp_mono (R.wp_bind hm) (fun r139 hm H hS => ?_) (fun _ z => z.elim)⟩
            have hS : Sep H ([ThreadsA p5 r139, lstA p127 (t133.2 : (List (List Str))), listE lstA p13 (s17.2.2 : (List (List Str))), lstA p124 (sortT x119 : (List Str)), lstA p117 (r116 : (List (List Str))), lstA p95 ([1, 2, 3, 5, 6] : (List Int)), IndexA p8 s96.2, lstA p4 (r3 : (List Str)), lstA p2 (r1 : (List Int)), imA (.ref ad_v_law_script) v_law_script, F] : List (Asn G)) := Sep.star (M := [ThreadsA p5 r139]) hS
            refine sq_nx ?_
            refine f_seq ?_
            refine c_for ?_
            refine c_il ?_
            refine c_fz ?_
            refine c_lst ?_
            refine ea_to (ea_cons ev_c (ea_cons ev_c (ea_cons ev_c (ea_cons ev_c ea_nil)))) ?_
            refine k_lst (α := Int) (vs := [(.int (2)), (.int (3)), (.int (1)), (.int (2))]) (xs := [2, 3, 1, 2]) hS ⟨rfl, ⟨rfl, ⟨rfl, ⟨rfl, True.intro⟩⟩⟩⟩ (by show 4 ≤ sizeLine; decide) fun p140 H hS => ?_
            refine fz_no ?_
            refine k_il hS (i := 0) rfl ?_
            refine k_forF (τ := Threads × Index) (fun (s141 : Threads × Index) (σ : L2.St) (H : Hp) => ∃ (w144 : Option V), σ = [some (.ref ad_v_law_script), some (.ref p2), some (.ref p4), some (.ref p5), some (.ref p8), some (.ref p13), w20, w21, w144, w23] ∧ Sep H ([lstA p140 ([2, 3, 1, 2] : (List Int)), ThreadsA p5 s141.1, lstA p127 (t133.2 : (List (List Str))), listE lstA p13 (s17.2.2 : (List (List Str))), lstA p124 (sortT x119 : (List Str)), lstA p117 (r116 : (List (List Str))), lstA p95 ([1, 2, 3, 5, 6] : (List Int)), IndexA p8 s141.2, lstA p4 (r3 : (List Str)), lstA p2 (r1 : (List Int)), imA (.ref ad_v_law_script) v_law_script, F] : List (Asn G))) (im := (Im.im G)) (s := (r139, s96.2)) (fun _ => wk_list fun _ _ ⟨_, _, h⟩ => h.sq (i := 0) rfl) ⟨_, rfl, hS.sel [0, 1, 2, 3, 4, 5, 6, 7, 8, 9, 10, 11] (by decide) rfl⟩ hm (fun s141 x142 v143 σ H q N B hI hx hm nx bk ho145 => ?_) (fun s141 σ H hm hI => ?_)
            ·
              obtain ⟨w144, rfl, hS⟩ := hI
              cases hx
              refine c_gN (σ' := [some (.ref ad_v_law_script), some (.ref p2), some (.ref p4), some (.ref p5), some (.ref p8), some (.ref p13), w20, w21, some (.int (x142)), w23]) rfl ?_
              refine f_if ?_
              refine f_not ?_
              refine f_B ?_
              refine c_call ?_
              refine ea_to (ea_cons (ev_var rfl) (ea_cons (ev_var rfl) (ea_cons (ev_var rfl) (ea_cons ev_c ea_nil)))) ?_
              refine ⟨x142, p5, (s141.1 : Threads), p8, (s141.2 : Index), ("zother" : Str), star [lstA p140 ([2, 3, 1, 2] : (List Int)), lstA p127 (t133.2 : (List (List Str))), listE lstA p13 (s17.2.2 : (List (List Str))), lstA p124 (sortT x119 : (List Str)), lstA p117 (r116 : (List (List Str))), lstA p95 ([1, 2, 3, 5, 6] : (List Int)), lstA p4 (r3 : (List Str)), lstA p2 (r1 : (List Int)), imA (.ref ad_v_law_script) v_law_script, F], rfl, Sep.unstar (M := [ThreadsA p5 s141.1, IndexA p8 s141.2]) (hS.sel [1, 7, 0, 2, 3, 4, 5, 6, 8, 9, 10, 11] (by decide) rfl : Sep H (([ThreadsA p5 s141.1, IndexA p8 s141.2] ++ [lstA p140 ([2, 3, 1, 2] : (List Int)), lstA p127 (t133.2 : (List (List Str))), listE lstA p13 (s17.2.2 : (List (List Str))), lstA p124 (sortT x119 : (List Str)), lstA p117 (r116 : (List (List Str))), lstA p95 ([1, 2, 3, 5, 6] : (List Int)), lstA p4 (r3 : (List Str)), lstA p2 (r1 : (List Int)), imA (.ref ad_v_law_script) v_law_script, F] : List (Asn G)))), R.wp_mono (R.wp_bind hm) (fun r146 hm H hS => ?_) (fun _ z => z)⟩
              have hS : Sep H ([ThreadsA p5 r146.2.1, IndexA p8 r146.2.2, lstA p140 ([2, 3, 1, 2] : (List Int)), lstA p127 (t133.2 : (List (List Str))), listE lstA p13 (s17.2.2 : (List (List Str))), lstA p124 (sortT x119 : (List Str)), lstA p117 (r116 : (List (List Str))), lstA p95 ([1, 2, 3, 5, 6] : (List Int)), lstA p4 (r3 : (List Str)), lstA p2 (r1 : (List Int)), imA (.ref ad_v_law_script) v_law_script, F] : List (Asn G)) := Sep.star (M := [ThreadsA p5 r146.2.1, IndexA p8 r146.2.2]) hS
              refine f_bl ?_
              refine f_nK ?_
              refine ifK_2 (fun hb147 => ?_) (fun hb147 => ?_)
              · have hm := R.wp_ifY hm hb147
                refine c_ret ?_
                refine ev_to ev_c ?_
                exact (ho145 _ hm) _ (hS.sel [11] (by decide) rfl)
              · have hm := R.wp_ifN hm (by first | (rw [hb147]; decide) | simpa using hb147)
                refine st_nx ?_
                exact nx _ _ _ hm ⟨_, rfl, hS.sel [2, 0, 3, 4, 5, 6, 7, 1, 8, 9, 10, 11] (by decide) rfl⟩
            · obtain ⟨w144, rfl, hS⟩ := hI
              refine sq_nx ?_
              refine c_ret ?_
              refine f_andV ?_
              refine c_op ?_
              refine c_fz ?_
              refine c_meth ?_
              refine ev_to (ev_var rfl) ?_
              obtain ⟨d148, _, _, _, _, hO149⟩ := ins_Threads hS (i := 1) rfl
              refine ⟨_, _, _, rfl, hO149, rfl, ?_⟩
              refine ea_to (ea_cons ev_c ea_nil) ?_
              refine ⟨p5, (s141.1 : Threads), ("zfresh" : Str), star [lstA p140 ([2, 3, 1, 2] : (List Int)), lstA p127 (t133.2 : (List (List Str))), listE lstA p13 (s17.2.2 : (List (List Str))), lstA p124 (sortT x119 : (List Str)), lstA p117 (r116 : (List (List Str))), lstA p95 ([1, 2, 3, 5, 6] : (List Int)), IndexA p8 s141.2, lstA p4 (r3 : (List Str)), lstA p2 (r1 : (List Int)), imA (.ref ad_v_law_script) v_law_script, F], rfl, Sep.unstar (M := [ThreadsA p5 s141.1]) (hS.sel [1, 0, 2, 3, 4, 5, 6, 7, 8, 9, 10, 11] (by decide) rfl : Sep H (([ThreadsA p5 s141.1] ++ [lstA p140 ([2, 3, 1, 2] : (List Int)), lstA p127 (t133.2 : (List (List Str))), listE lstA p13 (s17.2.2 : (List (List Str))), lstA p124 (sortT x119 : (List Str)), lstA p117 (r116 : (List (List Str))), lstA p95 ([1, 2, 3, 5, 6] : (List Int)), IndexA p8 s141.2, lstA p4 (r3 : (List Str)), lstA p2 (r1 : (List Int)), imA (.ref ad_v_law_script) v_law_script, F] : List (Asn G)))), R.wp_mono (R.wp_bind hm) (fun r150 hm p151 H hS => ?_) (fun _ z => z.elim)⟩
              have hS : Sep H ([lstA p151 (r150 : (List Str)), ThreadsA p5 s141.1, lstA p140 ([2, 3, 1, 2] : (List Int)), lstA p127 (t133.2 : (List (List Str))), listE lstA p13 (s17.2.2 : (List (List Str))), lstA p124 (sortT x119 : (List Str)), lstA p117 (r116 : (List (List Str))), lstA p95 ([1, 2, 3, 5, 6] : (List Int)), IndexA p8 s141.2, lstA p4 (r3 : (List Str)), lstA p2 (r1 : (List Int)), imA (.ref ad_v_law_script) v_law_script, F] : List (Asn G)) := Sep.star (M := [lstA p151 (r150 : (List Str)), ThreadsA p5 s141.1]) hS
              refine fz_no ?_
              refine c_fz ?_
              refine c_lst ?_
              refine ea_to (ea_cons ev_c ea_nil) ?_
              refine k_lst (α := Str) (vs := [(.str (("zfresh" : Str)))]) (xs := [("zfresh" : Str)]) hS ⟨rfl, True.intro⟩ (by show 1 ≤ sizeLine; decide) fun p152 H hS => ?_
              refine fz_no ?_
              obtain ⟨h153, hm⟩ := R.wp_need hm
              obtain ⟨h154, hm⟩ := R.wp_need hm
              refine ev_op2 (ev_eqP (G := G) (x := (r150 : (List Str))) (y := [("zfresh" : Str)]) ev_c ev_c (dpOwn hS (i := 1) rfl) (dpOwn hS (i := 0) rfl) h153 h154 (Nat.le_of_ble_eq_true rfl)) ?_
              refine andVK_J hm hS (fun hb q hm nx => ?_) (fun b155 H hm hS => ?_)
              ·
                refine c_op ?_
                refine c_fz ?_
                refine c_meth ?_
                refine ev_to (ev_var rfl) ?_
                obtain ⟨d156, _, _, _, _, hO157⟩ := ins_Threads hS (i := 2) rfl
                refine ⟨_, _, _, rfl, hO157, rfl, ?_⟩
                refine ea_to ea_nil ?_
                refine ⟨p5, (s141.1 : Threads), star [lstA p152 ([("zfresh" : Str)] : (List Str)), lstA p151 (r150 : (List Str)), lstA p140 ([2, 3, 1, 2] : (List Int)), lstA p127 (t133.2 : (List (List Str))), listE lstA p13 (s17.2.2 : (List (List Str))), lstA p124 (sortT x119 : (List Str)), lstA p117 (r116 : (List (List Str))), lstA p95 ([1, 2, 3, 5, 6] : (List Int)), IndexA p8 s141.2, lstA p4 (r3 : (List Str)), lstA p2 (r1 : (List Int)), imA (.ref ad_v_law_script) v_law_script, F], rfl, Sep.unstar (M := [ThreadsA p5 s141.1]) (hS.sel [2, 0, 1, 3, 4, 5, 6, 7, 8, 9, 10, 11, 12, 13] (by decide) rfl : Sep H (([ThreadsA p5 s141.1] ++ [lstA p152 ([("zfresh" : Str)] : (List Str)), lstA p151 (r150 : (List Str)), lstA p140 ([2, 3, 1, 2] : (List Int)), lstA p127 (t133.2 : (List (List Str))), listE lstA p13 (s17.2.2 : (List (List Str))), lstA p124 (sortT x119 : (List Str)), lstA p117 (r116 : (List (List Str))), lstA p95 ([1, 2, 3, 5, 6] : (List Int)), IndexA p8 s141.2, lstA p4 (r3 : (List Str)), lstA p2 (r1 : (List Int)), imA (.ref ad_v_law_script) v_law_script, F] : List (Asn G)))), R.wp_mono (R.wp_bind hm) (fun r158 hm p159 H hS => ?_) (fun _ z => z)⟩
                have hS : Sep H ([lstA p159 (r158 : (List Str)), ThreadsA p5 s141.1, lstA p152 ([("zfresh" : Str)] : (List Str)), lstA p151 (r150 : (List Str)), lstA p140 ([2, 3, 1, 2] : (List Int)), lstA p127 (t133.2 : (List (List Str))), listE lstA p13 (s17.2.2 : (List (List Str))), lstA p124 (sortT x119 : (List Str)), lstA p117 (r116 : (List (List Str))), lstA p95 ([1, 2, 3, 5, 6] : (List Int)), IndexA p8 s141.2, lstA p4 (r3 : (List Str)), lstA p2 (r1 : (List Int)), imA (.ref ad_v_law_script) v_law_script, F] : List (Asn G)) := Sep.star (M := [lstA p159 (r158 : (List Str)), ThreadsA p5 s141.1]) hS
                refine fz_no ?_
                refine c_fz ?_
                refine c_cb ?_
                refine c_cons ?_
                refine c_fz ?_
                refine c_op ?_
                refine c_fz ?_
                refine c_op ?_
                refine ev_to (ev_fz (ev_var rfl)) ?_
                refine ev_to ev_c ?_
                obtain ⟨j160, x161, hx161, hm⟩ := wp_ixJ hm
                refine ixK (x := (x161 : (List Str))) (hS.sel [6, 0, 1, 2, 3, 4, 5, 7, 8, 9, 10, 11, 12, 13, 14] (by decide) rfl : Sep H (listE lstA p13 (s17.2.2 : (List (List Str))) :: [lstA p159 (r158 : (List Str)), ThreadsA p5 s141.1, lstA p152 ([("zfresh" : Str)] : (List Str)), lstA p151 (r150 : (List Str)), lstA p140 ([2, 3, 1, 2] : (List Int)), lstA p127 (t133.2 : (List (List Str))), lstA p124 (sortT x119 : (List Str)), lstA p117 (r116 : (List (List Str))), lstA p95 ([1, 2, 3, 5, 6] : (List Int)), IndexA p8 s141.2, lstA p4 (r3 : (List Str)), lstA p2 (r1 : (List Int)), imA (.ref ad_v_law_script) v_law_script, F] : List (Asn G))) hx161 fun ps162 p163 hl164 hp165 hS => ?_
                have hS : Sep H ([lstA p163 (x161 : (List Str)), listH lstA p13 ps162 (s17.2.2 : (List (List Str))) j160, lstA p159 (r158 : (List Str)), ThreadsA p5 s141.1, lstA p152 ([("zfresh" : Str)] : (List Str)), lstA p151 (r150 : (List Str)), lstA p140 ([2, 3, 1, 2] : (List Int)), lstA p127 (t133.2 : (List (List Str))), lstA p124 (sortT x119 : (List Str)), lstA p117 (r116 : (List (List Str))), lstA p95 ([1, 2, 3, 5, 6] : (List Int)), IndexA p8 s141.2, lstA p4 (r3 : (List Str)), lstA p2 (r1 : (List Int)), imA (.ref ad_v_law_script) v_law_script, F] : List (Asn G)) := hS
                refine fz_no ?_
                refine c_fz ?_
                refine c_lst ?_
                refine ea_to (ea_cons ev_c ea_nil) ?_
                refine k_lst (α := Str) (vs := [(.str (("zfresh" : Str)))]) (xs := [("zfresh" : Str)]) hS ⟨rfl, True.intro⟩ (by show 1 ≤ sizeLine; decide) fun p166 H hS => ?_
                refine fz_no ?_
                obtain ⟨h167, hm⟩ := R.wp_need hm
                refine k_catG hS (hS.rdL (i := 1) rfl) (hS.rdL (i := 0) rfl) h167 fun p168 H hS => ?_
                refine fz_no ?_
                refine c_nil ?_
                revert hm; refine R.need_rev fun h170 hm => ?_
                refine k_sorted hS (hS.sqF (i := 0) rfl) h170 fun p169 H hS => ?_
                refine fz_no ?_
                obtain ⟨h171, hm⟩ := R.wp_need hm
                revert hm; refine R.need_rev fun h172 hm => ?_
                refine ev_op2 (ev_eqP (G := G) (x := (r158 : (List Str))) (y := sortT (x161 ++ ([("zfresh" : Str)]))) ev_c ev_c (dpOwn hS (i := 5) rfl) (dpOwn hS (i := 0) rfl) h171 h172 (Nat.le_of_ble_eq_true rfl)) ?_
                have hS : Sep H ([listE lstA p13 (s17.2.2 : (List (List Str))), lstA p169 (sortT (x161 ++ ([("zfresh" : Str)])) : (List Str)), lstA p168 (x161 ++ ([("zfresh" : Str)]) : (List Str)), lstA p166 ([("zfresh" : Str)] : (List Str)), lstA p159 (r158 : (List Str)), ThreadsA p5 s141.1, lstA p152 ([("zfresh" : Str)] : (List Str)), lstA p151 (r150 : (List Str)), lstA p140 ([2, 3, 1, 2] : (List Int)), lstA p127 (t133.2 : (List (List Str))), lstA p124 (sortT x119 : (List Str)), lstA p117 (r116 : (List (List Str))), lstA p95 ([1, 2, 3, 5, 6] : (List Int)), IndexA p8 s141.2, lstA p4 (r3 : (List Str)), lstA p2 (r1 : (List Int)), imA (.ref ad_v_law_script) v_law_script, F] : List (Asn G)) := unfocus0 hl164 hp165 hx161.2 (hS.sel [3, 4, 0, 1, 2, 5, 6, 7, 8, 9, 10, 11, 12, 13, 14, 15, 16, 17, 18] (by decide) rfl)
                exact nx _ _ hm (hS.sel [6, 7, 5, 8, 9, 0, 10, 11, 12, 13, 14, 15, 16, 17] (by decide) rfl)
              ·
                exact hm _ (hS.sel [13] (by decide) rfl)
end
end Lw
namespace Lw
open PySem PySem.Spec PyProof.Rows L2 Ml
def sp_top (K : PySem.W.Frag) : Sp := fun vs H Q E => ∃ (a : Addr) (ns : List Int), vs = [.ref a] ∧ SqL K H a (ns.map V.int) ∧ Only H ∧ ns.length ≤ 63 ∧ ∀ H', Q (.bl true) H'
theorem all_mk {l : PySem.W.OpenLaw} {w : World} {K : PySem.W.Frag} {h : Heap} {mg : Str → Option Value} {fa : Addr} (X : K.In h) (H : h.Ns mainGlobals mg) (hfa : mg "law" = some (.ref fa))
    {c0 : Addr}
    {c1 : Addr}
    {c2 : Addr}
    {c3 : Addr}
    {c4 : Addr}
    {c5 : Addr}
    {c6 : Addr}
    {c7 : Addr}
    {c8 : Addr}
    {f0 : Addr} {od0 an0 : Option Addr} {sl0 : Array (Option Value)} {oc0 kV0 dc0 pm0 cd0 ct0 : Value}
    {f1 : Addr} {od1 an1 : Option Addr} {sl1 : Array (Option Value)} {oc1 kV1 dc1 pm1 cd1 ct1 : Value}
    {f2 : Addr} {od2 an2 : Option Addr} {sl2 : Array (Option Value)} {oc2 kV2 dc2 pm2 cd2 ct2 : Value}
    {f3 : Addr} {od3 an3 : Option Addr} {sl3 : Array (Option Value)} {oc3 kV3 dc3 pm3 cd3 ct3 : Value}
    {f4 : Addr} {od4 an4 : Option Addr} {sl4 : Array (Option Value)} {oc4 kV4 dc4 pm4 cd4 ct4 : Value}
    {f5 : Addr} {od5 an5 : Option Addr} {sl5 : Array (Option Value)} {oc5 kV5 dc5 pm5 cd5 ct5 : Value}
    {f6 : Addr} {od6 an6 : Option Addr} {sl6 : Array (Option Value)} {oc6 kV6 dc6 pm6 cd6 ct6 : Value}
    {f7 : Addr} {od7 an7 : Option Addr} {sl7 : Array (Option Value)} {oc7 kV7 dc7 pm7 cd7 ct7 : Value}
    {f8 : Addr} {od8 an8 : Option Addr} {sl8 : Array (Option Value)} {oc8 kV8 dc8 pm8 cd8 ct8 : Value}
    {f9 : Addr} {od9 an9 : Option Addr} {sl9 : Array (Option Value)} {oc9 kV9 dc9 pm9 cd9 ct9 : Value}
    {f10 : Addr} {od10 an10 : Option Addr} {sl10 : Array (Option Value)} {oc10 kV10 dc10 pm10 cd10 ct10 : Value}
    {f11 : Addr} {od11 an11 : Option Addr} {sl11 : Array (Option Value)} {oc11 kV11 dc11 pm11 cd11 ct11 : Value}
    {f12 : Addr} {fd12 : FuncData}
    {f13 : Addr} {od13 an13 : Option Addr} {sl13 : Array (Option Value)} {oc13 kV13 dc13 pm13 cd13 ct13 : Value}
    {f14 : Addr} {od14 an14 : Option Addr} {sl14 : Array (Option Value)} {oc14 kV14 dc14 pm14 cd14 ct14 : Value}
    {f15 : Addr} {od15 an15 : Option Addr} {sl15 : Array (Option Value)} {oc15 kV15 dc15 pm15 cd15 ct15 : Value}
    {f16 : Addr} {od16 an16 : Option Addr} {sl16 : Array (Option Value)} {oc16 kV16 dc16 pm16 cd16 ct16 : Value}
    {f17 : Addr} {od17 an17 : Option Addr} {sl17 : Array (Option Value)} {oc17 kV17 dc17 pm17 cd17 ct17 : Value}
    {f18 : Addr} {od18 an18 : Option Addr} {sl18 : Array (Option Value)} {oc18 kV18 dc18 pm18 cd18 ct18 : Value}
    {f19 : Addr} {od19 an19 : Option Addr} {sl19 : Array (Option Value)} {oc19 kV19 dc19 pm19 cd19 ct19 : Value}
    {f20 : Addr} {od20 an20 : Option Addr} {sl20 : Array (Option Value)} {oc20 kV20 dc20 pm20 cd20 ct20 : Value}
    {f21 : Addr} {od21 an21 : Option Addr} {sl21 : Array (Option Value)} {oc21 kV21 dc21 pm21 cd21 ct21 : Value}
    {f22 : Addr} {od22 an22 : Option Addr} {sl22 : Array (Option Value)} {oc22 kV22 dc22 pm22 cd22 ct22 : Value}
    {f23 : Addr} {od23 an23 : Option Addr} {sl23 : Array (Option Value)} {oc23 kV23 dc23 pm23 cd23 ct23 : Value}
    {f24 : Addr} {od24 an24 : Option Addr} {sl24 : Array (Option Value)} {oc24 kV24 dc24 pm24 cd24 ct24 : Value}
    {f25 : Addr} {od25 an25 : Option Addr} {sl25 : Array (Option Value)} {oc25 kV25 dc25 pm25 cd25 ct25 : Value}
    {f26 : Addr} {od26 an26 : Option Addr} {sl26 : Array (Option Value)} {oc26 kV26 dc26 pm26 cd26 ct26 : Value}
    (ac0 : PySem.W.nsIn K mainGlobals "MailError" = some (some (.ref c0)))
    (ac1 : PySem.W.nsIn K mainGlobals "NoWord" = some (some (.ref c1)))
    (ac2 : PySem.W.nsIn K mainGlobals "NoLetter" = some (some (.ref c2)))
    (ac3 : PySem.W.nsIn K mainGlobals "NoRule" = some (some (.ref c3)))
    (ac4 : PySem.W.nsIn K mainGlobals "NoName" = some (some (.ref c4)))
    (ac5 : PySem.W.nsIn K mainGlobals "NoParcel" = some (some (.ref c5)))
    (ac6 : PySem.W.nsIn K mainGlobals "NoRow" = some (some (.ref c6)))
    (ac7 : PySem.W.nsIn K mainGlobals "Index" = some (some (.ref c7)))
    (ac8 : PySem.W.nsIn K mainGlobals "Threads" = some (some (.ref c8)))
    (a0_7 : PySem.W.findIn K (.ref c7) "__init__" = some (some (.ref f0)))
    (i0 : PySem.W.isFn K (.ref f0) = true)
    (l0 : K.lookup f0 = some ⟨oc0, od0, .func (PySem.W.fnOf "__init__" "Index.__init__" (defArgs s_Index___init__) (defBody s_Index___init__) (defScope s_Index___init__) .none kV0 dc0 pm0 an0 cd0 ct0), sl0⟩)
    (cc0 : PySem.W.codeIn K cd0 "Index.__init__" = true)
    (k0 : PySem.W.keepIn K (.ref f0) = true)
    (mk7 : PySem.W.makesIn K c7 = true)
    (kc7 : PySem.W.keepIn K (.ref c7) = true)
    (a1_7 : PySem.W.findIn K (.ref c7) "sure" = some (some (.ref f1)))
    (i1 : PySem.W.isFn K (.ref f1) = true)
    (l1 : K.lookup f1 = some ⟨oc1, od1, .func (PySem.W.fnOf "sure" "Index.sure" (defArgs s_Index_sure) (defBody s_Index_sure) (defScope s_Index_sure) .none kV1 dc1 pm1 an1 cd1 ct1), sl1⟩)
    (cc1 : PySem.W.codeIn K cd1 "Index.sure" = true)
    (k1 : PySem.W.keepIn K (.ref f1) = true)
    (a2_7 : PySem.W.findIn K (.ref c7) "add" = some (some (.ref f2)))
    (i2 : PySem.W.isFn K (.ref f2) = true)
    (l2 : K.lookup f2 = some ⟨oc2, od2, .func (PySem.W.fnOf "add" "Index.add" (defArgs s_Index_add) (defBody s_Index_add) (defScope s_Index_add) .none kV2 dc2 pm2 an2 cd2 ct2), sl2⟩)
    (cc2 : PySem.W.codeIn K cd2 "Index.add" = true)
    (k2 : PySem.W.keepIn K (.ref f2) = true)
    (a3_7 : PySem.W.findIn K (.ref c7) "take_out" = some (some (.ref f3)))
    (i3 : PySem.W.isFn K (.ref f3) = true)
    (l3 : K.lookup f3 = some ⟨oc3, od3, .func (PySem.W.fnOf "take_out" "Index.take_out" (defArgs s_Index_take_out) (defBody s_Index_take_out) (defScope s_Index_take_out) .none kV3 dc3 pm3 an3 cd3 ct3), sl3⟩)
    (cc3 : PySem.W.codeIn K cd3 "Index.take_out" = true)
    (k3 : PySem.W.keepIn K (.ref f3) = true)
    (a4_7 : PySem.W.findIn K (.ref c7) "having" = some (some (.ref f4)))
    (i4 : PySem.W.isFn K (.ref f4) = true)
    (l4 : K.lookup f4 = some ⟨oc4, od4, .func (PySem.W.fnOf "having" "Index.having" (defArgs s_Index_having) (defBody s_Index_having) (defScope s_Index_having) .none kV4 dc4 pm4 an4 cd4 ct4), sl4⟩)
    (cc4 : PySem.W.codeIn K cd4 "Index.having" = true)
    (k4 : PySem.W.keepIn K (.ref f4) = true)
    (a5_7 : PySem.W.findIn K (.ref c7) "words" = some (some (.ref f5)))
    (i5 : PySem.W.isFn K (.ref f5) = true)
    (l5 : K.lookup f5 = some ⟨oc5, od5, .func (PySem.W.fnOf "words" "Index.words" (defArgs s_Index_words) (defBody s_Index_words) (defScope s_Index_words) .none kV5 dc5 pm5 an5 cd5 ct5), sl5⟩)
    (cc5 : PySem.W.codeIn K cd5 "Index.words" = true)
    (k5 : PySem.W.keepIn K (.ref f5) = true)
    (a6_7 : PySem.W.findIn K (.ref c7) "all_words" = some (some (.ref f6)))
    (i6 : PySem.W.isFn K (.ref f6) = true)
    (l6 : K.lookup f6 = some ⟨oc6, od6, .func (PySem.W.fnOf "all_words" "Index.all_words" (defArgs s_Index_all_words) (defBody s_Index_all_words) (defScope s_Index_all_words) .none kV6 dc6 pm6 an6 cd6 ct6), sl6⟩)
    (cc6 : PySem.W.codeIn K cd6 "Index.all_words" = true)
    (k6 : PySem.W.keepIn K (.ref f6) = true)
    (a7_8 : PySem.W.findIn K (.ref c8) "__init__" = some (some (.ref f7)))
    (i7 : PySem.W.isFn K (.ref f7) = true)
    (l7 : K.lookup f7 = some ⟨oc7, od7, .func (PySem.W.fnOf "__init__" "Threads.__init__" (defArgs s_Threads___init__) (defBody s_Threads___init__) (defScope s_Threads___init__) .none kV7 dc7 pm7 an7 cd7 ct7), sl7⟩)
    (cc7 : PySem.W.codeIn K cd7 "Threads.__init__" = true)
    (k7 : PySem.W.keepIn K (.ref f7) = true)
    (mk8 : PySem.W.makesIn K c8 = true)
    (kc8 : PySem.W.keepIn K (.ref c8) = true)
    (a8_8 : PySem.W.findIn K (.ref c8) "pile" = some (some (.ref f8)))
    (i8 : PySem.W.isFn K (.ref f8) = true)
    (l8 : K.lookup f8 = some ⟨oc8, od8, .func (PySem.W.fnOf "pile" "Threads.pile" (defArgs s_Threads_pile) (defBody s_Threads_pile) (defScope s_Threads_pile) .none kV8 dc8 pm8 an8 cd8 ct8), sl8⟩)
    (cc8 : PySem.W.codeIn K cd8 "Threads.pile" = true)
    (k8 : PySem.W.keepIn K (.ref f8) = true)
    (a9_8 : PySem.W.findIn K (.ref c8) "put_together" = some (some (.ref f9)))
    (i9 : PySem.W.isFn K (.ref f9) = true)
    (l9 : K.lookup f9 = some ⟨oc9, od9, .func (PySem.W.fnOf "put_together" "Threads.put_together" (defArgs s_Threads_put_together) (defBody s_Threads_put_together) (defScope s_Threads_put_together) .none kV9 dc9 pm9 an9 cd9 ct9), sl9⟩)
    (cc9 : PySem.W.codeIn K cd9 "Threads.put_together" = true)
    (k9 : PySem.W.keepIn K (.ref f9) = true)
    (a10_8 : PySem.W.findIn K (.ref c8) "hang" = some (some (.ref f10)))
    (i10 : PySem.W.isFn K (.ref f10) = true)
    (l10 : K.lookup f10 = some ⟨oc10, od10, .func (PySem.W.fnOf "hang" "Threads.hang" (defArgs s_Threads_hang) (defBody s_Threads_hang) (defScope s_Threads_hang) .none kV10 dc10 pm10 an10 cd10 ct10), sl10⟩)
    (cc10 : PySem.W.codeIn K cd10 "Threads.hang" = true)
    (k10 : PySem.W.keepIn K (.ref f10) = true)
    (a11_8 : PySem.W.findIn K (.ref c8) "sure" = some (some (.ref f11)))
    (i11 : PySem.W.isFn K (.ref f11) = true)
    (l11 : K.lookup f11 = some ⟨oc11, od11, .func (PySem.W.fnOf "sure" "Threads.sure" (defArgs s_Threads_sure) (defBody s_Threads_sure) (defScope s_Threads_sure) .none kV11 dc11 pm11 an11 cd11 ct11), sl11⟩)
    (cc11 : PySem.W.codeIn K cd11 "Threads.sure" = true)
    (k11 : PySem.W.keepIn K (.ref f11) = true)
    (a12_8 : PySem.W.findIn K (.ref c8) "add" = some (some (.ref f12)))
    (i12 : PySem.W.isFn K (.ref f12) = true)
    (F12 : FunD K "add" "Threads.add" (defArgs s_Threads_add) (defBody s_Threads_add) (defScope s_Threads_add) [.str ("" : Str)] [] f12 fd12)
    (a13_8 : PySem.W.findIn K (.ref c8) "take_out" = some (some (.ref f13)))
    (i13 : PySem.W.isFn K (.ref f13) = true)
    (l13 : K.lookup f13 = some ⟨oc13, od13, .func (PySem.W.fnOf "take_out" "Threads.take_out" (defArgs s_Threads_take_out) (defBody s_Threads_take_out) (defScope s_Threads_take_out) .none kV13 dc13 pm13 an13 cd13 ct13), sl13⟩)
    (cc13 : PySem.W.codeIn K cd13 "Threads.take_out" = true)
    (k13 : PySem.W.keepIn K (.ref f13) = true)
    (a14_8 : PySem.W.findIn K (.ref c8) "names" = some (some (.ref f14)))
    (i14 : PySem.W.isFn K (.ref f14) = true)
    (l14 : K.lookup f14 = some ⟨oc14, od14, .func (PySem.W.fnOf "names" "Threads.names" (defArgs s_Threads_names) (defBody s_Threads_names) (defScope s_Threads_names) .none kV14 dc14 pm14 an14 cd14 ct14), sl14⟩)
    (cc14 : PySem.W.codeIn K cd14 "Threads.names" = true)
    (k14 : PySem.W.keepIn K (.ref f14) = true)
    (a15_8 : PySem.W.findIn K (.ref c8) "thread" = some (some (.ref f15)))
    (i15 : PySem.W.isFn K (.ref f15) = true)
    (l15 : K.lookup f15 = some ⟨oc15, od15, .func (PySem.W.fnOf "thread" "Threads.thread" (defArgs s_Threads_thread) (defBody s_Threads_thread) (defScope s_Threads_thread) .none kV15 dc15 pm15 an15 cd15 ct15), sl15⟩)
    (cc15 : PySem.W.codeIn K cd15 "Threads.thread" = true)
    (k15 : PySem.W.keepIn K (.ref f15) = true)
    (a16_8 : PySem.W.findIn K (.ref c8) "threads" = some (some (.ref f16)))
    (i16 : PySem.W.isFn K (.ref f16) = true)
    (l16 : K.lookup f16 = some ⟨oc16, od16, .func (PySem.W.fnOf "threads" "Threads.threads" (defArgs s_Threads_threads) (defBody s_Threads_threads) (defScope s_Threads_threads) .none kV16 dc16 pm16 an16 cd16 ct16), sl16⟩)
    (cc16 : PySem.W.codeIn K cd16 "Threads.threads" = true)
    (k16 : PySem.W.keepIn K (.ref f16) = true)
    (a17_8 : PySem.W.findIn K (.ref c8) "answers_to" = some (some (.ref f17)))
    (i17 : PySem.W.isFn K (.ref f17) = true)
    (l17 : K.lookup f17 = some ⟨oc17, od17, .func (PySem.W.fnOf "answers_to" "Threads.answers_to" (defArgs s_Threads_answers_to) (defBody s_Threads_answers_to) (defScope s_Threads_answers_to) .none kV17 dc17 pm17 an17 cd17 ct17), sl17⟩)
    (cc17 : PySem.W.codeIn K cd17 "Threads.answers_to" = true)
    (k17 : PySem.W.keepIn K (.ref f17) = true)
    (a18_8 : PySem.W.findIn K (.ref c8) "depth" = some (some (.ref f18)))
    (i18 : PySem.W.isFn K (.ref f18) = true)
    (l18 : K.lookup f18 = some ⟨oc18, od18, .func (PySem.W.fnOf "depth" "Threads.depth" (defArgs s_Threads_depth) (defBody s_Threads_depth) (defScope s_Threads_depth) .none kV18 dc18 pm18 an18 cd18 ct18), sl18⟩)
    (cc18 : PySem.W.codeIn K cd18 "Threads.depth" = true)
    (k18 : PySem.W.keepIn K (.ref f18) = true)
    (a19 : PySem.W.nsIn K mainGlobals "_law_draws" = some (some (.ref f19)))
    (l19 : K.lookup f19 = some ⟨oc19, od19, .func (PySem.W.fnOf "_law_draws" "_law_draws" (defArgs s_law_draws) (defBody s_law_draws) (defScope s_law_draws) .none kV19 dc19 pm19 an19 cd19 ct19), sl19⟩)
    (cc19 : PySem.W.codeIn K cd19 "_law_draws" = true)
    (k19 : PySem.W.keepIn K (.ref f19) = true)
    (a20 : PySem.W.nsIn K mainGlobals "_law_name_by" = some (some (.ref f20)))
    (l20 : K.lookup f20 = some ⟨oc20, od20, .func (PySem.W.fnOf "_law_name_by" "_law_name_by" (defArgs s_law_name_by) (defBody s_law_name_by) (defScope s_law_name_by) .none kV20 dc20 pm20 an20 cd20 ct20), sl20⟩)
    (cc20 : PySem.W.codeIn K cd20 "_law_name_by" = true)
    (k20 : PySem.W.keepIn K (.ref f20) = true)
    (a21 : PySem.W.nsIn K mainGlobals "_law_pool" = some (some (.ref f21)))
    (l21 : K.lookup f21 = some ⟨oc21, od21, .func (PySem.W.fnOf "_law_pool" "_law_pool" (defArgs s_law_pool) (defBody s_law_pool) (defScope s_law_pool) .none kV21 dc21 pm21 an21 cd21 ct21), sl21⟩)
    (cc21 : PySem.W.codeIn K cd21 "_law_pool" = true)
    (k21 : PySem.W.keepIn K (.ref f21) = true)
    (a22 : PySem.W.nsIn K mainGlobals "_law_called" = some (some (.ref f22)))
    (l22 : K.lookup f22 = some ⟨oc22, od22, .func (PySem.W.fnOf "_law_called" "_law_called" (defArgs s_law_called) (defBody s_law_called) (defScope s_law_called) .none kV22 dc22 pm22 an22 cd22 ct22), sl22⟩)
    (cc22 : PySem.W.codeIn K cd22 "_law_called" = true)
    (k22 : PySem.W.keepIn K (.ref f22) = true)
    (a23 : PySem.W.nsIn K mainGlobals "_law_refused" = some (some (.ref f23)))
    (l23 : K.lookup f23 = some ⟨oc23, od23, .func (PySem.W.fnOf "_law_refused" "_law_refused" (defArgs s_law_refused) (defBody s_law_refused) (defScope s_law_refused) .none kV23 dc23 pm23 an23 cd23 ct23), sl23⟩)
    (cc23 : PySem.W.codeIn K cd23 "_law_refused" = true)
    (k23 : PySem.W.keepIn K (.ref f23) = true)
    (a24 : PySem.W.nsIn K mainGlobals "_law_due" = some (some (.ref f24)))
    (l24 : K.lookup f24 = some ⟨oc24, od24, .func (PySem.W.fnOf "_law_due" "_law_due" (defArgs s_law_due) (defBody s_law_due) (defScope s_law_due) .none kV24 dc24 pm24 an24 cd24 ct24), sl24⟩)
    (cc24 : PySem.W.codeIn K cd24 "_law_due" = true)
    (k24 : PySem.W.keepIn K (.ref f24) = true)
    (a25 : PySem.W.nsIn K mainGlobals "_law_step" = some (some (.ref f25)))
    (l25 : K.lookup f25 = some ⟨oc25, od25, .func (PySem.W.fnOf "_law_step" "_law_step" (defArgs s_law_step) (defBody s_law_step) (defScope s_law_step) .none kV25 dc25 pm25 an25 cd25 ct25), sl25⟩)
    (cc25 : PySem.W.codeIn K cd25 "_law_step" = true)
    (k25 : PySem.W.keepIn K (.ref f25) = true)
    (a26 : PySem.W.nsIn K mainGlobals "law" = some (some (.ref f26)))
    (l26 : K.lookup f26 = some ⟨oc26, od26, .func (PySem.W.fnOf "law" "law" (defArgs s_law) (defBody s_law) (defScope s_law) .none kV26 dc26 pm26 an26 cd26 ct26), sl26⟩)
    (cc26 : PySem.W.codeIn K cd26 "law" = true)
    (k26 : PySem.W.keepIn K (.ref f26) = true)
    (bE0 : PySem.W.subIn K (.ref c0) (.type "BaseException") = some true)
    (tE0 : PySem.W.typeIn K (.ref c0) = some (.type "type"))
    (hE0 : PySem.W.hasDictIn K c0 = true)
    (s0_0 : PySem.W.subIn K (.ref c0) (.ref c0) = some true)
    (s1_0 : PySem.W.subIn K (.ref c1) (.ref c0) = some true)
    (s2_0 : PySem.W.subIn K (.ref c2) (.ref c0) = some true)
    (s3_0 : PySem.W.subIn K (.ref c3) (.ref c0) = some true)
    (s4_0 : PySem.W.subIn K (.ref c4) (.ref c0) = some true)
    (s5_0 : PySem.W.subIn K (.ref c5) (.ref c0) = some true)
    (s6_0 : PySem.W.subIn K (.ref c6) (.ref c0) = some true)
    (xE4 : PySem.W.excIn K c4 [.type "ValueError", .type "Exception", .type "BaseException", .type "object"] "ValueError.__new__" = true)
    (kE4 : PySem.W.keepIn K (.ref c4) = true)
    (bE4 : PySem.W.subIn K (.ref c4) (.type "BaseException") = some true)
    (tE4 : PySem.W.typeIn K (.ref c4) = some (.type "type"))
    (pg7 : PySem.W.plainGet K c7 Str.empty = true)
    (hd7 : PySem.W.hasDictIn K c7 = true)
    (po7 : PySem.W.plainOver K c7 = true)
    (sa7 : PySem.W.findIn K (.ref c7) "__setattr__" = some (some (.builtin "object.__setattr__")))
    (nf7_0 : PySem.W.findIn K (.ref c7) "rows_of" = some none)
    (nf7_1 : PySem.W.findIn K (.ref c7) "holders" = some none)
    (pg8 : PySem.W.plainGet K c8 Str.empty = true)
    (hd8 : PySem.W.hasDictIn K c8 = true)
    (po8 : PySem.W.plainOver K c8 = true)
    (sa8 : PySem.W.findIn K (.ref c8) "__setattr__" = some (some (.builtin "object.__setattr__")))
    (nf8_0 : PySem.W.findIn K (.ref c8) "goes_to" = some none)
    (nf8_1 : PySem.W.findIn K (.ref c8) "pile_of" = some none)
    (nf8_2 : PySem.W.findIn K (.ref c8) "piles" = some none)
    (nf8_3 : PySem.W.findIn K (.ref c8) "comes_from" = some none)
    (nf8_4 : PySem.W.findIn K (.ref c8) "made" = some none)
    (ea0 : PySem.W.findIn K (.ref c0) "__getattribute__" = some (some (.builtin "BaseException.__getattribute__")))
    (eb0 : PySem.W.findIn K (.ref c0) "__getattr__" = some none)
    (ed0 : PySem.W.findIn K (.ref c0) "__class__" = some (some (.builtin "object.__class__")))
    (eh0 : PySem.W.mroIn K c0 (.type "object") = some true)
    (ea1 : PySem.W.findIn K (.ref c1) "__getattribute__" = some (some (.builtin "BaseException.__getattribute__")))
    (eb1 : PySem.W.findIn K (.ref c1) "__getattr__" = some none)
    (bE1 : PySem.W.subIn K (.ref c1) (.type "BaseException") = some true)
    (tE1 : PySem.W.typeIn K (.ref c1) = some (.type "type"))
    (hE1 : PySem.W.hasDictIn K c1 = true)
    (ed1 : PySem.W.findIn K (.ref c1) "__class__" = some (some (.builtin "object.__class__")))
    (eh1 : PySem.W.mroIn K c1 (.type "object") = some true)
    (ea2 : PySem.W.findIn K (.ref c2) "__getattribute__" = some (some (.builtin "BaseException.__getattribute__")))
    (eb2 : PySem.W.findIn K (.ref c2) "__getattr__" = some none)
    (bE2 : PySem.W.subIn K (.ref c2) (.type "BaseException") = some true)
    (tE2 : PySem.W.typeIn K (.ref c2) = some (.type "type"))
    (hE2 : PySem.W.hasDictIn K c2 = true)
    (ed2 : PySem.W.findIn K (.ref c2) "__class__" = some (some (.builtin "object.__class__")))
    (eh2 : PySem.W.mroIn K c2 (.type "object") = some true)
    (ea3 : PySem.W.findIn K (.ref c3) "__getattribute__" = some (some (.builtin "BaseException.__getattribute__")))
    (eb3 : PySem.W.findIn K (.ref c3) "__getattr__" = some none)
    (bE3 : PySem.W.subIn K (.ref c3) (.type "BaseException") = some true)
    (tE3 : PySem.W.typeIn K (.ref c3) = some (.type "type"))
    (hE3 : PySem.W.hasDictIn K c3 = true)
    (ed3 : PySem.W.findIn K (.ref c3) "__class__" = some (some (.builtin "object.__class__")))
    (eh3 : PySem.W.mroIn K c3 (.type "object") = some true)
    (ea4 : PySem.W.findIn K (.ref c4) "__getattribute__" = some (some (.builtin "BaseException.__getattribute__")))
    (eb4 : PySem.W.findIn K (.ref c4) "__getattr__" = some none)
    (hE4 : PySem.W.hasDictIn K c4 = true)
    (ed4 : PySem.W.findIn K (.ref c4) "__class__" = some (some (.builtin "object.__class__")))
    (eh4 : PySem.W.mroIn K c4 (.type "object") = some true)
    (ea5 : PySem.W.findIn K (.ref c5) "__getattribute__" = some (some (.builtin "BaseException.__getattribute__")))
    (eb5 : PySem.W.findIn K (.ref c5) "__getattr__" = some none)
    (bE5 : PySem.W.subIn K (.ref c5) (.type "BaseException") = some true)
    (tE5 : PySem.W.typeIn K (.ref c5) = some (.type "type"))
    (hE5 : PySem.W.hasDictIn K c5 = true)
    (ed5 : PySem.W.findIn K (.ref c5) "__class__" = some (some (.builtin "object.__class__")))
    (eh5 : PySem.W.mroIn K c5 (.type "object") = some true)
    (ea6 : PySem.W.findIn K (.ref c6) "__getattribute__" = some (some (.builtin "BaseException.__getattribute__")))
    (eb6 : PySem.W.findIn K (.ref c6) "__getattr__" = some none)
    (bE6 : PySem.W.subIn K (.ref c6) (.type "BaseException") = some true)
    (tE6 : PySem.W.typeIn K (.ref c6) = some (.type "type"))
    (hE6 : PySem.W.hasDictIn K c6 = true)
    (ed6 : PySem.W.findIn K (.ref c6) "__class__" = some (some (.builtin "object.__class__")))
    (eh6 : PySem.W.mroIn K c6 (.type "object") = some true)
    (ee : PySem.W.specialIn K (.builtin "object.__class__") "__get__" = some (some (.builtin "getset_descriptor.__get__")))
    (ef : PySem.W.takesIn K (.builtin "object.__class__") = some true)
    (sk0_2 : PySem.W.subIn K (.ref c0) (.ref c2) = some false)
    (nk0_2 : ¬ c0 = c2)
    (sk1_2 : PySem.W.subIn K (.ref c1) (.ref c2) = some false)
    (nk1_2 : ¬ c1 = c2)
    (sk2_2 : PySem.W.subIn K (.ref c2) (.ref c2) = some true)
    (sk3_2 : PySem.W.subIn K (.ref c3) (.ref c2) = some false)
    (nk3_2 : ¬ c3 = c2)
    (sk4_2 : PySem.W.subIn K (.ref c4) (.ref c2) = some false)
    (nk4_2 : ¬ c4 = c2)
    (sk5_2 : PySem.W.subIn K (.ref c5) (.ref c2) = some false)
    (nk5_2 : ¬ c5 = c2)
    (sk6_2 : PySem.W.subIn K (.ref c6) (.ref c2) = some false)
    (nk6_2 : ¬ c6 = c2)
    (sk0_4 : PySem.W.subIn K (.ref c0) (.ref c4) = some false)
    (nk0_4 : ¬ c0 = c4)
    (sk1_4 : PySem.W.subIn K (.ref c1) (.ref c4) = some false)
    (nk1_4 : ¬ c1 = c4)
    (sk2_4 : PySem.W.subIn K (.ref c2) (.ref c4) = some false)
    (nk2_4 : ¬ c2 = c4)
    (sk3_4 : PySem.W.subIn K (.ref c3) (.ref c4) = some false)
    (nk3_4 : ¬ c3 = c4)
    (sk4_4 : PySem.W.subIn K (.ref c4) (.ref c4) = some true)
    (sk5_4 : PySem.W.subIn K (.ref c5) (.ref c4) = some false)
    (nk5_4 : ¬ c5 = c4)
    (sk6_4 : PySem.W.subIn K (.ref c6) (.ref c4) = some false)
    (nk6_4 : ¬ c6 = c4)
    (sk0_5 : PySem.W.subIn K (.ref c0) (.ref c5) = some false)
    (nk0_5 : ¬ c0 = c5)
    (sk1_5 : PySem.W.subIn K (.ref c1) (.ref c5) = some false)
    (nk1_5 : ¬ c1 = c5)
    (sk2_5 : PySem.W.subIn K (.ref c2) (.ref c5) = some false)
    (nk2_5 : ¬ c2 = c5)
    (sk3_5 : PySem.W.subIn K (.ref c3) (.ref c5) = some false)
    (nk3_5 : ¬ c3 = c5)
    (sk4_5 : PySem.W.subIn K (.ref c4) (.ref c5) = some false)
    (nk4_5 : ¬ c4 = c5)
    (sk5_5 : PySem.W.subIn K (.ref c5) (.ref c5) = some true)
    (sk6_5 : PySem.W.subIn K (.ref c6) (.ref c5) = some false)
    (nk6_5 : ¬ c6 = c5)
    (sk0_6 : PySem.W.subIn K (.ref c0) (.ref c6) = some false)
    (nk0_6 : ¬ c0 = c6)
    (sk1_6 : PySem.W.subIn K (.ref c1) (.ref c6) = some false)
    (nk1_6 : ¬ c1 = c6)
    (sk2_6 : PySem.W.subIn K (.ref c2) (.ref c6) = some false)
    (nk2_6 : ¬ c2 = c6)
    (sk3_6 : PySem.W.subIn K (.ref c3) (.ref c6) = some false)
    (nk3_6 : ¬ c3 = c6)
    (sk4_6 : PySem.W.subIn K (.ref c4) (.ref c6) = some false)
    (nk4_6 : ¬ c4 = c6)
    (sk5_6 : PySem.W.subIn K (.ref c5) (.ref c6) = some false)
    (nk5_6 : ¬ c5 = c6)
    (sk6_6 : PySem.W.subIn K (.ref c6) (.ref c6) = some true)
    (sk0_3 : PySem.W.subIn K (.ref c0) (.ref c3) = some false)
    (nk0_3 : ¬ c0 = c3)
    (sk1_3 : PySem.W.subIn K (.ref c1) (.ref c3) = some false)
    (nk1_3 : ¬ c1 = c3)
    (sk2_3 : PySem.W.subIn K (.ref c2) (.ref c3) = some false)
    (nk2_3 : ¬ c2 = c3)
    (sk3_3 : PySem.W.subIn K (.ref c3) (.ref c3) = some true)
    (sk4_3 : PySem.W.subIn K (.ref c4) (.ref c3) = some false)
    (nk4_3 : ¬ c4 = c3)
    (sk5_3 : PySem.W.subIn K (.ref c5) (.ref c3) = some false)
    (nk5_3 : ¬ c5 = c3)
    (sk6_3 : PySem.W.subIn K (.ref c6) (.ref c3) = some false)
    (nk6_3 : ¬ c6 = c3)
    (sk0_1 : PySem.W.subIn K (.ref c0) (.ref c1) = some false)
    (nk0_1 : ¬ c0 = c1)
    (sk1_1 : PySem.W.subIn K (.ref c1) (.ref c1) = some true)
    (sk2_1 : PySem.W.subIn K (.ref c2) (.ref c1) = some false)
    (nk2_1 : ¬ c2 = c1)
    (sk3_1 : PySem.W.subIn K (.ref c3) (.ref c1) = some false)
    (nk3_1 : ¬ c3 = c1)
    (sk4_1 : PySem.W.subIn K (.ref c4) (.ref c1) = some false)
    (nk4_1 : ¬ c4 = c1)
    (sk5_1 : PySem.W.subIn K (.ref c5) (.ref c1) = some false)
    (nk5_1 : ¬ c5 = c1)
    (sk6_1 : PySem.W.subIn K (.ref c6) (.ref c1) = some false)
    (nk6_1 : ¬ c6 = c1)
    (kv0 : PySem.W.subIn K (.ref c0) (.type "ValueError") = some true)
    (kv1 : PySem.W.subIn K (.ref c1) (.type "ValueError") = some true)
    (kv2 : PySem.W.subIn K (.ref c2) (.type "ValueError") = some true)
    (kv3 : PySem.W.subIn K (.ref c3) (.type "ValueError") = some true)
    (kv4 : PySem.W.subIn K (.ref c4) (.type "ValueError") = some true)
    (kv5 : PySem.W.subIn K (.ref c5) (.type "ValueError") = some true)
    (kv6 : PySem.W.subIn K (.ref c6) (.type "ValueError") = some true)
    (z_ValueError : PySem.W.nsIn K mainGlobals "ValueError" = some none)
    (z_bool : PySem.W.nsIn K mainGlobals "bool" = some none)
    (z_int : PySem.W.nsIn K mainGlobals "int" = some none)
    (z_isinstance : PySem.W.nsIn K mainGlobals "isinstance" = some none)
    (z_len : PySem.W.nsIn K mainGlobals "len" = some none)
    (z_list : PySem.W.nsIn K mainGlobals "list" = some none)
    (z_range : PySem.W.nsIn K mainGlobals "range" = some none)
    (z_set : PySem.W.nsIn K mainGlobals "set" = some none)
    (z_sorted : PySem.W.nsIn K mainGlobals "sorted" = some none)
    : ∃ fd : FuncData, (∀ (s : Shared) (v : Value), BindsTo s fd ⟨[v], []⟩ [("_law_script", v)]) ∧ ∀ base : Heap, K.In base → base.Ns mainGlobals mg → FnOk l.prog w K mg base CX0 7 fa fd ["_law_script"] (sp_top K) := by
  have e := hfa.symm.trans (PySem.W.mg_of X H a26)
  cases e
  have F0 := fun_mk (st := s_Index___init__) l0 cc0 k0
  have b0 := F0.binds (ps := ["self"]) fun _ _ _ _ _ _ us hl => match us, hl with | [_], _ => rfl
  have F1 := fun_mk (st := s_Index_sure) l1 cc1 k1
  have b1 := F1.binds (ps := ["self", "name"]) fun _ _ _ _ _ _ us hl => match us, hl with | [_, _], _ => rfl
  have F2 := fun_mk (st := s_Index_add) l2 cc2 k2
  have b2 := F2.binds (ps := ["self", "name", "words"]) fun _ _ _ _ _ _ us hl => match us, hl with | [_, _, _], _ => rfl
  have F3 := fun_mk (st := s_Index_take_out) l3 cc3 k3
  have b3 := F3.binds (ps := ["self", "name"]) fun _ _ _ _ _ _ us hl => match us, hl with | [_, _], _ => rfl
  have F4 := fun_mk (st := s_Index_having) l4 cc4 k4
  have b4 := F4.binds (ps := ["self", "word"]) fun _ _ _ _ _ _ us hl => match us, hl with | [_, _], _ => rfl
  have F5 := fun_mk (st := s_Index_words) l5 cc5 k5
  have b5 := F5.binds (ps := ["self", "name"]) fun _ _ _ _ _ _ us hl => match us, hl with | [_, _], _ => rfl
  have F6 := fun_mk (st := s_Index_all_words) l6 cc6 k6
  have b6 := F6.binds (ps := ["self"]) fun _ _ _ _ _ _ us hl => match us, hl with | [_], _ => rfl
  have F7 := fun_mk (st := s_Threads___init__) l7 cc7 k7
  have b7 := F7.binds (ps := ["self"]) fun _ _ _ _ _ _ us hl => match us, hl with | [_], _ => rfl
  have F8 := fun_mk (st := s_Threads_pile) l8 cc8 k8
  have b8 := F8.binds (ps := ["self", "name"]) fun _ _ _ _ _ _ us hl => match us, hl with | [_, _], _ => rfl
  have F9 := fun_mk (st := s_Threads_put_together) l9 cc9 k9
  have b9 := F9.binds (ps := ["self", "one", "other"]) fun _ _ _ _ _ _ us hl => match us, hl with | [_, _, _], _ => rfl
  have F10 := fun_mk (st := s_Threads_hang) l10 cc10 k10
  have b10 := F10.binds (ps := ["self", "name"]) fun _ _ _ _ _ _ us hl => match us, hl with | [_, _], _ => rfl
  have F11 := fun_mk (st := s_Threads_sure) l11 cc11 k11
  have b11 := F11.binds (ps := ["self", "name"]) fun _ _ _ _ _ _ us hl => match us, hl with | [_, _], _ => rfl
  have k12 := F12.kp
  have b12 : Binds K fd12 ["self", "name", "answers"] [] := by
    obtain ⟨ds, hv, hb⟩ := F12.binds1 (ps := ["self", "name", "answers"]) 3 1 (by simp) rfl (fun _ _ _ _ _ _ _ us its hl hi => match us, its, hl, hi with | [_, _, _], [_], _, _ => ⟨_, rfl, rfl⟩)
    cases hv; exact hb
  obtain ⟨ds12_2, bd12_2⟩ := F12.binds1 (ps := ["self", "name", "answers"]) 2 0 (by simp) rfl (fun _ _ _ _ _ _ _ us its hl hi => match us, its, hl, hi with | [_, _], [_], _, _ => ⟨_, rfl, rfl⟩)
  have F13 := fun_mk (st := s_Threads_take_out) l13 cc13 k13
  have b13 := F13.binds (ps := ["self", "name"]) fun _ _ _ _ _ _ us hl => match us, hl with | [_, _], _ => rfl
  have F14 := fun_mk (st := s_Threads_names) l14 cc14 k14
  have b14 := F14.binds (ps := ["self"]) fun _ _ _ _ _ _ us hl => match us, hl with | [_], _ => rfl
  have F15 := fun_mk (st := s_Threads_thread) l15 cc15 k15
  have b15 := F15.binds (ps := ["self", "name"]) fun _ _ _ _ _ _ us hl => match us, hl with | [_, _], _ => rfl
  have F16 := fun_mk (st := s_Threads_threads) l16 cc16 k16
  have b16 := F16.binds (ps := ["self"]) fun _ _ _ _ _ _ us hl => match us, hl with | [_], _ => rfl
  have F17 := fun_mk (st := s_Threads_answers_to) l17 cc17 k17
  have b17 := F17.binds (ps := ["self", "name"]) fun _ _ _ _ _ _ us hl => match us, hl with | [_, _], _ => rfl
  have F18 := fun_mk (st := s_Threads_depth) l18 cc18 k18
  have b18 := F18.binds (ps := ["self", "name"]) fun _ _ _ _ _ _ us hl => match us, hl with | [_, _], _ => rfl
  have F19 := fun_mk (st := s_law_draws) l19 cc19 k19
  have b19 := F19.binds (ps := ["_law_script", "_law_many"]) fun _ _ _ _ _ _ us hl => match us, hl with | [_, _], _ => rfl
  have F20 := fun_mk (st := s_law_name_by) l20 cc20 k20
  have b20 := F20.binds (ps := ["_law_shape", "_law_k"]) fun _ _ _ _ _ _ us hl => match us, hl with | [_, _], _ => rfl
  have F21 := fun_mk (st := s_law_pool) l21 cc21 k21
  have b21 := F21.binds (ps := ["_law_draws_here"]) fun _ _ _ _ _ _ us hl => match us, hl with | [_], _ => rfl
  have F22 := fun_mk (st := s_law_called) l22 cc22 k22
  have b22 := F22.binds (ps := ["_law_call", "_law_threads", "_law_index", "_law_name", "_law_bad"]) fun _ _ _ _ _ _ us hl => match us, hl with | [_, _, _, _, _], _ => rfl
  have F23 := fun_mk (st := s_law_refused) l23 cc23 k23
  have b23 := F23.binds (ps := ["_law_call", "_law_threads", "_law_index", "_law_name"]) fun _ _ _ _ _ _ us hl => match us, hl with | [_, _, _, _], _ => rfl
  have F24 := fun_mk (st := s_law_due) l24 cc24 k24
  have b24 := F24.binds (ps := ["_law_call", "_law_name"]) fun _ _ _ _ _ _ us hl => match us, hl with | [_, _], _ => rfl
  have F25 := fun_mk (st := s_law_step) l25 cc25 k25
  have b25 := F25.binds (ps := ["_law_call", "_law_threads", "_law_index", "_law_name", "_law_there"]) fun _ _ _ _ _ _ us hl => match us, hl with | [_, _, _, _, _], _ => rfl
  have F26 := fun_mk (st := s_law) l26 cc26 k26
  have b26 := F26.binds (ps := ["_law_script"]) fun _ _ _ _ _ _ us hl => match us, hl with | [_], _ => rfl
  let G : Gx := ⟨K, fun a => none, fun i => ([c0, c1, c2, c3, c4, c5, c6, c7, c8] : List Addr).getD i 0⟩
  have hfz7 : G.fz (G.cl 7) = none := by show (none) = none; rfl
  have hfz8 : G.fz (G.cl 8) = none := by show (none) = none; rfl
  let T : Txt G mg := {
    a_Index___init__ := f0,
    fd_Index___init__ := _,
    F_Index___init__ := F0,
    b_Index___init__ := b0,
    kp_Index___init__ := k0,
    k_Index := ⟨mk7, a0_7, i0, kc7⟩,
    a_Index_sure := f1,
    fd_Index_sure := _,
    F_Index_sure := F1,
    b_Index_sure := b1,
    kp_Index_sure := k1,
    m_Index_sure := ⟨a1_7, i1, k1⟩,
    a_Index_add := f2,
    fd_Index_add := _,
    F_Index_add := F2,
    b_Index_add := b2,
    kp_Index_add := k2,
    m_Index_add := ⟨a2_7, i2, k2⟩,
    a_Index_take_out := f3,
    fd_Index_take_out := _,
    F_Index_take_out := F3,
    b_Index_take_out := b3,
    kp_Index_take_out := k3,
    m_Index_take_out := ⟨a3_7, i3, k3⟩,
    a_Index_having := f4,
    fd_Index_having := _,
    F_Index_having := F4,
    b_Index_having := b4,
    kp_Index_having := k4,
    m_Index_having := ⟨a4_7, i4, k4⟩,
    a_Index_words := f5,
    fd_Index_words := _,
    F_Index_words := F5,
    b_Index_words := b5,
    kp_Index_words := k5,
    m_Index_words := ⟨a5_7, i5, k5⟩,
    a_Index_all_words := f6,
    fd_Index_all_words := _,
    F_Index_all_words := F6,
    b_Index_all_words := b6,
    kp_Index_all_words := k6,
    m_Index_all_words := ⟨a6_7, i6, k6⟩,
    a_Threads___init__ := f7,
    fd_Threads___init__ := _,
    F_Threads___init__ := F7,
    b_Threads___init__ := b7,
    kp_Threads___init__ := k7,
    k_Threads := ⟨mk8, a7_8, i7, kc8⟩,
    a_Threads_pile := f8,
    fd_Threads_pile := _,
    F_Threads_pile := F8,
    b_Threads_pile := b8,
    kp_Threads_pile := k8,
    m_Threads_pile := ⟨a8_8, i8, k8⟩,
    a_Threads_put_together := f9,
    fd_Threads_put_together := _,
    F_Threads_put_together := F9,
    b_Threads_put_together := b9,
    kp_Threads_put_together := k9,
    m_Threads_put_together := ⟨a9_8, i9, k9⟩,
    a_Threads_hang := f10,
    fd_Threads_hang := _,
    F_Threads_hang := F10,
    b_Threads_hang := b10,
    kp_Threads_hang := k10,
    m_Threads_hang := ⟨a10_8, i10, k10⟩,
    a_Threads_sure := f11,
    fd_Threads_sure := _,
    F_Threads_sure := F11,
    b_Threads_sure := b11,
    kp_Threads_sure := k11,
    m_Threads_sure := ⟨a11_8, i11, k11⟩,
    a_Threads_add := f12,
    fd_Threads_add := _,
    F_Threads_add := F12,
    b_Threads_add := b12,
    kp_Threads_add := k12,
    ds_Threads_add_2 := ds12_2,
    bd_Threads_add_2 := bd12_2,
    m_Threads_add := ⟨a12_8, i12, k12⟩,
    a_Threads_take_out := f13,
    fd_Threads_take_out := _,
    F_Threads_take_out := F13,
    b_Threads_take_out := b13,
    kp_Threads_take_out := k13,
    m_Threads_take_out := ⟨a13_8, i13, k13⟩,
    a_Threads_names := f14,
    fd_Threads_names := _,
    F_Threads_names := F14,
    b_Threads_names := b14,
    kp_Threads_names := k14,
    m_Threads_names := ⟨a14_8, i14, k14⟩,
    a_Threads_thread := f15,
    fd_Threads_thread := _,
    F_Threads_thread := F15,
    b_Threads_thread := b15,
    kp_Threads_thread := k15,
    m_Threads_thread := ⟨a15_8, i15, k15⟩,
    a_Threads_threads := f16,
    fd_Threads_threads := _,
    F_Threads_threads := F16,
    b_Threads_threads := b16,
    kp_Threads_threads := k16,
    m_Threads_threads := ⟨a16_8, i16, k16⟩,
    a_Threads_answers_to := f17,
    fd_Threads_answers_to := _,
    F_Threads_answers_to := F17,
    b_Threads_answers_to := b17,
    kp_Threads_answers_to := k17,
    m_Threads_answers_to := ⟨a17_8, i17, k17⟩,
    a_Threads_depth := f18,
    fd_Threads_depth := _,
    F_Threads_depth := F18,
    b_Threads_depth := b18,
    kp_Threads_depth := k18,
    m_Threads_depth := ⟨a18_8, i18, k18⟩,
    a_law_draws := f19,
    fd_law_draws := _,
    F_law_draws := F19,
    b_law_draws := b19,
    kp_law_draws := k19,
    g_law_draws := PySem.W.mg_of X H a19,
    a_law_name_by := f20,
    fd_law_name_by := _,
    F_law_name_by := F20,
    b_law_name_by := b20,
    kp_law_name_by := k20,
    g_law_name_by := PySem.W.mg_of X H a20,
    a_law_pool := f21,
    fd_law_pool := _,
    F_law_pool := F21,
    b_law_pool := b21,
    kp_law_pool := k21,
    g_law_pool := PySem.W.mg_of X H a21,
    a_law_called := f22,
    fd_law_called := _,
    F_law_called := F22,
    b_law_called := b22,
    kp_law_called := k22,
    g_law_called := PySem.W.mg_of X H a22,
    a_law_refused := f23,
    fd_law_refused := _,
    F_law_refused := F23,
    b_law_refused := b23,
    kp_law_refused := k23,
    g_law_refused := PySem.W.mg_of X H a23,
    a_law_due := f24,
    fd_law_due := _,
    F_law_due := F24,
    b_law_due := b24,
    kp_law_due := k24,
    g_law_due := PySem.W.mg_of X H a24,
    a_law_step := f25,
    fd_law_step := _,
    F_law_step := F25,
    b_law_step := b25,
    kp_law_step := k25,
    g_law_step := PySem.W.mg_of X H a25,
    a_law := fa,
    fd_law := _,
    F_law := F26,
    b_law := b26,
    kp_law := k26,
    g_law := PySem.W.mg_of X H a26,
    g_MailError := PySem.W.mg_of X H ac0,
    ex_MailError := by
          intro i hi
          have hi : i ∈ [0, 1, 2, 3, 4, 5, 6] := by simpa using hi
          simp only [List.mem_cons, List.not_mem_nil, or_false] at hi
          rcases hi with rfl | rfl | rfl | rfl | rfl | rfl | rfl
          · exact PySem.W.exm_ref bE0 hE0 tE0 s0_0
          · exact PySem.W.exm_ref bE0 hE0 tE0 s1_0
          · exact PySem.W.exm_ref bE0 hE0 tE0 s2_0
          · exact PySem.W.exm_ref bE0 hE0 tE0 s3_0
          · exact PySem.W.exm_ref bE0 hE0 tE0 s4_0
          · exact PySem.W.exm_ref bE0 hE0 tE0 s5_0
          · exact PySem.W.exm_ref bE0 hE0 tE0 s6_0,
    g_NoWord := PySem.W.mg_of X H ac1,
    g_NoLetter := PySem.W.mg_of X H ac2,
    g_NoRule := PySem.W.mg_of X H ac3,
    g_NoName := PySem.W.mg_of X H ac4,
    x_NoName := xE4,
    kp_NoName := kE4,
    r_NoName := fun {Y} hY => raises_own (by rw [hY]; exact bE4) (by rw [hY]; exact tE4),
    g_NoParcel := PySem.W.mg_of X H ac5,
    g_NoRow := PySem.W.mg_of X H ac6,
    g_Index := PySem.W.mg_of X H ac7,
    cl_Index := ⟨pg7, hd7, po7, sa7⟩,
    n_Index_rows_of := nf7_0,
    n_Index_holders := nf7_1,
    fz_Index := hfz7,
    g_Threads := PySem.W.mg_of X H ac8,
    cl_Threads := ⟨pg8, hd8, po8, sa8⟩,
    n_Threads_goes_to := nf8_0,
    n_Threads_pile_of := nf8_1,
    n_Threads_piles := nf8_2,
    n_Threads_comes_from := nf8_3,
    n_Threads_made := nf8_4,
    fz_Threads := hfz8,
    ec_ := by
      intro i hi
      have hi : i ∈ [0, 1, 2, 3, 4, 5, 6] := by simpa using hi
      simp only [List.mem_cons, List.not_mem_nil, or_false] at hi
      rcases hi with rfl | rfl | rfl | rfl | rfl | rfl | rfl
      · exact ⟨ea0, eb0, bE0, hE0, ed0, ee, ef, eh0⟩
      · exact ⟨ea1, eb1, bE1, hE1, ed1, ee, ef, eh1⟩
      · exact ⟨ea2, eb2, bE2, hE2, ed2, ee, ef, eh2⟩
      · exact ⟨ea3, eb3, bE3, hE3, ed3, ee, ef, eh3⟩
      · exact ⟨ea4, eb4, bE4, hE4, ed4, ee, ef, eh4⟩
      · exact ⟨ea5, eb5, bE5, hE5, ed5, ee, ef, eh5⟩
      · exact ⟨ea6, eb6, bE6, hE6, ed6, ee, ef, eh6⟩,
    ki_NoLetter := by
      intro i hi
      have hi : i ∈ [0, 1, 2, 3, 4, 5, 6] := by simpa using hi
      simp only [List.mem_cons, List.not_mem_nil, or_false] at hi
      rcases hi with rfl | rfl | rfl | rfl | rfl | rfl | rfl
      · exact PySem.W.kit_own hE2 tE2 sk0_2 (.inr nk0_2)
      · exact PySem.W.kit_own hE2 tE2 sk1_2 (.inr nk1_2)
      · exact PySem.W.kit_own hE2 tE2 sk2_2 (.inl rfl)
      · exact PySem.W.kit_own hE2 tE2 sk3_2 (.inr nk3_2)
      · exact PySem.W.kit_own hE2 tE2 sk4_2 (.inr nk4_2)
      · exact PySem.W.kit_own hE2 tE2 sk5_2 (.inr nk5_2)
      · exact PySem.W.kit_own hE2 tE2 sk6_2 (.inr nk6_2),
    ki_NoName := by
      intro i hi
      have hi : i ∈ [0, 1, 2, 3, 4, 5, 6] := by simpa using hi
      simp only [List.mem_cons, List.not_mem_nil, or_false] at hi
      rcases hi with rfl | rfl | rfl | rfl | rfl | rfl | rfl
      · exact PySem.W.kit_own hE4 tE4 sk0_4 (.inr nk0_4)
      · exact PySem.W.kit_own hE4 tE4 sk1_4 (.inr nk1_4)
      · exact PySem.W.kit_own hE4 tE4 sk2_4 (.inr nk2_4)
      · exact PySem.W.kit_own hE4 tE4 sk3_4 (.inr nk3_4)
      · exact PySem.W.kit_own hE4 tE4 sk4_4 (.inl rfl)
      · exact PySem.W.kit_own hE4 tE4 sk5_4 (.inr nk5_4)
      · exact PySem.W.kit_own hE4 tE4 sk6_4 (.inr nk6_4),
    ki_NoParcel := by
      intro i hi
      have hi : i ∈ [0, 1, 2, 3, 4, 5, 6] := by simpa using hi
      simp only [List.mem_cons, List.not_mem_nil, or_false] at hi
      rcases hi with rfl | rfl | rfl | rfl | rfl | rfl | rfl
      · exact PySem.W.kit_own hE5 tE5 sk0_5 (.inr nk0_5)
      · exact PySem.W.kit_own hE5 tE5 sk1_5 (.inr nk1_5)
      · exact PySem.W.kit_own hE5 tE5 sk2_5 (.inr nk2_5)
      · exact PySem.W.kit_own hE5 tE5 sk3_5 (.inr nk3_5)
      · exact PySem.W.kit_own hE5 tE5 sk4_5 (.inr nk4_5)
      · exact PySem.W.kit_own hE5 tE5 sk5_5 (.inl rfl)
      · exact PySem.W.kit_own hE5 tE5 sk6_5 (.inr nk6_5),
    ki_NoRow := by
      intro i hi
      have hi : i ∈ [0, 1, 2, 3, 4, 5, 6] := by simpa using hi
      simp only [List.mem_cons, List.not_mem_nil, or_false] at hi
      rcases hi with rfl | rfl | rfl | rfl | rfl | rfl | rfl
      · exact PySem.W.kit_own hE6 tE6 sk0_6 (.inr nk0_6)
      · exact PySem.W.kit_own hE6 tE6 sk1_6 (.inr nk1_6)
      · exact PySem.W.kit_own hE6 tE6 sk2_6 (.inr nk2_6)
      · exact PySem.W.kit_own hE6 tE6 sk3_6 (.inr nk3_6)
      · exact PySem.W.kit_own hE6 tE6 sk4_6 (.inr nk4_6)
      · exact PySem.W.kit_own hE6 tE6 sk5_6 (.inr nk5_6)
      · exact PySem.W.kit_own hE6 tE6 sk6_6 (.inl rfl),
    ki_NoRule := by
      intro i hi
      have hi : i ∈ [0, 1, 2, 3, 4, 5, 6] := by simpa using hi
      simp only [List.mem_cons, List.not_mem_nil, or_false] at hi
      rcases hi with rfl | rfl | rfl | rfl | rfl | rfl | rfl
      · exact PySem.W.kit_own hE3 tE3 sk0_3 (.inr nk0_3)
      · exact PySem.W.kit_own hE3 tE3 sk1_3 (.inr nk1_3)
      · exact PySem.W.kit_own hE3 tE3 sk2_3 (.inr nk2_3)
      · exact PySem.W.kit_own hE3 tE3 sk3_3 (.inl rfl)
      · exact PySem.W.kit_own hE3 tE3 sk4_3 (.inr nk4_3)
      · exact PySem.W.kit_own hE3 tE3 sk5_3 (.inr nk5_3)
      · exact PySem.W.kit_own hE3 tE3 sk6_3 (.inr nk6_3),
    ki_NoWord := by
      intro i hi
      have hi : i ∈ [0, 1, 2, 3, 4, 5, 6] := by simpa using hi
      simp only [List.mem_cons, List.not_mem_nil, or_false] at hi
      rcases hi with rfl | rfl | rfl | rfl | rfl | rfl | rfl
      · exact PySem.W.kit_own hE1 tE1 sk0_1 (.inr nk0_1)
      · exact PySem.W.kit_own hE1 tE1 sk1_1 (.inl rfl)
      · exact PySem.W.kit_own hE1 tE1 sk2_1 (.inr nk2_1)
      · exact PySem.W.kit_own hE1 tE1 sk3_1 (.inr nk3_1)
      · exact PySem.W.kit_own hE1 tE1 sk4_1 (.inr nk4_1)
      · exact PySem.W.kit_own hE1 tE1 sk5_1 (.inr nk5_1)
      · exact PySem.W.kit_own hE1 tE1 sk6_1 (.inr nk6_1),
    ki_ValueError := by
      intro i hi
      have hi : i ∈ [0, 1, 2, 3, 4, 5, 6] := by simpa using hi
      simp only [List.mem_cons, List.not_mem_nil, or_false] at hi
      rcases hi with rfl | rfl | rfl | rfl | rfl | rfl | rfl
      · exact PySem.W.kit_val kv0
      · exact PySem.W.kit_val kv1
      · exact PySem.W.kit_val kv2
      · exact PySem.W.kit_val kv3
      · exact PySem.W.kit_val kv4
      · exact PySem.W.kit_val kv5
      · exact PySem.W.kit_val kv6,
    z_ValueError := PySem.W.mg_none_of X H z_ValueError,
    z_bool := PySem.W.mg_none_of X H z_bool,
    z_int := PySem.W.mg_none_of X H z_int,
    z_isinstance := PySem.W.mg_none_of X H z_isinstance,
    z_len := PySem.W.mg_none_of X H z_len,
    z_list := PySem.W.mg_none_of X H z_list,
    z_range := PySem.W.mg_none_of X H z_range,
    z_set := PySem.W.mg_none_of X H z_set,
    z_sorted := PySem.W.mg_none_of X H z_sorted }
  refine ⟨T.fd_law, fun s v => .of_eq rfl, fun base _ _ => ((ok_law T : FnOk l.prog w K mg base CX0 7 fa T.fd_law ["_law_script"] (sp_law G)).imp fun vs H Q E hh => ?_)⟩
  obtain ⟨a, ns, rfl, hs, ho, hl, hq⟩ := hh
  exact ⟨.ref a, ⟨ns⟩, star [], rfl, im_of_only (G := G) ho hs, Sep.unstar (M := []) (Sep.nil H), R.wp_of (law_ok ⟨ns⟩ hl) fun H' _ => hq H'⟩
theorem says_mk {l : PySem.W.OpenLaw} {w : World} {K : PySem.W.Frag} {h : Heap} {mg : Str → Option Value} {fa : Addr} (X : K.In h) (H : h.Ns mainGlobals mg) (hfa : mg "law" = some (.ref fa)) (c : obsK K = valK)
    : ∃ fd : FuncData, (∀ (s : Shared) (v : Value), BindsTo s fd ⟨[v], []⟩ [("_law_script", v)]) ∧ ∀ base : Heap, K.In base → base.Ns mainGlobals mg → FnOk l.prog w K mg base CX0 7 fa fd ["_law_script"] (sp_top K) := by
  have hb : ((fb0 K).all id && (fb1 K).all id && (fb2 K).all id && (fb3 K).all id && (fb4 K).all id && (fb5 K).all id) = true := congrArg (fun z : ObT => z.1) c
  simp only [Bool.and_eq_true] at hb
  obtain ⟨⟨⟨⟨⟨g0, g1⟩, g2⟩, g3⟩, g4⟩, g5⟩ := hb
  have cD0 : obsD dfns0 K = valD dfns0 := congrArg (fun z : ObT => z.2) c
  have ac0 : PySem.W.nsIn K mainGlobals "MailError" = some (some (.ref 24)) := of_decide_eq_true (fxM g0 0 rfl)
  have ac1 : PySem.W.nsIn K mainGlobals "NoWord" = some (some (.ref 37)) := of_decide_eq_true (fxM g0 1 rfl)
  have ac2 : PySem.W.nsIn K mainGlobals "NoLetter" = some (some (.ref 49)) := of_decide_eq_true (fxM g0 2 rfl)
  have ac3 : PySem.W.nsIn K mainGlobals "NoRule" = some (some (.ref 69)) := of_decide_eq_true (fxM g0 3 rfl)
  have ac4 : PySem.W.nsIn K mainGlobals "NoName" = some (some (.ref 81)) := of_decide_eq_true (fxM g0 4 rfl)
  have ac5 : PySem.W.nsIn K mainGlobals "NoParcel" = some (some (.ref 93)) := of_decide_eq_true (fxM g0 5 rfl)
  have ac6 : PySem.W.nsIn K mainGlobals "NoRow" = some (some (.ref 105)) := of_decide_eq_true (fxM g0 6 rfl)
  have ac7 : PySem.W.nsIn K mainGlobals "Index" = some (some (.ref 166)) := of_decide_eq_true (fxM g0 7 rfl)
  have ac8 : PySem.W.nsIn K mainGlobals "Threads" = some (some (.ref 263)) := of_decide_eq_true (fxM g0 8 rfl)
  have a0_7 : PySem.W.findIn K (.ref 166) "__init__" = some (some (.ref 121)) := of_decide_eq_true (fxM g0 9 rfl)
  have i0 : PySem.W.isFn K (.ref 121) = true := of_decide_eq_true (fxM g0 10 rfl)
  have mk7 : PySem.W.makesIn K 166 = true := of_decide_eq_true (fxM g0 11 rfl)
  have kc7 : PySem.W.keepIn K (.ref 166) = true := of_decide_eq_true (fxM g0 12 rfl)
  have a1_7 : PySem.W.findIn K (.ref 166) "sure" = some (some (.ref 128)) := of_decide_eq_true (fxM g0 13 rfl)
  have i1 : PySem.W.isFn K (.ref 128) = true := of_decide_eq_true (fxM g0 14 rfl)
  have a2_7 : PySem.W.findIn K (.ref 166) "add" = some (some (.ref 135)) := of_decide_eq_true (fxM g0 15 rfl)
  have i2 : PySem.W.isFn K (.ref 135) = true := of_decide_eq_true (fxM g0 16 rfl)
  have a3_7 : PySem.W.findIn K (.ref 166) "take_out" = some (some (.ref 142)) := of_decide_eq_true (fxM g0 17 rfl)
  have i3 : PySem.W.isFn K (.ref 142) = true := of_decide_eq_true (fxM g0 18 rfl)
  have a4_7 : PySem.W.findIn K (.ref 166) "having" = some (some (.ref 149)) := of_decide_eq_true (fxM g0 19 rfl)
  have i4 : PySem.W.isFn K (.ref 149) = true := of_decide_eq_true (fxM g0 20 rfl)
  have a5_7 : PySem.W.findIn K (.ref 166) "words" = some (some (.ref 156)) := of_decide_eq_true (fxM g0 21 rfl)
  have i5 : PySem.W.isFn K (.ref 156) = true := of_decide_eq_true (fxM g0 22 rfl)
  have a6_7 : PySem.W.findIn K (.ref 166) "all_words" = some (some (.ref 163)) := of_decide_eq_true (fxM g0 23 rfl)
  have i6 : PySem.W.isFn K (.ref 163) = true := of_decide_eq_true (fxM g0 24 rfl)
  have a7_8 : PySem.W.findIn K (.ref 263) "__init__" = some (some (.ref 184)) := of_decide_eq_true (fxM g0 25 rfl)
  have i7 : PySem.W.isFn K (.ref 184) = true := of_decide_eq_true (fxM g0 26 rfl)
  have mk8 : PySem.W.makesIn K 263 = true := of_decide_eq_true (fxM g0 27 rfl)
  have kc8 : PySem.W.keepIn K (.ref 263) = true := of_decide_eq_true (fxM g0 28 rfl)
  have a8_8 : PySem.W.findIn K (.ref 263) "pile" = some (some (.ref 191)) := of_decide_eq_true (fxM g0 29 rfl)
  have i8 : PySem.W.isFn K (.ref 191) = true := of_decide_eq_true (fxM g0 30 rfl)
  have a9_8 : PySem.W.findIn K (.ref 263) "put_together" = some (some (.ref 198)) := of_decide_eq_true (fxM g0 31 rfl)
  have i9 : PySem.W.isFn K (.ref 198) = true := of_decide_eq_true (fxM g0 32 rfl)
  have a10_8 : PySem.W.findIn K (.ref 263) "hang" = some (some (.ref 205)) := of_decide_eq_true (fxM g0 33 rfl)
  have i10 : PySem.W.isFn K (.ref 205) = true := of_decide_eq_true (fxM g0 34 rfl)
  have a11_8 : PySem.W.findIn K (.ref 263) "sure" = some (some (.ref 212)) := of_decide_eq_true (fxM g0 35 rfl)
  have i11 : PySem.W.isFn K (.ref 212) = true := of_decide_eq_true (fxM g0 36 rfl)
  have a12_8 : PySem.W.findIn K (.ref 263) "add" = some (some (.ref 220)) := of_decide_eq_true (fxM g0 37 rfl)
  have i12 : PySem.W.isFn K (.ref 220) = true := of_decide_eq_true (fxM g0 38 rfl)
  have a13_8 : PySem.W.findIn K (.ref 263) "take_out" = some (some (.ref 227)) := of_decide_eq_true (fxM g0 39 rfl)
  have i13 : PySem.W.isFn K (.ref 227) = true := of_decide_eq_true (fxM g1 0 rfl)
  have a14_8 : PySem.W.findIn K (.ref 263) "names" = some (some (.ref 234)) := of_decide_eq_true (fxM g1 1 rfl)
  have i14 : PySem.W.isFn K (.ref 234) = true := of_decide_eq_true (fxM g1 2 rfl)
  have a15_8 : PySem.W.findIn K (.ref 263) "thread" = some (some (.ref 239)) := of_decide_eq_true (fxM g1 3 rfl)
  have i15 : PySem.W.isFn K (.ref 239) = true := of_decide_eq_true (fxM g1 4 rfl)
  have a16_8 : PySem.W.findIn K (.ref 263) "threads" = some (some (.ref 246)) := of_decide_eq_true (fxM g1 5 rfl)
  have i16 : PySem.W.isFn K (.ref 246) = true := of_decide_eq_true (fxM g1 6 rfl)
  have a17_8 : PySem.W.findIn K (.ref 263) "answers_to" = some (some (.ref 253)) := of_decide_eq_true (fxM g1 7 rfl)
  have i17 : PySem.W.isFn K (.ref 253) = true := of_decide_eq_true (fxM g1 8 rfl)
  have a18_8 : PySem.W.findIn K (.ref 263) "depth" = some (some (.ref 260)) := of_decide_eq_true (fxM g1 9 rfl)
  have i18 : PySem.W.isFn K (.ref 260) = true := of_decide_eq_true (fxM g1 10 rfl)
  have a19 : PySem.W.nsIn K mainGlobals "_law_draws" = some (some (.ref 274)) := of_decide_eq_true (fxM g1 11 rfl)
  have a20 : PySem.W.nsIn K mainGlobals "_law_name_by" = some (some (.ref 281)) := of_decide_eq_true (fxM g1 12 rfl)
  have a21 : PySem.W.nsIn K mainGlobals "_law_pool" = some (some (.ref 286)) := of_decide_eq_true (fxM g1 13 rfl)
  have a22 : PySem.W.nsIn K mainGlobals "_law_called" = some (some (.ref 293)) := of_decide_eq_true (fxM g1 14 rfl)
  have a23 : PySem.W.nsIn K mainGlobals "_law_refused" = some (some (.ref 300)) := of_decide_eq_true (fxM g1 15 rfl)
  have a24 : PySem.W.nsIn K mainGlobals "_law_due" = some (some (.ref 307)) := of_decide_eq_true (fxM g1 16 rfl)
  have a25 : PySem.W.nsIn K mainGlobals "_law_step" = some (some (.ref 314)) := of_decide_eq_true (fxM g1 17 rfl)
  have a26 : PySem.W.nsIn K mainGlobals "law" = some (some (.ref 319)) := of_decide_eq_true (fxM g1 18 rfl)
  have bE0 : PySem.W.subIn K (.ref 24) (.type "BaseException") = some true := of_decide_eq_true (fxM g1 19 rfl)
  have tE0 : PySem.W.typeIn K (.ref 24) = some (.type "type") := of_decide_eq_true (fxM g1 20 rfl)
  have hE0 : PySem.W.hasDictIn K 24 = true := of_decide_eq_true (fxM g1 21 rfl)
  have s0_0 : PySem.W.subIn K (.ref 24) (.ref 24) = some true := of_decide_eq_true (fxM g1 22 rfl)
  have s1_0 : PySem.W.subIn K (.ref 37) (.ref 24) = some true := of_decide_eq_true (fxM g1 23 rfl)
  have s2_0 : PySem.W.subIn K (.ref 49) (.ref 24) = some true := of_decide_eq_true (fxM g1 24 rfl)
  have s3_0 : PySem.W.subIn K (.ref 69) (.ref 24) = some true := of_decide_eq_true (fxM g1 25 rfl)
  have s4_0 : PySem.W.subIn K (.ref 81) (.ref 24) = some true := of_decide_eq_true (fxM g1 26 rfl)
  have s5_0 : PySem.W.subIn K (.ref 93) (.ref 24) = some true := of_decide_eq_true (fxM g1 27 rfl)
  have s6_0 : PySem.W.subIn K (.ref 105) (.ref 24) = some true := of_decide_eq_true (fxM g1 28 rfl)
  have xE4 : PySem.W.excIn K 81 [.type "ValueError", .type "Exception", .type "BaseException", .type "object"] "ValueError.__new__" = true := of_decide_eq_true (fxM g1 29 rfl)
  have kE4 : PySem.W.keepIn K (.ref 81) = true := of_decide_eq_true (fxM g1 30 rfl)
  have bE4 : PySem.W.subIn K (.ref 81) (.type "BaseException") = some true := of_decide_eq_true (fxM g1 31 rfl)
  have tE4 : PySem.W.typeIn K (.ref 81) = some (.type "type") := of_decide_eq_true (fxM g1 32 rfl)
  have pg7 : PySem.W.plainGet K 166 Str.empty = true := of_decide_eq_true (fxM g1 33 rfl)
  have hd7 : PySem.W.hasDictIn K 166 = true := of_decide_eq_true (fxM g1 34 rfl)
  have po7 : PySem.W.plainOver K 166 = true := of_decide_eq_true (fxM g1 35 rfl)
  have sa7 : PySem.W.findIn K (.ref 166) "__setattr__" = some (some (.builtin "object.__setattr__")) := of_decide_eq_true (fxM g1 36 rfl)
  have nf7_0 : PySem.W.findIn K (.ref 166) "rows_of" = some none := of_decide_eq_true (fxM g1 37 rfl)
  have nf7_1 : PySem.W.findIn K (.ref 166) "holders" = some none := of_decide_eq_true (fxM g1 38 rfl)
  have pg8 : PySem.W.plainGet K 263 Str.empty = true := of_decide_eq_true (fxM g1 39 rfl)
  have hd8 : PySem.W.hasDictIn K 263 = true := of_decide_eq_true (fxM g2 0 rfl)
  have po8 : PySem.W.plainOver K 263 = true := of_decide_eq_true (fxM g2 1 rfl)
  have sa8 : PySem.W.findIn K (.ref 263) "__setattr__" = some (some (.builtin "object.__setattr__")) := of_decide_eq_true (fxM g2 2 rfl)
  have nf8_0 : PySem.W.findIn K (.ref 263) "goes_to" = some none := of_decide_eq_true (fxM g2 3 rfl)
  have nf8_1 : PySem.W.findIn K (.ref 263) "pile_of" = some none := of_decide_eq_true (fxM g2 4 rfl)
  have nf8_2 : PySem.W.findIn K (.ref 263) "piles" = some none := of_decide_eq_true (fxM g2 5 rfl)
  have nf8_3 : PySem.W.findIn K (.ref 263) "comes_from" = some none := of_decide_eq_true (fxM g2 6 rfl)
  have nf8_4 : PySem.W.findIn K (.ref 263) "made" = some none := of_decide_eq_true (fxM g2 7 rfl)
  have ea0 : PySem.W.findIn K (.ref 24) "__getattribute__" = some (some (.builtin "BaseException.__getattribute__")) := of_decide_eq_true (fxM g2 8 rfl)
  have eb0 : PySem.W.findIn K (.ref 24) "__getattr__" = some none := of_decide_eq_true (fxM g2 9 rfl)
  have ed0 : PySem.W.findIn K (.ref 24) "__class__" = some (some (.builtin "object.__class__")) := of_decide_eq_true (fxM g2 10 rfl)
  have eh0 : PySem.W.mroIn K 24 (.type "object") = some true := of_decide_eq_true (fxM g2 11 rfl)
  have ea1 : PySem.W.findIn K (.ref 37) "__getattribute__" = some (some (.builtin "BaseException.__getattribute__")) := of_decide_eq_true (fxM g2 12 rfl)
  have eb1 : PySem.W.findIn K (.ref 37) "__getattr__" = some none := of_decide_eq_true (fxM g2 13 rfl)
  have bE1 : PySem.W.subIn K (.ref 37) (.type "BaseException") = some true := of_decide_eq_true (fxM g2 14 rfl)
  have tE1 : PySem.W.typeIn K (.ref 37) = some (.type "type") := of_decide_eq_true (fxM g2 15 rfl)
  have hE1 : PySem.W.hasDictIn K 37 = true := of_decide_eq_true (fxM g2 16 rfl)
  have ed1 : PySem.W.findIn K (.ref 37) "__class__" = some (some (.builtin "object.__class__")) := of_decide_eq_true (fxM g2 17 rfl)
  have eh1 : PySem.W.mroIn K 37 (.type "object") = some true := of_decide_eq_true (fxM g2 18 rfl)
  have ea2 : PySem.W.findIn K (.ref 49) "__getattribute__" = some (some (.builtin "BaseException.__getattribute__")) := of_decide_eq_true (fxM g2 19 rfl)
  have eb2 : PySem.W.findIn K (.ref 49) "__getattr__" = some none := of_decide_eq_true (fxM g2 20 rfl)
  have bE2 : PySem.W.subIn K (.ref 49) (.type "BaseException") = some true := of_decide_eq_true (fxM g2 21 rfl)
  have tE2 : PySem.W.typeIn K (.ref 49) = some (.type "type") := of_decide_eq_true (fxM g2 22 rfl)
  have hE2 : PySem.W.hasDictIn K 49 = true := of_decide_eq_true (fxM g2 23 rfl)
  have ed2 : PySem.W.findIn K (.ref 49) "__class__" = some (some (.builtin "object.__class__")) := of_decide_eq_true (fxM g2 24 rfl)
  have eh2 : PySem.W.mroIn K 49 (.type "object") = some true := of_decide_eq_true (fxM g2 25 rfl)
  have ea3 : PySem.W.findIn K (.ref 69) "__getattribute__" = some (some (.builtin "BaseException.__getattribute__")) := of_decide_eq_true (fxM g2 26 rfl)
  have eb3 : PySem.W.findIn K (.ref 69) "__getattr__" = some none := of_decide_eq_true (fxM g2 27 rfl)
  have bE3 : PySem.W.subIn K (.ref 69) (.type "BaseException") = some true := of_decide_eq_true (fxM g2 28 rfl)
  have tE3 : PySem.W.typeIn K (.ref 69) = some (.type "type") := of_decide_eq_true (fxM g2 29 rfl)
  have hE3 : PySem.W.hasDictIn K 69 = true := of_decide_eq_true (fxM g2 30 rfl)
  have ed3 : PySem.W.findIn K (.ref 69) "__class__" = some (some (.builtin "object.__class__")) := of_decide_eq_true (fxM g2 31 rfl)
  have eh3 : PySem.W.mroIn K 69 (.type "object") = some true := of_decide_eq_true (fxM g2 32 rfl)
  have ea4 : PySem.W.findIn K (.ref 81) "__getattribute__" = some (some (.builtin "BaseException.__getattribute__")) := of_decide_eq_true (fxM g2 33 rfl)
  have eb4 : PySem.W.findIn K (.ref 81) "__getattr__" = some none := of_decide_eq_true (fxM g2 34 rfl)
  have hE4 : PySem.W.hasDictIn K 81 = true := of_decide_eq_true (fxM g2 35 rfl)
  have ed4 : PySem.W.findIn K (.ref 81) "__class__" = some (some (.builtin "object.__class__")) := of_decide_eq_true (fxM g2 36 rfl)
  have eh4 : PySem.W.mroIn K 81 (.type "object") = some true := of_decide_eq_true (fxM g2 37 rfl)
  have ea5 : PySem.W.findIn K (.ref 93) "__getattribute__" = some (some (.builtin "BaseException.__getattribute__")) := of_decide_eq_true (fxM g2 38 rfl)
  have eb5 : PySem.W.findIn K (.ref 93) "__getattr__" = some none := of_decide_eq_true (fxM g2 39 rfl)
  have bE5 : PySem.W.subIn K (.ref 93) (.type "BaseException") = some true := of_decide_eq_true (fxM g3 0 rfl)
  have tE5 : PySem.W.typeIn K (.ref 93) = some (.type "type") := of_decide_eq_true (fxM g3 1 rfl)
  have hE5 : PySem.W.hasDictIn K 93 = true := of_decide_eq_true (fxM g3 2 rfl)
  have ed5 : PySem.W.findIn K (.ref 93) "__class__" = some (some (.builtin "object.__class__")) := of_decide_eq_true (fxM g3 3 rfl)
  have eh5 : PySem.W.mroIn K 93 (.type "object") = some true := of_decide_eq_true (fxM g3 4 rfl)
  have ea6 : PySem.W.findIn K (.ref 105) "__getattribute__" = some (some (.builtin "BaseException.__getattribute__")) := of_decide_eq_true (fxM g3 5 rfl)
  have eb6 : PySem.W.findIn K (.ref 105) "__getattr__" = some none := of_decide_eq_true (fxM g3 6 rfl)
  have bE6 : PySem.W.subIn K (.ref 105) (.type "BaseException") = some true := of_decide_eq_true (fxM g3 7 rfl)
  have tE6 : PySem.W.typeIn K (.ref 105) = some (.type "type") := of_decide_eq_true (fxM g3 8 rfl)
  have hE6 : PySem.W.hasDictIn K 105 = true := of_decide_eq_true (fxM g3 9 rfl)
  have ed6 : PySem.W.findIn K (.ref 105) "__class__" = some (some (.builtin "object.__class__")) := of_decide_eq_true (fxM g3 10 rfl)
  have eh6 : PySem.W.mroIn K 105 (.type "object") = some true := of_decide_eq_true (fxM g3 11 rfl)
  have ee : PySem.W.specialIn K (.builtin "object.__class__") "__get__" = some (some (.builtin "getset_descriptor.__get__")) := of_decide_eq_true (fxM g3 12 rfl)
  have ef : PySem.W.takesIn K (.builtin "object.__class__") = some true := of_decide_eq_true (fxM g3 13 rfl)
  have sk0_2 : PySem.W.subIn K (.ref 24) (.ref 49) = some false := of_decide_eq_true (fxM g3 14 rfl)
  have nk0_2 : ¬ 24 = 49 := of_decide_eq_true (fxM g3 15 rfl)
  have sk1_2 : PySem.W.subIn K (.ref 37) (.ref 49) = some false := of_decide_eq_true (fxM g3 16 rfl)
  have nk1_2 : ¬ 37 = 49 := of_decide_eq_true (fxM g3 17 rfl)
  have sk2_2 : PySem.W.subIn K (.ref 49) (.ref 49) = some true := of_decide_eq_true (fxM g3 18 rfl)
  have sk3_2 : PySem.W.subIn K (.ref 69) (.ref 49) = some false := of_decide_eq_true (fxM g3 19 rfl)
  have nk3_2 : ¬ 69 = 49 := of_decide_eq_true (fxM g3 20 rfl)
  have sk4_2 : PySem.W.subIn K (.ref 81) (.ref 49) = some false := of_decide_eq_true (fxM g3 21 rfl)
  have nk4_2 : ¬ 81 = 49 := of_decide_eq_true (fxM g3 22 rfl)
  have sk5_2 : PySem.W.subIn K (.ref 93) (.ref 49) = some false := of_decide_eq_true (fxM g3 23 rfl)
  have nk5_2 : ¬ 93 = 49 := of_decide_eq_true (fxM g3 24 rfl)
  have sk6_2 : PySem.W.subIn K (.ref 105) (.ref 49) = some false := of_decide_eq_true (fxM g3 25 rfl)
  have nk6_2 : ¬ 105 = 49 := of_decide_eq_true (fxM g3 26 rfl)
  have sk0_4 : PySem.W.subIn K (.ref 24) (.ref 81) = some false := of_decide_eq_true (fxM g3 27 rfl)
  have nk0_4 : ¬ 24 = 81 := of_decide_eq_true (fxM g3 28 rfl)
  have sk1_4 : PySem.W.subIn K (.ref 37) (.ref 81) = some false := of_decide_eq_true (fxM g3 29 rfl)
  have nk1_4 : ¬ 37 = 81 := of_decide_eq_true (fxM g3 30 rfl)
  have sk2_4 : PySem.W.subIn K (.ref 49) (.ref 81) = some false := of_decide_eq_true (fxM g3 31 rfl)
  have nk2_4 : ¬ 49 = 81 := of_decide_eq_true (fxM g3 32 rfl)
  have sk3_4 : PySem.W.subIn K (.ref 69) (.ref 81) = some false := of_decide_eq_true (fxM g3 33 rfl)
  have nk3_4 : ¬ 69 = 81 := of_decide_eq_true (fxM g3 34 rfl)
  have sk4_4 : PySem.W.subIn K (.ref 81) (.ref 81) = some true := of_decide_eq_true (fxM g3 35 rfl)
  have sk5_4 : PySem.W.subIn K (.ref 93) (.ref 81) = some false := of_decide_eq_true (fxM g3 36 rfl)
  have nk5_4 : ¬ 93 = 81 := of_decide_eq_true (fxM g3 37 rfl)
  have sk6_4 : PySem.W.subIn K (.ref 105) (.ref 81) = some false := of_decide_eq_true (fxM g3 38 rfl)
  have nk6_4 : ¬ 105 = 81 := of_decide_eq_true (fxM g3 39 rfl)
  have sk0_5 : PySem.W.subIn K (.ref 24) (.ref 93) = some false := of_decide_eq_true (fxM g4 0 rfl)
  have nk0_5 : ¬ 24 = 93 := of_decide_eq_true (fxM g4 1 rfl)
  have sk1_5 : PySem.W.subIn K (.ref 37) (.ref 93) = some false := of_decide_eq_true (fxM g4 2 rfl)
  have nk1_5 : ¬ 37 = 93 := of_decide_eq_true (fxM g4 3 rfl)
  have sk2_5 : PySem.W.subIn K (.ref 49) (.ref 93) = some false := of_decide_eq_true (fxM g4 4 rfl)
  have nk2_5 : ¬ 49 = 93 := of_decide_eq_true (fxM g4 5 rfl)
  have sk3_5 : PySem.W.subIn K (.ref 69) (.ref 93) = some false := of_decide_eq_true (fxM g4 6 rfl)
  have nk3_5 : ¬ 69 = 93 := of_decide_eq_true (fxM g4 7 rfl)
  have sk4_5 : PySem.W.subIn K (.ref 81) (.ref 93) = some false := of_decide_eq_true (fxM g4 8 rfl)
  have nk4_5 : ¬ 81 = 93 := of_decide_eq_true (fxM g4 9 rfl)
  have sk5_5 : PySem.W.subIn K (.ref 93) (.ref 93) = some true := of_decide_eq_true (fxM g4 10 rfl)
  have sk6_5 : PySem.W.subIn K (.ref 105) (.ref 93) = some false := of_decide_eq_true (fxM g4 11 rfl)
  have nk6_5 : ¬ 105 = 93 := of_decide_eq_true (fxM g4 12 rfl)
  have sk0_6 : PySem.W.subIn K (.ref 24) (.ref 105) = some false := of_decide_eq_true (fxM g4 13 rfl)
  have nk0_6 : ¬ 24 = 105 := of_decide_eq_true (fxM g4 14 rfl)
  have sk1_6 : PySem.W.subIn K (.ref 37) (.ref 105) = some false := of_decide_eq_true (fxM g4 15 rfl)
  have nk1_6 : ¬ 37 = 105 := of_decide_eq_true (fxM g4 16 rfl)
  have sk2_6 : PySem.W.subIn K (.ref 49) (.ref 105) = some false := of_decide_eq_true (fxM g4 17 rfl)
  have nk2_6 : ¬ 49 = 105 := of_decide_eq_true (fxM g4 18 rfl)
  have sk3_6 : PySem.W.subIn K (.ref 69) (.ref 105) = some false := of_decide_eq_true (fxM g4 19 rfl)
  have nk3_6 : ¬ 69 = 105 := of_decide_eq_true (fxM g4 20 rfl)
  have sk4_6 : PySem.W.subIn K (.ref 81) (.ref 105) = some false := of_decide_eq_true (fxM g4 21 rfl)
  have nk4_6 : ¬ 81 = 105 := of_decide_eq_true (fxM g4 22 rfl)
  have sk5_6 : PySem.W.subIn K (.ref 93) (.ref 105) = some false := of_decide_eq_true (fxM g4 23 rfl)
  have nk5_6 : ¬ 93 = 105 := of_decide_eq_true (fxM g4 24 rfl)
  have sk6_6 : PySem.W.subIn K (.ref 105) (.ref 105) = some true := of_decide_eq_true (fxM g4 25 rfl)
  have sk0_3 : PySem.W.subIn K (.ref 24) (.ref 69) = some false := of_decide_eq_true (fxM g4 26 rfl)
  have nk0_3 : ¬ 24 = 69 := of_decide_eq_true (fxM g4 27 rfl)
  have sk1_3 : PySem.W.subIn K (.ref 37) (.ref 69) = some false := of_decide_eq_true (fxM g4 28 rfl)
  have nk1_3 : ¬ 37 = 69 := of_decide_eq_true (fxM g4 29 rfl)
  have sk2_3 : PySem.W.subIn K (.ref 49) (.ref 69) = some false := of_decide_eq_true (fxM g4 30 rfl)
  have nk2_3 : ¬ 49 = 69 := of_decide_eq_true (fxM g4 31 rfl)
  have sk3_3 : PySem.W.subIn K (.ref 69) (.ref 69) = some true := of_decide_eq_true (fxM g4 32 rfl)
  have sk4_3 : PySem.W.subIn K (.ref 81) (.ref 69) = some false := of_decide_eq_true (fxM g4 33 rfl)
  have nk4_3 : ¬ 81 = 69 := of_decide_eq_true (fxM g4 34 rfl)
  have sk5_3 : PySem.W.subIn K (.ref 93) (.ref 69) = some false := of_decide_eq_true (fxM g4 35 rfl)
  have nk5_3 : ¬ 93 = 69 := of_decide_eq_true (fxM g4 36 rfl)
  have sk6_3 : PySem.W.subIn K (.ref 105) (.ref 69) = some false := of_decide_eq_true (fxM g4 37 rfl)
  have nk6_3 : ¬ 105 = 69 := of_decide_eq_true (fxM g4 38 rfl)
  have sk0_1 : PySem.W.subIn K (.ref 24) (.ref 37) = some false := of_decide_eq_true (fxM g4 39 rfl)
  have nk0_1 : ¬ 24 = 37 := of_decide_eq_true (fxM g5 0 rfl)
  have sk1_1 : PySem.W.subIn K (.ref 37) (.ref 37) = some true := of_decide_eq_true (fxM g5 1 rfl)
  have sk2_1 : PySem.W.subIn K (.ref 49) (.ref 37) = some false := of_decide_eq_true (fxM g5 2 rfl)
  have nk2_1 : ¬ 49 = 37 := of_decide_eq_true (fxM g5 3 rfl)
  have sk3_1 : PySem.W.subIn K (.ref 69) (.ref 37) = some false := of_decide_eq_true (fxM g5 4 rfl)
  have nk3_1 : ¬ 69 = 37 := of_decide_eq_true (fxM g5 5 rfl)
  have sk4_1 : PySem.W.subIn K (.ref 81) (.ref 37) = some false := of_decide_eq_true (fxM g5 6 rfl)
  have nk4_1 : ¬ 81 = 37 := of_decide_eq_true (fxM g5 7 rfl)
  have sk5_1 : PySem.W.subIn K (.ref 93) (.ref 37) = some false := of_decide_eq_true (fxM g5 8 rfl)
  have nk5_1 : ¬ 93 = 37 := of_decide_eq_true (fxM g5 9 rfl)
  have sk6_1 : PySem.W.subIn K (.ref 105) (.ref 37) = some false := of_decide_eq_true (fxM g5 10 rfl)
  have nk6_1 : ¬ 105 = 37 := of_decide_eq_true (fxM g5 11 rfl)
  have kv0 : PySem.W.subIn K (.ref 24) (.type "ValueError") = some true := of_decide_eq_true (fxM g5 12 rfl)
  have kv1 : PySem.W.subIn K (.ref 37) (.type "ValueError") = some true := of_decide_eq_true (fxM g5 13 rfl)
  have kv2 : PySem.W.subIn K (.ref 49) (.type "ValueError") = some true := of_decide_eq_true (fxM g5 14 rfl)
  have kv3 : PySem.W.subIn K (.ref 69) (.type "ValueError") = some true := of_decide_eq_true (fxM g5 15 rfl)
  have kv4 : PySem.W.subIn K (.ref 81) (.type "ValueError") = some true := of_decide_eq_true (fxM g5 16 rfl)
  have kv5 : PySem.W.subIn K (.ref 93) (.type "ValueError") = some true := of_decide_eq_true (fxM g5 17 rfl)
  have kv6 : PySem.W.subIn K (.ref 105) (.type "ValueError") = some true := of_decide_eq_true (fxM g5 18 rfl)
  have z_ValueError : PySem.W.nsIn K mainGlobals "ValueError" = some none := of_decide_eq_true (fxM g5 19 rfl)
  have z_bool : PySem.W.nsIn K mainGlobals "bool" = some none := of_decide_eq_true (fxM g5 20 rfl)
  have z_int : PySem.W.nsIn K mainGlobals "int" = some none := of_decide_eq_true (fxM g5 21 rfl)
  have z_isinstance : PySem.W.nsIn K mainGlobals "isinstance" = some none := of_decide_eq_true (fxM g5 22 rfl)
  have z_len : PySem.W.nsIn K mainGlobals "len" = some none := of_decide_eq_true (fxM g5 23 rfl)
  have z_list : PySem.W.nsIn K mainGlobals "list" = some none := of_decide_eq_true (fxM g5 24 rfl)
  have z_range : PySem.W.nsIn K mainGlobals "range" = some none := of_decide_eq_true (fxM g5 25 rfl)
  have z_set : PySem.W.nsIn K mainGlobals "set" = some none := of_decide_eq_true (fxM g5 26 rfl)
  have z_sorted : PySem.W.nsIn K mainGlobals "sorted" = some none := of_decide_eq_true (fxM g5 27 rfl)
  obtain ⟨fd0, F0⟩ : ∃ fd, FunD K "__init__" "Index.__init__" (defArgs s_Index___init__) (defBody s_Index___init__) (defScope s_Index___init__) [] [] 121 fd := defM cD0 0 (d := dfn0) rfl
  obtain ⟨⟨oc0, od0, kV0, dc0, pm0, an0, cd0, ct0, sl0, rfl, l0, cc0⟩, k0⟩ := He5.fun_of F0
  obtain ⟨fd1, F1⟩ : ∃ fd, FunD K "sure" "Index.sure" (defArgs s_Index_sure) (defBody s_Index_sure) (defScope s_Index_sure) [] [] 128 fd := defM cD0 1 (d := dfn1) rfl
  obtain ⟨⟨oc1, od1, kV1, dc1, pm1, an1, cd1, ct1, sl1, rfl, l1, cc1⟩, k1⟩ := He5.fun_of F1
  obtain ⟨fd2, F2⟩ : ∃ fd, FunD K "add" "Index.add" (defArgs s_Index_add) (defBody s_Index_add) (defScope s_Index_add) [] [] 135 fd := defM cD0 2 (d := dfn2) rfl
  obtain ⟨⟨oc2, od2, kV2, dc2, pm2, an2, cd2, ct2, sl2, rfl, l2, cc2⟩, k2⟩ := He5.fun_of F2
  obtain ⟨fd3, F3⟩ : ∃ fd, FunD K "take_out" "Index.take_out" (defArgs s_Index_take_out) (defBody s_Index_take_out) (defScope s_Index_take_out) [] [] 142 fd := defM cD0 3 (d := dfn3) rfl
  obtain ⟨⟨oc3, od3, kV3, dc3, pm3, an3, cd3, ct3, sl3, rfl, l3, cc3⟩, k3⟩ := He5.fun_of F3
  obtain ⟨fd4, F4⟩ : ∃ fd, FunD K "having" "Index.having" (defArgs s_Index_having) (defBody s_Index_having) (defScope s_Index_having) [] [] 149 fd := defM cD0 4 (d := dfn4) rfl
  obtain ⟨⟨oc4, od4, kV4, dc4, pm4, an4, cd4, ct4, sl4, rfl, l4, cc4⟩, k4⟩ := He5.fun_of F4
  obtain ⟨fd5, F5⟩ : ∃ fd, FunD K "words" "Index.words" (defArgs s_Index_words) (defBody s_Index_words) (defScope s_Index_words) [] [] 156 fd := defM cD0 5 (d := dfn5) rfl
  obtain ⟨⟨oc5, od5, kV5, dc5, pm5, an5, cd5, ct5, sl5, rfl, l5, cc5⟩, k5⟩ := He5.fun_of F5
  obtain ⟨fd6, F6⟩ : ∃ fd, FunD K "all_words" "Index.all_words" (defArgs s_Index_all_words) (defBody s_Index_all_words) (defScope s_Index_all_words) [] [] 163 fd := defM cD0 6 (d := dfn6) rfl
  obtain ⟨⟨oc6, od6, kV6, dc6, pm6, an6, cd6, ct6, sl6, rfl, l6, cc6⟩, k6⟩ := He5.fun_of F6
  obtain ⟨fd7, F7⟩ : ∃ fd, FunD K "__init__" "Threads.__init__" (defArgs s_Threads___init__) (defBody s_Threads___init__) (defScope s_Threads___init__) [] [] 184 fd := defM cD0 7 (d := dfn7) rfl
  obtain ⟨⟨oc7, od7, kV7, dc7, pm7, an7, cd7, ct7, sl7, rfl, l7, cc7⟩, k7⟩ := He5.fun_of F7
  obtain ⟨fd8, F8⟩ : ∃ fd, FunD K "pile" "Threads.pile" (defArgs s_Threads_pile) (defBody s_Threads_pile) (defScope s_Threads_pile) [] [] 191 fd := defM cD0 8 (d := dfn8) rfl
  obtain ⟨⟨oc8, od8, kV8, dc8, pm8, an8, cd8, ct8, sl8, rfl, l8, cc8⟩, k8⟩ := He5.fun_of F8
  obtain ⟨fd9, F9⟩ : ∃ fd, FunD K "put_together" "Threads.put_together" (defArgs s_Threads_put_together) (defBody s_Threads_put_together) (defScope s_Threads_put_together) [] [] 198 fd := defM cD0 9 (d := dfn9) rfl
  obtain ⟨⟨oc9, od9, kV9, dc9, pm9, an9, cd9, ct9, sl9, rfl, l9, cc9⟩, k9⟩ := He5.fun_of F9
  obtain ⟨fd10, F10⟩ : ∃ fd, FunD K "hang" "Threads.hang" (defArgs s_Threads_hang) (defBody s_Threads_hang) (defScope s_Threads_hang) [] [] 205 fd := defM cD0 10 (d := dfn10) rfl
  obtain ⟨⟨oc10, od10, kV10, dc10, pm10, an10, cd10, ct10, sl10, rfl, l10, cc10⟩, k10⟩ := He5.fun_of F10
  obtain ⟨fd11, F11⟩ : ∃ fd, FunD K "sure" "Threads.sure" (defArgs s_Threads_sure) (defBody s_Threads_sure) (defScope s_Threads_sure) [] [] 212 fd := defM cD0 11 (d := dfn11) rfl
  obtain ⟨⟨oc11, od11, kV11, dc11, pm11, an11, cd11, ct11, sl11, rfl, l11, cc11⟩, k11⟩ := He5.fun_of F11
  obtain ⟨fd12, F12⟩ : ∃ fd, FunD K "add" "Threads.add" (defArgs s_Threads_add) (defBody s_Threads_add) (defScope s_Threads_add) [.str ("" : Str)] [] 220 fd := defM cD0 12 (d := dfn12) rfl
  obtain ⟨fd13, F13⟩ : ∃ fd, FunD K "take_out" "Threads.take_out" (defArgs s_Threads_take_out) (defBody s_Threads_take_out) (defScope s_Threads_take_out) [] [] 227 fd := defM cD0 13 (d := dfn13) rfl
  obtain ⟨⟨oc13, od13, kV13, dc13, pm13, an13, cd13, ct13, sl13, rfl, l13, cc13⟩, k13⟩ := He5.fun_of F13
  obtain ⟨fd14, F14⟩ : ∃ fd, FunD K "names" "Threads.names" (defArgs s_Threads_names) (defBody s_Threads_names) (defScope s_Threads_names) [] [] 234 fd := defM cD0 14 (d := dfn14) rfl
  obtain ⟨⟨oc14, od14, kV14, dc14, pm14, an14, cd14, ct14, sl14, rfl, l14, cc14⟩, k14⟩ := He5.fun_of F14
  obtain ⟨fd15, F15⟩ : ∃ fd, FunD K "thread" "Threads.thread" (defArgs s_Threads_thread) (defBody s_Threads_thread) (defScope s_Threads_thread) [] [] 239 fd := defM cD0 15 (d := dfn15) rfl
  obtain ⟨⟨oc15, od15, kV15, dc15, pm15, an15, cd15, ct15, sl15, rfl, l15, cc15⟩, k15⟩ := He5.fun_of F15
  obtain ⟨fd16, F16⟩ : ∃ fd, FunD K "threads" "Threads.threads" (defArgs s_Threads_threads) (defBody s_Threads_threads) (defScope s_Threads_threads) [] [] 246 fd := defM cD0 16 (d := dfn16) rfl
  obtain ⟨⟨oc16, od16, kV16, dc16, pm16, an16, cd16, ct16, sl16, rfl, l16, cc16⟩, k16⟩ := He5.fun_of F16
  obtain ⟨fd17, F17⟩ : ∃ fd, FunD K "answers_to" "Threads.answers_to" (defArgs s_Threads_answers_to) (defBody s_Threads_answers_to) (defScope s_Threads_answers_to) [] [] 253 fd := defM cD0 17 (d := dfn17) rfl
  obtain ⟨⟨oc17, od17, kV17, dc17, pm17, an17, cd17, ct17, sl17, rfl, l17, cc17⟩, k17⟩ := He5.fun_of F17
  obtain ⟨fd18, F18⟩ : ∃ fd, FunD K "depth" "Threads.depth" (defArgs s_Threads_depth) (defBody s_Threads_depth) (defScope s_Threads_depth) [] [] 260 fd := defM cD0 18 (d := dfn18) rfl
  obtain ⟨⟨oc18, od18, kV18, dc18, pm18, an18, cd18, ct18, sl18, rfl, l18, cc18⟩, k18⟩ := He5.fun_of F18
  obtain ⟨fd19, F19⟩ : ∃ fd, FunD K "_law_draws" "_law_draws" (defArgs s_law_draws) (defBody s_law_draws) (defScope s_law_draws) [] [] 274 fd := defM cD0 19 (d := dfn19) rfl
  obtain ⟨⟨oc19, od19, kV19, dc19, pm19, an19, cd19, ct19, sl19, rfl, l19, cc19⟩, k19⟩ := He5.fun_of F19
  obtain ⟨fd20, F20⟩ : ∃ fd, FunD K "_law_name_by" "_law_name_by" (defArgs s_law_name_by) (defBody s_law_name_by) (defScope s_law_name_by) [] [] 281 fd := defM cD0 20 (d := dfn20) rfl
  obtain ⟨⟨oc20, od20, kV20, dc20, pm20, an20, cd20, ct20, sl20, rfl, l20, cc20⟩, k20⟩ := He5.fun_of F20
  obtain ⟨fd21, F21⟩ : ∃ fd, FunD K "_law_pool" "_law_pool" (defArgs s_law_pool) (defBody s_law_pool) (defScope s_law_pool) [] [] 286 fd := defM cD0 21 (d := dfn21) rfl
  obtain ⟨⟨oc21, od21, kV21, dc21, pm21, an21, cd21, ct21, sl21, rfl, l21, cc21⟩, k21⟩ := He5.fun_of F21
  obtain ⟨fd22, F22⟩ : ∃ fd, FunD K "_law_called" "_law_called" (defArgs s_law_called) (defBody s_law_called) (defScope s_law_called) [] [] 293 fd := defM cD0 22 (d := dfn22) rfl
  obtain ⟨⟨oc22, od22, kV22, dc22, pm22, an22, cd22, ct22, sl22, rfl, l22, cc22⟩, k22⟩ := He5.fun_of F22
  obtain ⟨fd23, F23⟩ : ∃ fd, FunD K "_law_refused" "_law_refused" (defArgs s_law_refused) (defBody s_law_refused) (defScope s_law_refused) [] [] 300 fd := defM cD0 23 (d := dfn23) rfl
  obtain ⟨⟨oc23, od23, kV23, dc23, pm23, an23, cd23, ct23, sl23, rfl, l23, cc23⟩, k23⟩ := He5.fun_of F23
  obtain ⟨fd24, F24⟩ : ∃ fd, FunD K "_law_due" "_law_due" (defArgs s_law_due) (defBody s_law_due) (defScope s_law_due) [] [] 307 fd := defM cD0 24 (d := dfn24) rfl
  obtain ⟨⟨oc24, od24, kV24, dc24, pm24, an24, cd24, ct24, sl24, rfl, l24, cc24⟩, k24⟩ := He5.fun_of F24
  obtain ⟨fd25, F25⟩ : ∃ fd, FunD K "_law_step" "_law_step" (defArgs s_law_step) (defBody s_law_step) (defScope s_law_step) [] [] 314 fd := defM cD0 25 (d := dfn25) rfl
  obtain ⟨⟨oc25, od25, kV25, dc25, pm25, an25, cd25, ct25, sl25, rfl, l25, cc25⟩, k25⟩ := He5.fun_of F25
  obtain ⟨fd26, F26⟩ : ∃ fd, FunD K "law" "law" (defArgs s_law) (defBody s_law) (defScope s_law) [] [] 319 fd := defM cD0 26 (d := dfn26) rfl
  obtain ⟨⟨oc26, od26, kV26, dc26, pm26, an26, cd26, ct26, sl26, rfl, l26, cc26⟩, k26⟩ := He5.fun_of F26
  exact all_mk X H hfa ac0 ac1 ac2 ac3 ac4 ac5 ac6 ac7 ac8 a0_7 i0 l0 cc0 k0 mk7 kc7 a1_7 i1 l1 cc1 k1 a2_7 i2 l2 cc2 k2 a3_7 i3 l3 cc3 k3 a4_7 i4 l4 cc4 k4 a5_7 i5 l5 cc5 k5 a6_7 i6 l6 cc6 k6 a7_8 i7 l7 cc7 k7 mk8 kc8 a8_8 i8 l8 cc8 k8 a9_8 i9 l9 cc9 k9 a10_8 i10 l10 cc10 k10 a11_8 i11 l11 cc11 k11 a12_8 i12 F12 a13_8 i13 l13 cc13 k13 a14_8 i14 l14 cc14 k14 a15_8 i15 l15 cc15 k15 a16_8 i16 l16 cc16 k16 a17_8 i17 l17 cc17 k17 a18_8 i18 l18 cc18 k18 a19 l19 cc19 k19 a20 l20 cc20 k20 a21 l21 cc21 k21 a22 l22 cc22 k22 a23 l23 cc23 k23 a24 l24 cc24 k24 a25 l25 cc25 k25 a26 l26 cc26 k26 bE0 tE0 hE0 s0_0 s1_0 s2_0 s3_0 s4_0 s5_0 s6_0 xE4 kE4 bE4 tE4 pg7 hd7 po7 sa7 nf7_0 nf7_1 pg8 hd8 po8 sa8 nf8_0 nf8_1 nf8_2 nf8_3 nf8_4 ea0 eb0 ed0 eh0 ea1 eb1 bE1 tE1 hE1 ed1 eh1 ea2 eb2 bE2 tE2 hE2 ed2 eh2 ea3 eb3 bE3 tE3 hE3 ed3 eh3 ea4 eb4 hE4 ed4 eh4 ea5 eb5 bE5 tE5 hE5 ed5 eh5 ea6 eb6 bE6 tE6 hE6 ed6 eh6 ee ef sk0_2 nk0_2 sk1_2 nk1_2 sk2_2 sk3_2 nk3_2 sk4_2 nk4_2 sk5_2 nk5_2 sk6_2 nk6_2 sk0_4 nk0_4 sk1_4 nk1_4 sk2_4 nk2_4 sk3_4 nk3_4 sk4_4 sk5_4 nk5_4 sk6_4 nk6_4 sk0_5 nk0_5 sk1_5 nk1_5 sk2_5 nk2_5 sk3_5 nk3_5 sk4_5 nk4_5 sk5_5 sk6_5 nk6_5 sk0_6 nk0_6 sk1_6 nk1_6 sk2_6 nk2_6 sk3_6 nk3_6 sk4_6 nk4_6 sk5_6 nk5_6 sk6_6 sk0_3 nk0_3 sk1_3 nk1_3 sk2_3 nk2_3 sk3_3 sk4_3 nk4_3 sk5_3 nk5_3 sk6_3 nk6_3 sk0_1 nk0_1 sk1_1 sk2_1 nk2_1 sk3_1 nk3_1 sk4_1 nk4_1 sk5_1 nk5_1 sk6_1 nk6_1 kv0 kv1 kv2 kv3 kv4 kv5 kv6 z_ValueError z_bool z_int z_isinstance z_len z_list z_range z_set z_sorted
end Lw
open PySem PySem.W PyProof.Rows
set_option maxRecDepth 100000 in
set_option maxHeartbeats 0 in
theorem PySem.Challenge.cw_mailroom_k24_there_or_not_holds : PySem.Challenge.rw_mailroom_k24_there_or_not.Holds := by
  w_on; o_law
  refine HandSHeadRun.head_any (r := OpenLaw.row PySem.Challenge.rw_mailroom_k24_there_or_not) (q := view (OpenLaw.row PySem.Challenge.rw_mailroom_k24_there_or_not).prog [20]) (H := Lw.hookM) (ob := Lw.obM) (M := 40000) (loose := Lw.namesM) (d := HandSHeadRun.topDef (OpenLaw.row PySem.Challenge.rw_mailroom_k24_there_or_not).prog 20) (kwd := []) Lw.obM_eq
    (by kernel_rfl) (fun s => by kernel_rfl) Lw.runM (by kernel_rfl) (by kernel_rfl) (by kernel_rfl) (by rfl) (by first | assumption | decide +kernel) (by decide +kernel) ⟨rfl, rfl, rfl, rfl, rfl, by decide +kernel⟩ ?hw ?hc
  case hw => w_witness2
  case hc =>
    refine L2.walk_ofE (l := PySem.Challenge.rw_mailroom_k24_there_or_not) (n := 63) (k := 7) (x := "_law_script") (CX := L2.CX0) rfl (by decide) (by kernel_rfl) ⟨rfl, by decide, by decide⟩ ?F (fun _ _ _ _ z => z)
    intro w mg fa h Y G hmg0
    obtain ⟨K, KX, c⟩ := Y
    have hmg : mg ("law" : PySem.Str) = some (.ref fa) := by
      have e : (HandSHeadRun.topDef (OpenLaw.row PySem.Challenge.rw_mailroom_k24_there_or_not).prog 20).name = ("law" : PySem.Str) := by kernel_rfl
      rw [← e]
      exact hmg0
    obtain ⟨fd, hb, hF⟩ := Lw.says_mk (l := PySem.Challenge.rw_mailroom_k24_there_or_not) (w := w) KX G hmg c
    exact ⟨K, fd, Lw.sp_top K, KX, hb, fun H a ns hl hO hS => ⟨a, ns, rfl, hS, hO, hl, fun _ => rfl⟩, hF⟩
