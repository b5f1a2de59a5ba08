import PyProof.Rows.All
import Wide.All
import OpenK.AllK
import Wide.FinOn
import HandS.ForMost
import HandS.ForExc
import HandS.SetKeys
import HandS.IsInst
import HandS.Flow
import HandS.Style
import HandS.CallSlots
import HandS.TryMany
import HandS.StrMore
import HandS.Strs
import HandS.TupLe
import HandS.TupAny
import HandS.More
import HandS.Conv
import HandS.Replace
import HandS.FStr
import HandS.ExcIs
import HandS.RaiseMore
import HandS.Defaults
import HandS.DictTup
import HandS.TupSets
import HandS.SortOrd
import HandS.SortKw
import HandS.Lambda
import PyProof.Rows.StrCase
import HandS.TryOnly
import KE.DataFind
import HandS.HotCalls
import HandS.Small
import HandS.WordsDict
import KE.KEqDict
import PyProof.NeKinds
import PyProof.FactsAll.dict_1
import PyProof.FactsAll.dict_2
import PyProof.FactsAll.str
import PyProof.FactsAll.int
import PyProof.FactsAll.subtypes
import HandS.SetTxt0
import HandS.SetFor
import KE.SortData
import KE.DataCmp
import HandS.Iter
import KE.DataMinMax
import HandS.ExcInit
import HandS.ClsMeth
import HandS.ExcField
import KE.KExcIs
import HandS.ExcInitHot
import HandS.SuiteRaise
import KE.GoesEnumKw
import HandS.NoneIn
import PyProof.SeqRoads2
import HandS.Ends
import HandS.Deep
import HandS.DictComp
import KE.SortKeyHeap
import HandS.Records
import KE.KDictCopyH
import KE.KEqNest
import HandS.Head0
import HandS.Head1
import HandS.Head2
import HandS.HeadEnd
import HandS.HeadHook1
import HandS.HeadHook2
import HandS.HeadNt
import PySem.Challenge.RW_mailroom_k23_great_threads
set_option Elab.async false
set_option linter.all false
set_option maxRecDepth 100000
set_option maxHeartbeats 4000000
namespace Ml
open PySem L2
structure Gx where
  K : PySem.W.Frag
  fz : Addr → Option Nat
  cl : Nat → Addr
/-- what never changes once it stands -/
def per (G : Gx) : HO → Bool
  | .tup _ => true
  | .frz _ (.lst _) => true
  | .ins C _ fs => decide (G.fz C = some fs.length)
  | _ => false
/-- what sort of thing it is -/
def kindOf : HO → Nat
  | .lst _ => 0
  | .frz _ (.lst _) => 0
  | .dK _ => 1
  | .frz _ (.dK _) => 1
  | .dT _ => 6
  | .frz _ (.dT _) => 6
  | .tup _ => 2
  | .set _ _ => 3
  | .ins _ _ _ => 4
  | _ => 5
/-- all that never changes stands on, and nothing becomes another sort of thing -/
def Stab (G : Gx) (H H' : Hp) : Prop := (∀ a o, H a = some o → per G o = true → H' a = some o) ∧ ∀ a o, H a = some o → ∃ o', H' a = some o' ∧ kindOf o' = kindOf o
theorem Stab.refl {G : Gx} (H : Hp) : Stab G H H := ⟨fun _ _ h _ => h, fun _ o h => ⟨o, h, rfl⟩⟩
theorem Stab.trans {G : Gx} {H H1 H2 : Hp} (a : Stab G H H1) (b : Stab G H1 H2) : Stab G H H2 := ⟨fun x o h p => b.1 x o (a.1 x o h p) p, fun x o h => by
  obtain ⟨o1, h1, k1⟩ := a.2 x o h
  obtain ⟨o2, h2, k2⟩ := b.2 x o1 h1
  exact ⟨o2, h2, k2.trans k1⟩⟩
theorem Stab.of_same {G : Gx} {H H' : Hp} (s : Same H H') : Stab G H H' := ⟨fun a o h _ => s a o h, fun a o h => ⟨o, s a o h, rfl⟩⟩
theorem stab_put {G : Gx} {H : Hp} {a : Addr} {o o' : HO} (e : H a = some o) (n : per G o = false) (kd : kindOf o' = kindOf o) : Stab G H (upd H a o') := ⟨fun b x hb pb => by
  by_cases z : b = a
  · subst z; rw [e] at hb; cases hb; rw [n] at pb; cases pb
  · rw [upd_ne z]; exact hb, fun b x hb => by
  by_cases z : b = a
  · subst z; rw [e] at hb; cases hb; exact ⟨o', upd_same, kd⟩
  · exact ⟨x, by rw [upd_ne z]; exact hb, rfl⟩⟩
structure Asn (G : Gx) where
  sat : Hp → List Addr → Prop
  loc : ∀ H H' fp, sat H fp → (∀ a, a ∈ fp → H' a = H a) → Stab G H H' → sat H' fp
variable {G : Gx}
def satL (H : Hp) : List (Asn G) → List Addr → Prop
  | [], fp => fp = []
  | A :: L, fp => ∃ f1 f2, fp = f1 ++ f2 ∧ A.sat H f1 ∧ satL H L f2
theorem satL.loc {H H' : Hp} : ∀ {L : List (Asn G)} {fp : List Addr}, satL H L fp → (∀ a, a ∈ fp → H' a = H a) → Stab G H H' → satL H' L fp
  | [], fp, h, _, _ => h
  | A :: L, fp, ⟨f1, f2, e, h1, h2⟩, k, s => ⟨f1, f2, e, A.loc H H' f1 h1 (fun a m => k a (by rw [e]; exact List.mem_append_left _ m)) s,
      satL.loc h2 (fun a m => k a (by rw [e]; exact List.mem_append_right _ m)) s⟩
theorem satL.perm {H : Hp} {L L' : List (Asn G)} (p : L.Perm L') : ∀ {fp : List Addr}, satL H L fp → ∃ fp', fp'.Perm fp ∧ satL H L' fp' := by
  induction p with
  | nil => intro fp h; exact ⟨fp, .refl _, h⟩
  | cons x _ ih =>
    rintro fp ⟨f1, f2, e, h1, h2⟩
    obtain ⟨g, pg, hg⟩ := ih h2
    exact ⟨f1 ++ g, by rw [e]; exact List.Perm.append_left f1 pg, f1, g, rfl, h1, hg⟩
  | swap x y l =>
    rintro fp ⟨f1, f2, e, h1, g1, g2, e2, k1, k2⟩
    refine ⟨g1 ++ (f1 ++ g2), ?_, g1, f1 ++ g2, rfl, k1, f1, g2, rfl, h1, k2⟩
    rw [e, e2, ← List.append_assoc, ← List.append_assoc]
    exact List.Perm.append_right g2 List.perm_append_comm
  | trans _ _ ih1 ih2 =>
    intro fp h
    obtain ⟨g, pg, hg⟩ := ih1 h
    obtain ⟨k, pk, hk⟩ := ih2 hg
    exact ⟨k, pk.trans pg, hk⟩
theorem satL.append {H : Hp} : ∀ {L L' : List (Asn G)} {fp : List Addr}, satL H (L ++ L') fp ↔ ∃ f1 f2, fp = f1 ++ f2 ∧ satL H L f1 ∧ satL H L' f2
  | [], L', fp => ⟨fun h => ⟨[], fp, rfl, rfl, h⟩, fun ⟨f1, f2, e, h1, h2⟩ => by
      have h1' : f1 = [] := h1
      subst h1'; subst e; exact h2⟩
  | A :: L, L', fp => by
    constructor
    · rintro ⟨f1, f2, e, h1, h2⟩
      obtain ⟨g1, g2, e2, k1, k2⟩ := satL.append.mp h2
      exact ⟨f1 ++ g1, g2, by rw [e, e2, List.append_assoc], ⟨f1, g1, rfl, h1, k1⟩, k2⟩
    · rintro ⟨f1, f2, e, ⟨g1, g2, e2, h1, h2⟩, h3⟩
      exact ⟨g1, g2 ++ f2, by rw [e, e2, List.append_assoc], h1, satL.append.mpr ⟨g2, f2, rfl, h2, h3⟩⟩
/-- the assertions hold, each of its own part of the heap -/
def Sep (H : Hp) (L : List (Asn G)) : Prop := ∃ fp, satL H L fp ∧ fp.Nodup ∧ ∀ a, a ∈ fp → ∃ o, H a = some o ∧ per G o = false
theorem Sep.perm {H : Hp} {L L' : List (Asn G)} (h : Sep H L) (p : L.Perm L') : Sep H L' := by
  obtain ⟨fp, h1, h2, h3⟩ := h
  obtain ⟨g, pg, hg⟩ := satL.perm p h1
  exact ⟨g, hg, pg.nodup_iff.mpr h2, fun a m => h3 a (pg.mem_iff.mp m)⟩
theorem Sep.nil (H : Hp) : Sep H ([] : List (Asn G)) := ⟨[], rfl, List.nodup_nil, fun a m => absurd m (by simp)⟩
theorem Sep.left {H : Hp} {L L' : List (Asn G)} (h : Sep H (L ++ L')) : Sep H L := by
  obtain ⟨fp, h1, h2, h3⟩ := h
  obtain ⟨f1, f2, e, k1, k2⟩ := satL.append.mp h1
  subst e
  exact ⟨f1, k1, (List.nodup_append.mp h2).1, fun a m => h3 a (List.mem_append_left _ m)⟩
theorem Sep.tail {H : Hp} {A : Asn G} {L : List (Asn G)} (h : Sep H (A :: L)) : Sep H L := by
  have p : (A :: L).Perm (L ++ [A]) := (List.perm_append_singleton A L).symm
  exact (h.perm p).left
/-- old things stand, new ones may come -/
theorem Sep.more {H H' : Hp} {L : List (Asn G)} (h : Sep H L) (s : Same H H') : Sep H' L := by
  obtain ⟨fp, h1, h2, h3⟩ := h
  exact ⟨fp, h1.loc (fun a m => by obtain ⟨o, e, _⟩ := h3 a m; rw [e]; exact s a o e) (.of_same s), h2, fun a m => by
    obtain ⟨o, e, n⟩ := h3 a m; exact ⟨o, s a o e, n⟩⟩
theorem satL.at {H : Hp} {A : Asn G} : ∀ {L : List (Asn G)} {fp : List Addr} {i : Nat}, satL H L fp → L[i]? = some A → ∃ fp, A.sat H fp
  | [], _, _, _, e => by simp at e
  | B :: L, _, 0, ⟨f1, _, _, k1, _⟩, e => ⟨f1, by
      have : B = A := Option.some.inj e
      subst this; exact k1⟩
  | B :: L, _, i + 1, ⟨_, f2, _, _, k2⟩, e => satL.at (L := L) (i := i) k2 (by simpa using e)
theorem Sep.at {H : Hp} {L : List (Asn G)} (h : Sep H L) {i : Nat} {A : Asn G} (e : L[i]? = some A) : ∃ fp, A.sat H fp := by
  obtain ⟨fp, h1, _, _⟩ := h
  exact satL.at h1 e
/-- the i-th one ahead -/
theorem pull_perm {α : Type} : ∀ {L : List α} {i : Nat} {A : α}, L[i]? = some A → L.Perm (A :: L.eraseIdx i)
  | [], _, _, e => by simp at e
  | B :: L, 0, A, e => by
    have : B = A := Option.some.inj e
    subst this
    exact .refl _
  | B :: L, i + 1, A, e => by
    have ih := pull_perm (L := L) (i := i) (A := A) (by simpa using e)
    exact (List.Perm.cons B ih).trans (List.Perm.swap A B _)
theorem set_perm {α : Type} : ∀ {L : List α} {i : Nat} {A B : α}, L[i]? = some A → (B :: L.eraseIdx i).Perm (L.set i B)
  | [], _, _, _, e => by simp at e
  | C :: L, 0, A, B, e => .refl _
  | C :: L, i + 1, A, B, e => by
    have ih := set_perm (L := L) (i := i) (A := A) (B := B) (by simpa using e)
    exact (List.Perm.swap C B _).trans (List.Perm.cons C ih)
/-- chosen ones, in a chosen order -/
def pick {α : Type} (L : List α) (is : List Nat) : List α := is.filterMap fun i => L[i]?
theorem pick_perm {α : Type} : ∀ (is : List Nat) (L : List α), is.Nodup → ∃ R, L.Perm (pick L is ++ R)
  | [], L, _ => ⟨L, .refl _⟩
  | i :: is, L, nd => by
    obtain ⟨n1, n2⟩ := List.nodup_cons.mp nd
    cases e : L[i]? with
    | none =>
      obtain ⟨R, p⟩ := pick_perm is L n2
      refine ⟨R, ?_⟩
      have : pick L (i :: is) = pick L is := by unfold pick; rw [List.filterMap_cons, e]
      rw [this]; exact p
    | some A =>
      -- the others by their places without i
      have key : ∀ (js : List Nat), i ∉ js → pick L js = pick (L.eraseIdx i) (js.map fun j => if j < i then j else j - 1) := by
        intro js hj
        unfold pick
        rw [List.filterMap_map]
        have gen : ∀ js : List Nat, i ∉ js → js.filterMap (fun i => L[i]?) = js.filterMap ((fun j => (L.eraseIdx i)[j]?) ∘ fun j => if j < i then j else j - 1) := by
          intro js
          induction js with
          | nil => intro _; rfl
          | cons j js ih =>
            intro hm
            have hji : j ≠ i := fun z => hm (by rw [z]; exact List.mem_cons_self)
            have ih' := ih fun z => hm (List.mem_cons_of_mem _ z)
            have ej : L[j]? = ((fun j => (L.eraseIdx i)[j]?) ∘ fun j => if j < i then j else j - 1) j := by
              show L[j]? = (L.eraseIdx i)[if j < i then j else j - 1]?
              rw [List.getElem?_eraseIdx]
              by_cases c : j < i
              · rw [if_pos c, if_pos c]
              · rw [if_neg c, if_neg (by omega)]
                congr 1; omega
            rw [List.filterMap_cons, List.filterMap_cons, ih', ej]
        exact gen js hj
      have nd2 : (is.map fun j => if j < i then j else j - 1).Nodup := by
        refine List.pairwise_map.mpr (List.Pairwise.imp_of_mem ?_ n2)
        intro a b ha hb hab z
        have ha' : a ≠ i := fun q => n1 (q ▸ ha)
        have hb' : b ≠ i := fun q => n1 (q ▸ hb)
        split at z <;> split at z <;> omega
      obtain ⟨R, p⟩ := pick_perm (is.map fun j => if j < i then j else j - 1) (L.eraseIdx i) nd2
      refine ⟨R, ?_⟩
      have e2 : pick L (i :: is) = A :: pick L is := by unfold pick; rw [List.filterMap_cons, e]
      rw [e2, key is n1]
      exact (pull_perm e).trans (List.Perm.cons A p)
termination_by is => is.length
theorem Sep.sel {H : Hp} {L L' : List (Asn G)} (h : Sep H L) (is : List Nat) (nd : is.Nodup) (e : pick L is = L') : Sep H L' := by
  obtain ⟨R, p⟩ := pick_perm is L nd
  rw [e] at p
  exact (h.perm p).left
/-- at a stands o, owned -/
def cell (a : Addr) (o : HO) : Asn G := ⟨fun H fp => fp = [a] ∧ H a = some o, fun H H' fp h k _ => ⟨h.1, by rw [k a (by rw [h.1]; simp)]; exact h.2⟩⟩
/-- a fact that stays -/
def fact (p : Hp → Prop) (st : ∀ H H', p H → Stab G H H' → p H') : Asn G := ⟨fun H fp => fp = [] ∧ p H, fun H H' fp h _ s => ⟨h.1, st H H' h.2 s⟩⟩
/-- several as one -/
def star (L : List (Asn G)) : Asn G := ⟨fun H fp => satL H L fp, fun H H' fp h k s => h.loc k s⟩
/-- some one of them -/
def exA {α : Type} (f : α → Asn G) : Asn G := ⟨fun H fp => ∃ x, (f x).sat H fp, fun H H' fp ⟨x, h⟩ k s => ⟨x, (f x).loc H H' fp h k s⟩⟩
/-- and a plain truth -/
def andA (p : Prop) (A : Asn G) : Asn G := ⟨fun H fp => p ∧ A.sat H fp, fun H H' fp ⟨x, h⟩ k s => ⟨x, A.loc H H' fp h k s⟩⟩
theorem Sep.star {H : Hp} {L M : List (Asn G)} (h : Sep H (M ++ [Ml.star L])) : Sep H (M ++ L) := by
  obtain ⟨fp, h1, h2, h3⟩ := h
  obtain ⟨f1, f2, e, k1, g1, g2, e2, k2, k3⟩ := satL.append.mp h1
  have k3' : g2 = [] := k3
  subst k3'
  rw [List.append_nil] at e2
  subst e2
  exact ⟨fp, satL.append.mpr ⟨f1, f2, e, k1, k2⟩, h2, h3⟩
theorem Sep.unstar {H : Hp} {L M : List (Asn G)} (h : Sep H (M ++ L)) : Sep H (M ++ [Ml.star L]) := by
  obtain ⟨fp, h1, h2, h3⟩ := h
  obtain ⟨f1, f2, e, k1, k2⟩ := satL.append.mp h1
  exact ⟨fp, satL.append.mpr ⟨f1, f2, e, k1, f2, [], by simp, k2, rfl⟩, h2, h3⟩
theorem Sep.star1 {H : Hp} {L M : List (Asn G)} (h : Sep H (Ml.star L :: M)) : Sep H (L ++ M) := by
  obtain ⟨fp, ⟨f1, f2, e, h1, k⟩, h2, h3⟩ := h
  exact ⟨fp, satL.append.mpr ⟨f1, f2, e, h1, k⟩, h2, h3⟩
theorem Sep.unstar1 {H : Hp} {L M : List (Asn G)} (h : Sep H (L ++ M)) : Sep H (Ml.star L :: M) := by
  obtain ⟨fp, h1, h2, h3⟩ := h
  obtain ⟨f1, f2, e, k1, k2⟩ := satL.append.mp h1
  exact ⟨fp, ⟨f1, f2, e, k1, k2⟩, h2, h3⟩
theorem Sep.ex {α : Type} {f : α → Asn G} {H : Hp} {M : List (Asn G)} (h : Sep H (exA f :: M)) : ∃ x, Sep H (f x :: M) := by
  obtain ⟨fp, ⟨f1, f2, e, ⟨x, h1⟩, k⟩, h2, h3⟩ := h
  exact ⟨x, fp, ⟨f1, f2, e, h1, k⟩, h2, h3⟩
theorem Sep.exI {α : Type} {f : α → Asn G} {H : Hp} {M : List (Asn G)} (x : α) (h : Sep H (f x :: M)) : Sep H (exA f :: M) := by
  obtain ⟨fp, ⟨f1, f2, e, h1, k⟩, h2, h3⟩ := h
  exact ⟨fp, ⟨f1, f2, e, ⟨x, h1⟩, k⟩, h2, h3⟩
theorem Sep.and {p : Prop} {A : Asn G} {H : Hp} {M : List (Asn G)} (h : Sep H (andA p A :: M)) : p ∧ Sep H (A :: M) := by
  obtain ⟨fp, ⟨f1, f2, e, ⟨x, h1⟩, k⟩, h2, h3⟩ := h
  exact ⟨x, fp, ⟨f1, f2, e, h1, k⟩, h2, h3⟩
theorem Sep.andI {p : Prop} {A : Asn G} {H : Hp} {M : List (Asn G)} (x : p) (h : Sep H (A :: M)) : Sep H (andA p A :: M) := by
  obtain ⟨fp, ⟨f1, f2, e, h1, k⟩, h2, h3⟩ := h
  exact ⟨fp, ⟨f1, f2, e, ⟨x, h1⟩, k⟩, h2, h3⟩
/-- another view of the first one, over the same part -/
theorem Sep.view {A B : Asn G} {H : Hp} {M : List (Asn G)} (h : Sep H (A :: M)) (v : ∀ fp, A.sat H fp → B.sat H fp) : Sep H (B :: M) := by
  obtain ⟨fp, ⟨f1, f2, e, h1, k⟩, h2, h3⟩ := h
  exact ⟨fp, ⟨f1, f2, e, v f1 h1, k⟩, h2, h3⟩
theorem Sep.addFact {p : Hp → Prop} {st : ∀ H H', p H → Stab G H H' → p H'} {H : Hp} {M : List (Asn G)} (h : Sep H M) (x : p H) : Sep H (fact p st :: M) := by
  obtain ⟨fp, h1, h2, h3⟩ := h
  exact ⟨fp, ⟨[], fp, rfl, ⟨rfl, x⟩, h1⟩, h2, h3⟩
theorem Sep.getFact {p : Hp → Prop} {st : ∀ H H', p H → Stab G H H' → p H'} {H : Hp} {M : List (Asn G)} (h : Sep H M) {i : Nat} (e : M[i]? = some (fact p st)) : p H := by
  obtain ⟨fp, _, x⟩ := h.at e
  exact x
theorem Sep.getCell {H : Hp} {M : List (Asn G)} (h : Sep H M) {i : Nat} {a : Addr} {o : HO} (e : M[i]? = some (cell a o)) : H a = some o := by
  obtain ⟨fp, _, x⟩ := h.at e
  exact x
theorem same_new {H : Hp} {p : Addr} {o : HO} (h : H p = none) : Same H (upd H p o) := fun b u e => by
  rw [upd_ne (ne_of_none e h)]; exact e
/-- a new thing -/
theorem Sep.new {H : Hp} {M : List (Asn G)} (h : Sep H M) {p : Addr} {o : HO} (hp : H p = none) (n : per G o = false) : Sep (upd H p o) (cell p o :: M) := by
  have h' := h.more (same_new (o := o) hp)
  obtain ⟨fp, h1, h2, h3⟩ := h
  obtain ⟨_, k1, _, _⟩ := (⟨fp, h1, h2, h3⟩ : Sep H M)
  have q : satL (upd H p o) M fp := h1.loc (fun a m => by obtain ⟨u, e, _⟩ := h3 a m; exact upd_ne (ne_of_none e hp)) (.of_same (same_new hp))
  refine ⟨p :: fp, ⟨[p], fp, rfl, ⟨rfl, upd_same⟩, q⟩, List.nodup_cons.mpr ⟨fun m => ?_, h2⟩, fun a m => ?_⟩
  · obtain ⟨u, e, _⟩ := h3 p m
    rw [hp] at e; cases e
  · rcases List.mem_cons.mp m with rfl | m
    · exact ⟨o, upd_same, n⟩
    · obtain ⟨u, e, z⟩ := h3 a m
      exact ⟨u, by rw [upd_ne (ne_of_none e hp)]; exact e, z⟩
/-- a store at the first one's place -/
theorem Sep.put1 {H : Hp} {M : List (Asn G)} {a : Addr} {o o' : HO} (h : Sep H (cell a o :: M)) (n : per G o' = false) (kd : kindOf o' = kindOf o) : Sep (upd H a o') (cell a o' :: M) := by
  obtain ⟨fp, ⟨f1, f2, e, ⟨e1, ho⟩, k⟩, h2, h3⟩ := h
  subst e1; subst e
  have nd : ¬ a ∈ f2 := (List.nodup_cons.mp h2).1
  obtain ⟨u, hu, nu⟩ := h3 a (by simp)
  have st : Stab G H (upd H a o') := stab_put ho (by rw [hu] at ho; cases ho; exact nu) kd
  refine ⟨a :: f2, ⟨[a], f2, rfl, ⟨rfl, upd_same⟩, k.loc (fun b m => upd_ne fun z => nd (z ▸ m)) st⟩, h2, fun b m => ?_⟩
  rcases List.mem_cons.mp m with rfl | m
  · exact ⟨o', upd_same, n⟩
  · obtain ⟨x, hx, nx⟩ := h3 b (by simp [m])
    exact ⟨x, by rw [upd_ne (fun z => nd (by rw [← z]; exact m))]; exact hx, nx⟩
theorem Sep.put {H : Hp} {M : List (Asn G)} {i : Nat} {a : Addr} {o o' : HO} (h : Sep H M) (e : M[i]? = some (cell a o)) (n : per G o' = false) (kd : kindOf o' = kindOf o) : Sep (upd H a o') (M.set i (cell a o')) :=
  ((h.perm (pull_perm e)).put1 n kd).perm (set_perm e)
/-- another view of the i-th one -/
theorem Sep.viewAt {A B : Asn G} {H : Hp} {M : List (Asn G)} {i : Nat} (h : Sep H M) (e : M[i]? = some A) (v : ∀ fp, A.sat H fp → B.sat H fp) : Sep H (M.set i B) :=
  ((h.perm (pull_perm e)).view v).perm (set_perm e)
end Ml
namespace Ml
open PySem L2
structure Exc where
  cls : Nat
  row : Int
  deriving DecidableEq, Repr
inductive R (α : Type) where
  | ok (a : α) | exc (x : Exc) | bad
  deriving DecidableEq, Repr
namespace R
variable {α β σ ρ : Type}
def bind : R α → (α → R β) → R β
  | .ok a, f => f a
  | .exc x, _ => .exc x
  | .bad, _ => .bad
@[simp] theorem bind_ok (a : α) (f : α → R β) : (R.ok a).bind f = f a := rfl
@[simp] theorem bind_exc (x : Exc) (f : α → R β) : (R.exc x : R α).bind f = .exc x := rfl
@[simp] theorem bind_bad (f : α → R β) : (R.bad : R α).bind f = .bad := rfl
def need (p : Prop) [Decidable p] (k : R α) : R α := if p then k else .bad
@[simp] theorem need_pos {p : Prop} [Decidable p] (h : p) (k : R α) : need p k = k := if_pos h
/-- what holds of the answer, or of the error -/
def wp : R α → (α → Prop) → (Exc → Prop) → Prop
  | .ok a, q, _ => q a
  | .exc x, _, e => e x
  | .bad, _, _ => False
theorem wp_bind {m : R α} {f : α → R β} {q : β → Prop} {e : Exc → Prop} (h : wp (m.bind f) q e) : wp m (fun a => wp (f a) q e) e := by
  cases m <;> exact h
theorem wp_need {p : Prop} [Decidable p] {k : R α} {q : α → Prop} {e : Exc → Prop} (h : wp (need p k) q e) : p ∧ wp k q e := by
  unfold need at h
  by_cases c : p
  · rw [if_pos c] at h; exact ⟨c, h⟩
  · rw [if_neg c] at h; exact h.elim
theorem wp_mono {m : R α} {q q' : α → Prop} {e e' : Exc → Prop} (h : wp m q e) (hq : ∀ a, q a → q' a) (he : ∀ x, e x → e' x) : wp m q' e' := by
  cases m with
  | ok a => exact hq a h
  | exc x => exact he x h
  | bad => exact h
theorem wp_of {m : R α} {a : α} {q : α → Prop} {e : Exc → Prop} (h : m = .ok a) (k : q a) : wp m q e := by rw [h]; exact k
theorem wp_if {c : Prop} [Decidable c] {a b : R α} {q : α → Prop} {e : Exc → Prop} (h : wp (if c then a else b) q e) : (c → wp a q e) ∧ (¬ c → wp b q e) := by
  by_cases x : c
  · rw [if_pos x] at h; exact ⟨fun _ => h, fun n => absurd x n⟩
  · rw [if_neg x] at h; exact ⟨fun y => absurd y x, fun _ => h⟩
end R
/-- a turn's end: on with s, out of the loop with s, out of the def with r -/
inductive Fl (σ ρ : Type) where
  | go (s : σ) | brk (s : σ) | out (r : ρ)
  deriving DecidableEq, Repr
section
variable {α β σ ρ : Type}
def forR (f : σ → α → R σ) : List α → σ → R σ
  | [], s => .ok s
  | x :: xs, s => (f s x).bind fun s => forR f xs s
def forF (f : σ → α → R (Fl σ ρ)) : List α → σ → R (Fl σ ρ)
  | [], s => .ok (.go s)
  | x :: xs, s => (f s x).bind fun r => match r with
    | .go s => forF f xs s
    | .brk s => .ok (.go s)
    | .out r => .ok (.out r)
/-- a comprehension: what each item gives, the state carried -/
def compR (f : σ → α → R (σ × Option β)) : List α → σ → R (σ × List β)
  | [], s => .ok (s, [])
  | x :: xs, s => (f s x).bind fun r => (compR f xs r.1).bind fun t => .ok (t.1, match r.2 with
    | some y => y :: t.2
    | none => t.2)
end
class Im (G : Gx) (α : Type) where
  im : Hp → V → α → Prop
  st : ∀ {H H' : Hp} {v : V} {x : α}, im H v x → Stab G H H' → im H' v x
class Fv (G : Gx) (α : Type) extends Im G α where
  enc : α → V
  im_iff : ∀ {H : Hp} {v : V} {x : α}, im H v x ↔ v = enc x
variable {G : Gx}
instance imInt : Im G Int := ⟨fun _ v x => v = .int x, fun h _ => h⟩
instance imBool : Im G Bool := ⟨fun _ v x => v = .bl x, fun h _ => h⟩
instance imStr : Im G Str := ⟨fun _ v x => v = .str x, fun h _ => h⟩
instance imUnit : Im G Unit := ⟨fun _ v _ => v = .non, fun h _ => h⟩
instance fInt : Fv G Int := { enc := .int, im_iff := .rfl }
instance fBool : Fv G Bool := { enc := .bl, im_iff := .rfl }
instance fStr : Fv G Str := { enc := .str, im_iff := .rfl }
instance fUnit : Fv G Unit := { enc := fun _ => .non, im_iff := .rfl }
/-- the script -/
structure Script where
  ns : List Int
instance : Im G Script := ⟨fun H v x => ∃ a, v = .ref a ∧ ((∃ o, H a = some (.frz o (.lst (x.ns.map V.int)))) ∨ ∃ o its n, List.lookup a G.K = some o ∧ o.cls = Value.type "list" ∧ o.dict = none ∧ o.data = Data.seq its n ∧ its.size ≤ sizeLine ∧ Vals (x.ns.map V.int) its.toList),
  fun ⟨a, e, h⟩ s => ⟨a, e, h.imp (fun ⟨o, h⟩ => ⟨o, s.1 a _ h rfl⟩) id⟩⟩
theorem im_script {H : Hp} {v : V} {x : Script} (h : Im.im G H v x) : ∃ a, v = .ref a ∧ SqL G.K H a (x.ns.map V.int) := by
  obtain ⟨a, e, h⟩ := h
  refine ⟨a, e, ?_⟩
  rcases h with ⟨o, h⟩ | h
  · exact .inl (.inr ⟨o, h⟩)
  · exact .inr h
theorem sq_script {H : Hp} {a : Addr} {x : Script} (h : Im.im G H (.ref a) x) : SqL G.K H a (x.ns.map V.int) := by
  obtain ⟨b, e, h⟩ := im_script h
  cases e; exact h
def imL {α : Type} [Im G α] (H : Hp) : List V → List α → Prop
  | [], [] => True
  | v :: vs, x :: xs => Im.im G H v x ∧ imL H vs xs
  | _, _ => False
section
variable {α : Type} [Im G α] {H H' : Hp}
theorem imL.st : ∀ {vs : List V} {xs : List α}, imL (G := G) H vs xs → Stab G H H' → imL (G := G) H' vs xs
  | [], [], _, _ => True.intro
  | v :: vs, x :: xs, h, s => ⟨Im.st h.1 s, imL.st h.2 s⟩
  | [], _ :: _, h, _ => h
  | _ :: _, [], h, _ => h
theorem imL.len : ∀ {vs : List V} {xs : List α}, imL (G := G) H vs xs → vs.length = xs.length
  | [], [], _ => rfl
  | v :: vs, x :: xs, h => by rw [List.length_cons, List.length_cons, imL.len h.2]
  | [], _ :: _, h => h.elim
  | _ :: _, [], h => h.elim
theorem imL.app : ∀ {vs ws : List V} {xs ys : List α}, imL (G := G) H vs xs → imL (G := G) H ws ys → imL (G := G) H (vs ++ ws) (xs ++ ys)
  | [], _, [], _, _, h => h
  | v :: vs, _, x :: xs, _, h, k => ⟨h.1, imL.app h.2 k⟩
  | [], _, _ :: _, _, h, _ => h.elim
  | _ :: _, _, [], _, h, _ => h.elim
theorem imL.get : ∀ {vs : List V} {xs : List α} {i : Nat} {x : α}, imL (G := G) H vs xs → xs[i]? = some x → ∃ v, vs[i]? = some v ∧ Im.im G H v x
  | [], [], _, _, _, e => by simp at e
  | v :: vs, x :: xs, 0, y, h, e => by
    have : x = y := Option.some.inj e
    subst this
    exact ⟨v, rfl, h.1⟩
  | v :: vs, x :: xs, i + 1, y, h, e => by
    obtain ⟨u, h1, h2⟩ := imL.get (i := i) (x := y) h.2 (by simpa using e)
    exact ⟨u, by simpa using h1, h2⟩
  | [], _ :: _, _, _, h, _ => h.elim
  | _ :: _, [], _, _, h, _ => h.elim
theorem imL.set : ∀ {vs : List V} {xs : List α} {i : Nat} {x : α} {v : V}, imL (G := G) H vs xs → Im.im G H v x → imL (G := G) H (vs.set i v) (xs.set i x)
  | [], [], _, _, _, _, _ => True.intro
  | v :: vs, x :: xs, 0, y, u, h, k => ⟨k, h.2⟩
  | v :: vs, x :: xs, i + 1, y, u, h, k => ⟨h.1, imL.set h.2 k⟩
  | [], _ :: _, _, _, _, h, _ => h.elim
  | _ :: _, [], _, _, _, h, _ => h.elim
theorem imL.take : ∀ {vs : List V} {xs : List α} (n : Nat), imL (G := G) H vs xs → imL (G := G) H (vs.take n) (xs.take n)
  | [], [], n, _ => by simp [imL]
  | v :: vs, x :: xs, 0, h => True.intro
  | v :: vs, x :: xs, n + 1, h => ⟨h.1, imL.take n h.2⟩
  | [], _ :: _, _, h => h.elim
  | _ :: _, [], _, h => h.elim
theorem imL.drop : ∀ {vs : List V} {xs : List α} (n : Nat), imL (G := G) H vs xs → imL (G := G) H (vs.drop n) (xs.drop n)
  | [], [], n, _ => by simp [imL]
  | v :: vs, x :: xs, 0, h => h
  | v :: vs, x :: xs, n + 1, h => imL.drop n h.2
  | [], _ :: _, _, h => h.elim
  | _ :: _, [], _, h => h.elim
end
section
variable {α : Type} [Fv G α] {H H' : Hp}
theorem imL.flat : ∀ {vs : List V} {xs : List α}, imL (G := G) H vs xs ↔ vs = xs.map (Fv.enc G)
  | [], [] => ⟨fun _ => rfl, fun _ => True.intro⟩
  | v :: vs, x :: xs => by
    show (Im.im G H v x ∧ imL (G := G) H vs xs) ↔ _
    rw [Fv.im_iff, imL.flat]
    simp
  | [], _ :: _ => by simp [imL]
  | _ :: _, [] => by simp [imL]
end
section
variable {α : Type} [Im G α]
def lstA (a : Addr) (xs : List α) : Asn G := ⟨fun H fp => fp = [a] ∧ ∃ vs, H a = some (.lst vs) ∧ imL (G := G) H vs xs,
  fun H H' fp ⟨e, vs, h, m⟩ k s => ⟨e, vs, by rw [k a (by rw [e]; simp)]; exact h, m.st s⟩⟩
/-- a value's fact -/
def imA (v : V) (x : α) : Asn G := fact (fun H => Im.im G H v x) fun H H' h s => Im.st h s
variable {H : Hp} {L : List (Asn G)}
theorem Sep.lst (h : Sep H L) {i : Nat} {a : Addr} {xs : List α} (e : L[i]? = some (lstA a xs)) : ∃ vs, H a = some (.lst vs) ∧ imL (G := G) H vs xs := by
  obtain ⟨fp, _, x⟩ := h.at e
  exact x
theorem Sep.im (h : Sep H L) {i : Nat} {v : V} {x : α} (e : L[i]? = some (imA v x)) : Im.im G H v x := h.getFact e
theorem Sep.addIm (h : Sep H L) {v : V} {x : α} (e : Im.im G H v x) : Sep H (imA v x :: L) := h.addFact e
/-- the list's own cell, and back -/
theorem Sep.openL (h : Sep H L) {i : Nat} {a : Addr} {xs : List α} (e : L[i]? = some (lstA a xs)) : ∃ vs, imL (G := G) H vs xs ∧ Sep H (L.set i (cell a (.lst vs))) := by
  obtain ⟨vs, e1, m⟩ := h.lst e
  exact ⟨vs, m, h.viewAt e fun fp ⟨q, _⟩ => ⟨q, e1⟩⟩
theorem Sep.closeL {i : Nat} {a : Addr} {vs : List V} {xs : List α} (h : Sep H L) (e : L[i]? = some (cell a (.lst vs))) (m : imL (G := G) H vs xs) : Sep H (L.set i (lstA a xs)) :=
  h.viewAt e fun fp ⟨q, r⟩ => ⟨q, vs, r, m⟩
theorem Sep.newL (h : Sep H L) {p : Addr} {vs : List V} {xs : List α} (hp : H p = none) (m : imL (G := G) H vs xs) : Sep (upd H p (.lst vs)) (lstA p xs :: L) :=
  (h.new (o := .lst vs) hp rfl).view fun fp ⟨q, r⟩ => ⟨q, vs, r, m.st (.of_same (same_new hp))⟩
theorem set_set {β : Type} {l : List β} {i : Nat} {x y : β} : (l.set i x).set i y = l.set i y := by simp
theorem get_set {β : Type} {l : List β} {i : Nat} {x y : β} (h : l[i]? = some x) : (l.set i y)[i]? = some y := by
  have : i < l.length := by
    have := List.getElem?_eq_some_iff.mp h
    exact this.1
  simp [this]
theorem Sep.putL (h : Sep H L) {i : Nat} {a : Addr} {xs ys : List α} {vs : List V} (e : L[i]? = some (lstA a xs)) (m : imL (G := G) H vs ys) : Sep (upd H a (.lst vs)) (L.set i (lstA a ys)) := by
  obtain ⟨us, mu, h1⟩ := h.openL e
  have e1 := get_set (y := cell (G := G) a (.lst us)) e
  have h2 := h1.put (o' := .lst vs) e1 rfl rfl
  rw [set_set] at h2
  have st : Stab G H (upd H a (.lst vs)) := stab_put (h1.getCell e1) rfl rfl
  have h3 := h2.closeL (get_set e) (m.st st)
  rw [set_set] at h3
  exact h3
end
end Ml
namespace Ml
open PySem L2
variable {G : Gx}
def Ev (te : TE) (σ : St) (H : Hp) (v : V) : Prop := ∀ Q : VK, Q v H → te σ H Q
def Et (t : TT) (σ : St) (H : Hp) (b : Bool) : Prop := ∀ Q : Bool → Hp → Prop, Q b H → t σ H Q
def Ea (t : TA) (σ : St) (H : Hp) (vs : List V) : Prop := ∀ Q : List V → Hp → Prop, Q vs H → t σ H Q
def Eo (t : TO) (σ : St) (H : Hp) (o : Option Int) : Prop := ∀ Q : Option Int → Hp → Prop, Q o H → t σ H Q
section
variable {σ : St} {H : Hp} {ta tb tc te : TE} {t u : TT} {x y v : V} {i j : Int} {a b : Bool} {s z : Str} {vs : List V}
theorem ev_var {k : Nat} (h : σ[k]? = some (some v)) : Ev (tVar k) σ H v := fun _ q => ⟨v, h, q⟩
theorem ev_c : Ev (tC v) σ H v := fun _ q => q
theorem ev_op {r : R2} (ha : Ev ta σ H x) (hb : Ev tb σ H y) (hr : ∀ Q : VK, Q v H → r x y H Q) : Ev (tOp r ta tb) σ H v := fun Q q => ha _ (hb _ (hr _ q))
theorem ev_un {r : V → Hp → VK → Prop} (ha : Ev ta σ H x) (hr : ∀ Q : VK, Q v H → r x H Q) : Ev (tUn r ta) σ H v := fun Q q => ha _ (hr _ q)
theorem r_I0 {g : Int → Int → V} (Q : VK) (q : Q (g i j) H) : rI0 g (.int i) (.int j) H Q := ⟨i, j, rfl, rfl, q⟩
theorem r_I {C : Int → Int → Prop} {g : Int → Int → V} (c : C i j) (Q : VK) (q : Q (g i j) H) : rI C g (.int i) (.int j) H Q := ⟨i, j, rfl, rfl, c, q⟩
theorem ev_i0 {g : Int → Int → V} (ha : Ev ta σ H (.int i)) (hb : Ev tb σ H (.int j)) : Ev (tOp (rI0 g) ta tb) σ H (g i j) := ev_op ha hb fun Q q => r_I0 Q q
theorem ev_i {C : Int → Int → Prop} {g : Int → Int → V} (ha : Ev ta σ H (.int i)) (hb : Ev tb σ H (.int j)) (c : C i j) : Ev (tOp (rI C g) ta tb) σ H (g i j) := ev_op ha hb fun Q q => r_I c Q q
theorem ev_mul (ha : Ev ta σ H (.int i)) (hb : Ev tb σ H (.int j)) (c : CMul i j) : Ev (tOp (rI CMul fun i j => .int (i * j)) ta tb) σ H (.int (i * j)) := ev_i ha hb c
theorem ev_fdiv (ha : Ev ta σ H (.int i)) (hb : Ev tb σ H (.int j)) (c : 0 < j ∧ j < 1073741824) : Ev (tOp (rI CDiv fun i j => .int (i / j)) ta tb) σ H (.int (i / j)) := ev_i ha hb c
theorem ev_mod (ha : Ev ta σ H (.int i)) (hb : Ev tb σ H (.int j)) (c : 0 < j) : Ev (tOp (rI (fun _ j => 0 < j) fun i j => .int (i % j)) ta tb) σ H (.int (i % j)) := ev_i ha hb c
theorem ev_add (ha : Ev ta σ H (.int i)) (hb : Ev tb σ H (.int j)) : Ev (tOp (rI0 fun i j => .int (i + j)) ta tb) σ H (.int (i + j)) := ev_i0 ha hb
theorem ev_sub (ha : Ev ta σ H (.int i)) (hb : Ev tb σ H (.int j)) : Ev (tOp (rI0 fun i j => .int (i - j)) ta tb) σ H (.int (i - j)) := ev_i0 ha hb
theorem r_eqI (Q : VK) (q : Q (.bl (decide (i = j))) H) : rEq (.int i) (.int j) H Q := ⟨rfl, by
  have : decide (V.int i = V.int j) = decide (i = j) := by simp
  rw [this]; exact q⟩
theorem r_neI (Q : VK) (q : Q (.bl (!decide (i = j))) H) : rNe (.int i) (.int j) H Q := ⟨rfl, by
  have : decide (V.int i = V.int j) = decide (i = j) := by simp
  rw [this]; exact q⟩
theorem r_eqS (Q : VK) (q : Q (.bl (decide (s = z))) H) : rEq (.str s) (.str z) H Q := ⟨rfl, by
  have : decide (V.str s = V.str z) = decide (s = z) := by simp
  rw [this]; exact q⟩
theorem r_neS (Q : VK) (q : Q (.bl (!decide (s = z))) H) : rNe (.str s) (.str z) H Q := ⟨rfl, by
  have : decide (V.str s = V.str z) = decide (s = z) := by simp
  rw [this]; exact q⟩
theorem ev_eqI (ha : Ev ta σ H (.int i)) (hb : Ev tb σ H (.int j)) : Ev (tOp rEq ta tb) σ H (.bl (decide (i = j))) := ev_op ha hb fun Q q => r_eqI Q q
theorem ev_neI (ha : Ev ta σ H (.int i)) (hb : Ev tb σ H (.int j)) : Ev (tOp rNe ta tb) σ H (.bl (!decide (i = j))) := ev_op ha hb fun Q q => r_neI Q q
theorem ev_eqS (ha : Ev ta σ H (.str s)) (hb : Ev tb σ H (.str z)) : Ev (tOp rEq ta tb) σ H (.bl (decide (s = z))) := ev_op ha hb fun Q q => r_eqS Q q
theorem ev_neS (ha : Ev ta σ H (.str s)) (hb : Ev tb σ H (.str z)) : Ev (tOp rNe ta tb) σ H (.bl (!decide (s = z))) := ev_op ha hb fun Q q => r_neS Q q
def rCatS : R2 := fun x y H Q => ∃ i j, x = .str i ∧ y = .str j ∧ i.length + j.length ≤ sizeLine ∧ Q (.str (i ++ j)) H
theorem op_catS {X : Cx} : OpR X (binaryOp .Add) rCatS := op_add_str
theorem r_catS (c : s.length + z.length ≤ sizeLine) (Q : VK) (q : Q (.str (s ++ z)) H) : rCatS (.str s) (.str z) H Q := ⟨s, z, rfl, rfl, c, q⟩
theorem ev_catS (ha : Ev ta σ H (.str s)) (hb : Ev tb σ H (.str z)) (c : s.length + z.length ≤ sizeLine) : Ev (tOp rCatS ta tb) σ H (.str (s ++ z)) := ev_op ha hb fun Q q => r_catS c Q q
theorem et_test (h : Ev te σ H (.bl b)) : Et (tTest te) σ H b := fun _ q => h _ ⟨b, rfl, q⟩
theorem et_B (h : Ev te σ H (.bl b)) : Et (tB te) σ H b := fun _ q => h _ ⟨b, rfl, q⟩
theorem et_not (h : Et t σ H a) : Et (tNot t) σ H (!a) := fun _ q => h _ q
theorem et_and (h1 : Et t σ H a) (h2 : a = true → Et u σ H b) : Et (tAnd t u) σ H (a && b) := fun Q q => h1 _ (by
  cases a with
  | true => exact h2 rfl _ q
  | false => exact q)
theorem ea_nil : Ea tNil σ H [] := fun _ q => q
theorem ea_cons {tr : TA} (h : Ev ta σ H x) (hr : Ea tr σ H vs) : Ea (tCons ta tr) σ H (x :: vs) := fun _ q => h _ (hr _ q)
theorem eo_no : Eo tNoPart σ H none := fun _ q => q
theorem eo_some (h : Ev te σ H (.int i)) : Eo (tPart te) σ H (some i) := fun _ q => h _ ⟨i, rfl, q⟩
theorem ev_cb {r : List V → Hp → VK → Prop} {tr : TA} (h : Ea tr σ H vs) (hr : ∀ Q : VK, Q v H → r vs H Q) : Ev (tCB r tr) σ H v := fun Q q => h _ (hr _ q)
variable {K : PySem.W.Frag} {α : Type}
theorem ev_ixSq {p : Addr} {ws : List V} (ha : Ev ta σ H (.ref p)) (hb : Ev tb σ H (.int i)) (hs : SqL K H p ws) (e : atI ws i = some v) : Ev (tOp (rIxL K) ta tb) σ H v := ev_op ha hb fun _ q => ⟨p, ws, i, v, rfl, rfl, hs, e, q⟩
theorem ev_ixS {c : Nat} (ha : Ev ta σ H (.str z)) (hb : Ev tb σ H (.int i)) (hl : z.length ≤ sizeLine) (e : atI z.cps.toList i = some c) : Ev (tOp rIxS ta tb) σ H (.str ⟨#[c]⟩) := ev_op ha hb fun _ q => ⟨z, i, c, rfl, rfl, hl, e, q⟩
theorem ev_slS {tl th : TO} {l h : Option Int} (ha : Ev ta σ H (.str z)) (h1 : Eo tl σ H l) (h2 : Eo th σ H h) (hl : z.length ≤ sizeLine) : Ev (tSl rSlS ta tl th) σ H (.str (cutS z l h)) := fun _ q => ha _ (h1 _ (h2 _ ⟨z, rfl, hl, q⟩))
def rLenSq (K : PySem.W.Frag) : List V → Hp → VK → Prop := fun xs H Q => ∃ p ys, xs = [.ref p] ∧ (SqL K H p ys ∨ SqT K H p ys) ∧ Q (.int ys.length) H
theorem call_lenSq {X : Cx} : CallR X (.builtin "len") (rLenSq X.K) := call_len_seq
theorem ev_lenL {p : Addr} {ws : List V} (ha : Ev ta σ H (.ref p)) (hs : SqL K H p ws) : Ev (tCB (rLenSq K) (tCons ta tNil)) σ H (.int ws.length) := ev_cb (ea_cons ha ea_nil) fun _ q => ⟨p, ws, rfl, .inl hs, q⟩
end
section
variable {σ σ' : St} {H : Hp} {te : TE} {t : TT} {D : Ends} {t1 t2 tb : TS} {v : V} {b : Bool}
theorem ev_to (h : Ev te σ H v) {Q : VK} (q : Q v H) : te σ H Q := h Q q
theorem ea_to {t : TA} {vs : List V} (h : Ea t σ H vs) {Q : List V → Hp → Prop} (q : Q vs H) : t σ H Q := h Q q
theorem et_to (h : Et t σ H b) {Q : Bool → Hp → Prop} (q : Q b H) : t σ H Q := h Q q
end
section
variable {α β τ ρ : Type} {H : Hp} {σ : St} {D : Ends} {tb : TS} {g : TG} {K : PySem.W.Frag}
/-- a walk J over the items xs: at turn i it yields a v of which the i-th item holds -/
structure Wk (J : It) (I : St → Hp → Prop) (im : Hp → V → α → Prop) (xs : List α) : Prop where
  go : ∀ i σ H, I σ H → i < xs.length → J.go i H
  yl : ∀ i σ H v H' x, I σ H → xs[i]? = some x → J.yld i H v H' → I σ H' ∧ im H' v x
  sp : ∀ σ H, I σ H → J.stop xs.length H
/-- for .. in ..: the state s : τ, I s its place in slots and heap; each turn reckons f -/
theorem for_walk {J : It} {I : τ → St → Hp → Prop} {im : Hp → V → α → Prop} {xs : List α} {f : τ → α → R τ} {k : τ → Prop} {e : Exc → Prop} {s : τ}
    (w : ∀ s, Wk J (I s) im xs) (h0 : I s σ H) (hm : R.wp (forR f xs s) k e)
    (turn : ∀ (s : τ) (x : α) (v : V) (σ : St) (H : Hp) (q : τ → Prop) (N : St → Hp → Prop), I s σ H → im H v x → R.wp (f s x) q e → (∀ s' σ' H', q s' → I s' σ' H' → N σ' H') → g v σ H fun σ2 H2 => tb { D with nx := N, ct := N, bk := D.nx } σ2 H2)
    (done : ∀ s σ H, k s → I s σ H → D.nx σ H) :
    ∃ W : Nat → Nat → St → Hp → Prop, (∃ m, W 0 m σ H) ∧ ∀ i m σ H, W i m σ H →
      (J.stop i H ∧ D.nx σ H) ∨ (J.go i H ∧ ∃ N : St → Hp → Prop, (∀ σ' H', N σ' H' → ∃ m', m' < m ∧ W (i + 1) m' σ' H') ∧ ∀ x H', J.yld i H x H' → g x σ H' fun σ2 H2 => tb { D with nx := N, ct := N, bk := D.nx } σ2 H2) := by
  refine ⟨fun i m σ H => m = xs.length - i ∧ i ≤ xs.length ∧ ∃ s, I s σ H ∧ R.wp (forR f (xs.drop i) s) k e, ⟨xs.length, by simp, Nat.zero_le _, s, h0, by simpa using hm⟩, ?_⟩
  rintro i m σ H ⟨rfl, hi, s, hI, hw⟩
  by_cases c : i < xs.length
  · have ed : xs.drop i = xs[i] :: xs.drop (i + 1) := List.drop_eq_getElem_cons c
    rw [ed] at hw
    refine .inr ⟨(w s).go i σ H hI c, fun σ' H' => ∃ s', I s' σ' H' ∧ R.wp (forR f (xs.drop (i + 1)) s') k e, fun σ' H' ⟨s', h1, h2⟩ => ⟨xs.length - (i + 1), by omega, rfl, c, s', h1, h2⟩, fun v H' y => ?_⟩
    obtain ⟨hI', hv⟩ := (w s).yl i σ H v H' xs[i] hI (List.getElem?_eq_getElem c) y
    exact turn s xs[i] v σ H' _ _ hI' hv (R.wp_bind hw) fun s' σ' H'' q hI'' => ⟨s', hI'', q⟩
  · have ei : i = xs.length := by omega
    subst ei
    rw [List.drop_length] at hw
    exact .inl ⟨(w s).sp σ H hI, done s σ H hw hI⟩
/-- .. whose turns may leave it -/
theorem for_walkF {J : It} {I : τ → St → Hp → Prop} {im : Hp → V → α → Prop} {xs : List α} {f : τ → α → R (Fl τ ρ)} {k : Fl τ ρ → Prop} {e : Exc → Prop} {s : τ}
    (w : ∀ s, Wk J (I s) im xs) (h0 : I s σ H) (hm : R.wp (forF f xs s) k e)
    (turn : ∀ (s : τ) (x : α) (v : V) (σ : St) (H : Hp) (q : Fl τ ρ → Prop) (N B : St → Hp → Prop), I s σ H → im H v x → R.wp (f s x) q e → (∀ s' σ' H', q (.go s') → I s' σ' H' → N σ' H') → (∀ s' σ' H', q (.brk s') → I s' σ' H' → B σ' H') → (∀ r, q (.out r) → k (.out r)) →
      g v σ H fun σ2 H2 => tb { D with nx := N, ct := N, bk := B } σ2 H2)
    (done : ∀ s σ H, k (.go s) → I s σ H → D.nx σ H) :
    ∃ W : Nat → Nat → St → Hp → Prop, (∃ m, W 0 m σ H) ∧ ∀ i m σ H, W i m σ H →
      (J.stop i H ∧ D.nx σ H) ∨ (J.go i H ∧ ∃ N : St → Hp → Prop, (∀ σ' H', N σ' H' → ∃ m', m' < m ∧ W (i + 1) m' σ' H') ∧ ∀ x H', J.yld i H x H' → g x σ H' fun σ2 H2 => tb { D with nx := N, ct := N, bk := D.nx } σ2 H2) := by
  refine ⟨fun i m σ H => m = xs.length - i ∧ i ≤ xs.length ∧ ∃ s, I s σ H ∧ R.wp (forF f (xs.drop i) s) k e, ⟨xs.length, by simp, Nat.zero_le _, s, h0, by simpa using hm⟩, ?_⟩
  rintro i m σ H ⟨rfl, hi, s, hI, hw⟩
  by_cases c : i < xs.length
  · have ed : xs.drop i = xs[i] :: xs.drop (i + 1) := List.drop_eq_getElem_cons c
    rw [ed] at hw
    refine .inr ⟨(w s).go i σ H hI c, fun σ' H' => ∃ s', I s' σ' H' ∧ R.wp (forF f (xs.drop (i + 1)) s') k e, fun σ' H' ⟨s', h1, h2⟩ => ⟨xs.length - (i + 1), by omega, rfl, c, s', h1, h2⟩, fun v H' y => ?_⟩
    obtain ⟨hI', hv⟩ := (w s).yl i σ H v H' xs[i] hI (List.getElem?_eq_getElem c) y
    have hw' := R.wp_bind hw
    exact turn s xs[i] v σ H' _ _ _ hI' hv hw' (fun s' σ' H'' q hI'' => ⟨s', hI'', q⟩) (fun s' σ' H'' q hI'' => done s' σ' H'' q hI'') fun r q => q
  · have ei : i = xs.length := by omega
    subst ei
    rw [List.drop_length] at hw
    exact .inl ⟨(w s).sp σ H hI, done s σ H hw hI⟩
/-- a comprehension -/
theorem lc_walk {J : It} {I : Addr → τ → List β → Hp → Prop} {im : Hp → V → α → Prop} [Im G β] {xs : List α} {f : τ → α → R (τ × Option β)} {k : τ × List β → Prop} {e : Exc → Prop} {s : τ} {tt : TT} {te : TE} {vs : List Nat} {Q : VK} {Dr : Addr}
    (w : ∀ s ys, Wk J (fun _ H => I Dr s ys H) im xs) (h0 : I Dr s [] (upd H Dr (.lst []))) (hm : R.wp (compR f xs s) k e) (hl : xs.length ≤ sizeLine)
    (turn : ∀ (s : τ) (ys : List β) (x : α) (v : V) (H : Hp) (q : τ × Option β → Prop) (Nx : Hp → Prop), I Dr s ys H → im H v x → R.wp (f s x) q e → ys.length < sizeLine →
      (∀ s' y u H', q (s', some y) → Im.im G H' u y → I Dr s' ys H' → ∃ acc, H' Dr = some (.lst acc) ∧ acc.length < sizeLine ∧ Nx (upd H' Dr (.lst (acc ++ [u])))) → (∀ s' H', q (s', none) → I Dr s' ys H' → Nx H') →
      g v (wipe σ vs) H fun σ2 H2 => wipe σ2 vs = wipe σ vs ∧ tt σ2 H2 fun b H3 => if b = true then te σ2 H3 fun y H4 => ∃ acc, H4 Dr = some (.lst acc) ∧ acc.length < sizeLine ∧ Nx (upd H4 Dr (.lst (acc ++ [y]))) else Nx H3)
    (app : ∀ s ys y u H, I Dr s ys H → Im.im G H u y → ∃ acc, H Dr = some (.lst acc) ∧ acc.length = ys.length ∧ I Dr s (ys ++ [y]) (upd H Dr (.lst (acc ++ [u]))))
    (done : ∀ s ys H, k (s, ys) → I Dr s ys H → Q (.ref Dr) H) :
    ∃ W : Nat → Nat → Hp → Prop, (∃ m, W 0 m (upd H Dr (.lst []))) ∧ ∀ i m H, W i m H →
      (J.stop i H ∧ Q (.ref Dr) H) ∨ (J.go i H ∧ ∃ Nx : Hp → Prop, (∀ H', Nx H' → ∃ m', m' < m ∧ W (i + 1) m' H') ∧ ∀ x H', J.yld i H x H' → g x (wipe σ vs) H' fun σ2 H2 => wipe σ2 vs = wipe σ vs ∧ tt σ2 H2 fun b H3 =>
        if b = true then te σ2 H3 fun y H4 => ∃ acc, H4 Dr = some (.lst acc) ∧ acc.length < sizeLine ∧ Nx (upd H4 Dr (.lst (acc ++ [y]))) else Nx H3) := by
  refine ⟨fun i m H => m = xs.length - i ∧ i ≤ xs.length ∧ ∃ s ys, ys.length ≤ i ∧ I Dr s ys H ∧ R.wp (compR f (xs.drop i) s) (fun t => k (t.1, ys ++ t.2)) e, ⟨xs.length, by simp, Nat.zero_le _, s, [], Nat.le_refl _, h0, by simpa using hm⟩, ?_⟩
  rintro i m H ⟨rfl, hi, s, ys, hy, hI, hw⟩
  by_cases c : i < xs.length
  · have ed : xs.drop i = xs[i] :: xs.drop (i + 1) := List.drop_eq_getElem_cons c
    rw [ed] at hw
    refine .inr ⟨(w s ys).go i [] H hI c, fun H' => ∃ s' ys', ys'.length ≤ i + 1 ∧ I Dr s' ys' H' ∧ R.wp (compR f (xs.drop (i + 1)) s') (fun t => k (t.1, ys' ++ t.2)) e,
      fun H' ⟨s', ys', h0, h1, h2⟩ => ⟨xs.length - (i + 1), by omega, rfl, c, s', ys', h0, h1, h2⟩, fun v H' y => ?_⟩
    obtain ⟨hI', hv⟩ := (w s ys).yl i [] H v H' xs[i] hI (List.getElem?_eq_getElem c) y
    have hw' := R.wp_bind hw
    refine turn s ys xs[i] v H' _ _ hI' hv hw' (by omega) (fun s' y u H'' q hu hI'' => ?_) (fun s' H'' q hI'' => ?_)
    · have q' := R.wp_bind q
      obtain ⟨acc, ea, la, hI3⟩ := app s' ys y u H'' hI'' hu
      refine ⟨acc, ea, by omega, s', ys ++ [y], by simp; omega, hI3, ?_⟩
      refine R.wp_mono q' (fun t ht => ?_) fun _ z => z
      have ht' : k (t.1, ys ++ y :: t.2) := ht
      rw [List.append_assoc]; exact ht'
    · have q' := R.wp_bind q
      exact ⟨s', ys, by omega, hI'', R.wp_mono q' (fun t ht => ht) fun _ z => z⟩
  · have ei : i = xs.length := by omega
    subst ei
    rw [List.drop_length] at hw
    have hw : k (s, ys ++ []) := hw
    rw [List.append_nil] at hw
    exact .inl ⟨(w s ys).sp [] H hI, done s ys H hw hI⟩
end
end Ml
namespace Ml
open PySem L2
variable {G : Gx}
def idxR {α : Type} (xs : List α) (i : Int) : R α := match atI xs i with
  | some x => .ok x
  | none => .bad
theorem wp_idx {α ρ : Type} {xs : List α} {i : Int} {f : α → R ρ} {q : ρ → Prop} {e : Exc → Prop} (h : R.wp ((idxR xs i).bind f) q e) : ∃ x, atI xs i = some x ∧ R.wp (f x) q e := by
  unfold idxR at h
  cases c : atI xs i with
  | some x => rw [c] at h; exact ⟨x, rfl, h⟩
  | none => rw [c] at h; exact h.elim
theorem atI_map {α β : Type} {xs : List α} {f : α → β} {i : Int} {x : α} (h : atI xs i = some x) : atI (xs.map f) i = some (f x) := by
  unfold atI at h ⊢
  rw [List.length_map]
  cases e : ixN xs.length i with
  | none => rw [e] at h; cases h
  | some j =>
    rw [e] at h
    show (xs.map f)[j]? = some (f x)
    have h : xs[j]? = some x := h
    rw [List.getElem?_map, h]; rfl
theorem atI_im {α : Type} [Im G α] {H : Hp} {vs : List V} {xs : List α} {i : Int} {x : α} (m : imL (G := G) H vs xs) (h : atI xs i = some x) : ∃ v, atI vs i = some v ∧ Im.im G H v x := by
  unfold atI at h ⊢
  rw [m.len]
  cases e : ixN xs.length i with
  | none => rw [e] at h; cases h
  | some j =>
    rw [e] at h
    exact m.get h
theorem atI_ok {α : Type} {xs : List α} {i : Int} (h0 : 0 ≤ i) (h1 : i < xs.length) : ∃ x, xs[i.toNat]? = some x ∧ atI xs i = some x := by
  have hj : i.toNat < xs.length := by omega
  refine ⟨xs[i.toNat], List.getElem?_eq_getElem hj, ?_⟩
  unfold atI ixN
  rw [if_pos h0, if_pos h1]
  exact List.getElem?_eq_getElem hj
theorem idxR_ok {α : Type} {xs : List α} {i : Int} {x : α} (h0 : 0 ≤ i) (h1 : xs[i.toNat]? = some x) : idxR xs i = .ok x := by
  have hl : i.toNat < xs.length := (List.getElem?_eq_some_iff.mp h1).1
  obtain ⟨y, hy, h⟩ := atI_ok (xs := xs) h0 (by omega)
  rw [h1] at hy; cases hy
  unfold idxR; rw [h]
/-- one sign as a text -/
abbrev sg (c : Nat) : Str := ⟨#[c]⟩
def mulOk (i j : Int) : Prop := (-(2 ^ 64) < i ∧ i < 2 ^ 64) ∨ (-(2 ^ 64) < j ∧ j < 2 ^ 64)
instance (i j : Int) : Decidable (mulOk i j) := by unfold mulOk; infer_instance
def rngL (lo : Int) (n : Nat) : List Int := (List.range n).map fun (i : Nat) => lo + (i : Int)
theorem rngL_len (lo : Int) (n : Nat) : (rngL lo n).length = n := by simp [rngL]
theorem rngL_get {lo : Int} {n i : Nat} {x : Int} (h : (rngL lo n)[i]? = some x) : x = lo + (i : Int) ∧ i < n := by
  have hl : i < (rngL lo n).length := (List.getElem?_eq_some_iff.mp h).1
  rw [rngL_len] at hl
  unfold rngL at h
  rw [List.getElem?_map, List.getElem?_range hl] at h
  exact ⟨(Option.some.inj h).symm, hl⟩
section
variable {α τ : Type} {I : St → Hp → Prop} {K : PySem.W.Frag} {a : Addr}
theorem wk_list [Im G α] {xs : List α} (h : ∀ σ H, I σ H → ∃ vs, SqL K H a vs ∧ imL (G := G) H vs xs) : Wk (Itl K a) I (Im.im G) xs where
  go := fun i σ H hI hi => by
    obtain ⟨vs, s, m⟩ := h σ H hI
    have hl : i < vs.length := by rw [m.len]; exact hi
    exact ⟨vs, vs[i], s, List.getElem?_eq_getElem hl⟩
  yl := fun i σ H v H' x hI hx y => by
    obtain ⟨vs, s, m⟩ := h σ H hI
    obtain ⟨rfl, y⟩ := y
    obtain ⟨u, hu, im⟩ := m.get hx
    have e := y vs s
    rw [hu] at e; cases e
    exact ⟨hI, im⟩
  sp := fun σ H hI => by
    obtain ⟨vs, s, m⟩ := h σ H hI
    exact ⟨vs, s, by rw [m.len]; exact Nat.le_refl _⟩
theorem wk_range {lo : Int} {n : Nat} : Wk (Itr lo n) I (fun _ v (x : Int) => v = .int x) (rngL lo n) where
  go := fun i σ H _ hi => by rw [rngL_len] at hi; exact hi
  yl := fun i σ H v H' x hI hx y => by
    obtain ⟨rfl, y⟩ := y
    obtain ⟨e, _⟩ := rngL_get hx
    exact ⟨hI, by rw [y, e]⟩
  sp := fun σ H _ => by rw [rngL_len]; exact Nat.le_refl _
end
theorem Sep.sq {α : Type} [Im G α] {H : Hp} {L : List (Asn G)} (h : Sep H L) {i : Nat} {a : Addr} {xs : List α} (e : L[i]? = some (lstA a xs)) : ∃ vs, SqL G.K H a vs ∧ imL (G := G) H vs xs := by
  obtain ⟨vs, e, m⟩ := h.lst e
  exact ⟨vs, .inl (.inl e), m⟩
theorem Sep.sqF {α : Type} [Fv G α] {H : Hp} {L : List (Asn G)} (h : Sep H L) {i : Nat} {a : Addr} {xs : List α} (e : L[i]? = some (lstA a xs)) : SqL G.K H a (xs.map (Fv.enc G)) := by
  obtain ⟨vs, e, m⟩ := h.sq e
  rw [imL.flat.mp m] at e
  exact e
section
variable {σ σ' : St} {H : Hp} {L L' : List (Asn G)} {D : Ends} {Q : VK} {te ta tb : TE} {α β : Type}
theorem c_op {r : R2} (h : ta σ H fun x H1 => tb σ H1 fun y H2 => r x y H2 Q) : tOp r ta tb σ H Q := h
theorem c_cons {tr : TA} {P : List V → Hp → Prop} (h : ta σ H fun x H1 => tr σ H1 fun xs H2 => P (x :: xs) H2) : tCons ta tr σ H P := h
theorem c_nil {P : List V → Hp → Prop} (h : P [] H) : tNil σ H P := h
theorem c_call {sp : Sp} {dvs : List V} {E : XK} {t : TA} (h : t σ H fun vs H1 => sp (vs ++ dvs) H1 Q E) : tCall sp dvs E t σ H Q := h
theorem c_cb {r : List V → Hp → VK → Prop} {t : TA} (h : t σ H fun vs H1 => r vs H1 Q) : tCB r t σ H Q := h
theorem c_asg {i : Nat} (h : te σ H fun v H1 => D.nx (σ.set i (some v)) H1) : tAsg te (gName i) D σ H := h
theorem c_ret (h : te σ H D.rt) : tRet te D σ H := h
theorem c_drop (h : te σ H fun _ H1 => D.nx σ H1) : tDrop te D σ H := h
theorem c_set {i : Nat} {v : V} (e : σ.set i (some v) = σ') (h : D.nx σ' H) : D.nx (σ.set i (some v)) H := by rw [e]; exact h
/-- a new list of written items -/
def lstK (Q : VK) : List V → Hp → Prop := fun xs H1 => xs.length ≤ sizeLine ∧ ∀ p, H1 p = none → Q (.ref p) (upd H1 p (.lst xs))
def tupK (Q : VK) : List V → Hp → Prop := fun xs H1 => xs.length ≤ sizeLine ∧ ∀ p, H1 p = none → Q (.ref p) (upd H1 p (.tup xs))
theorem k_lst [Im G α] {vs : List V} {xs : List α} (hS : Sep H L) (m : imL (G := G) H vs xs) (z : vs.length ≤ sizeLine) (k : ∀ p H', Sep H' (lstA p xs :: L) → Q (.ref p) H') :
    lstK Q vs H := ⟨z, fun p hp => k p _ (hS.newL hp m)⟩
theorem c_lst {t : TA} (h : t σ H (lstK Q)) : tLst t σ H Q := h
theorem c_tup {t : TA} (h : t σ H (tupK Q)) : tTup t σ H Q := h
theorem c_bm {K : PySem.W.Frag} {T : String} {r : V → List V → Hp → VK → Prop} {to : TE} {t : TA} (h : to σ H fun x H1 => tyV K T x H1 ∧ t σ H1 fun xs H2 => r x xs H2 Q) : tBM K T r to t σ H Q := h
theorem tyL [Im G α] {i : Nat} {a : Addr} {xs : List α} (hS : Sep H L) (e : L[i]? = some (lstA a xs)) : tyV G.K "list" (.ref a) H := by
  obtain ⟨vs, h, _⟩ := hS.sq e
  exact .inl ⟨rfl, vs, h⟩
theorem k_append [Im G α] {i : Nat} {a : Addr} {xs : List α} {x : α} {v : V} (hS : Sep H L) (e : L[i]? = some (lstA a xs)) (hv : Im.im G H v x) (z : xs.length < sizeLine) (e2 : L.set i (lstA a (xs ++ [x])) = L')
    (k : ∀ H', Sep H' L' → Q .non H') : rAppend (.ref a) [v] H Q := by
  obtain ⟨vs, h, m⟩ := hS.lst e
  refine ⟨a, vs, v, rfl, rfl, h, by rw [m.len]; exact z, k _ ?_⟩
  subst e2
  exact hS.putL e (m.app (vs := vs) (ws := [v]) ⟨hv, True.intro⟩)
def cutL (xs : List α) (lo hi : Option Int) : List α := (xs.drop (HT.sIx xs.length 0 lo)).take (HT.sIx xs.length xs.length hi - HT.sIx xs.length 0 lo)
def rListSq (K : PySem.W.Frag) : List V → Hp → VK → Prop := fun xs H Q => ∃ p ys, xs = [.ref p] ∧ (SqL K H p ys ∨ SqT K H p ys) ∧ ∀ l, H l = none → Q (.ref l) (upd H l (.lst ys))
theorem call_listSq {X : Cx} : CallR X (.type "list") (rListSq X.K) := call_list_of
end
end Ml
namespace Ml
open PySem L2
variable {G : Gx}
section
variable {κ β : Type} [DecidableEq κ]
def dget (kvs : List (κ × β)) (k : κ) : Option β := (kvs.find? fun kv => decide (kv.1 = k)).map (·.2)
def dput (kvs : List (κ × β)) (k : κ) (v : β) : List (κ × β) :=
  if (kvs.any fun kv => decide (kv.1 = k)) = true then kvs.map (fun kv => if kv.1 = k then (kv.1, v) else kv) else kvs ++ [(k, v)]
def ddrop (kvs : List (κ × β)) (k : κ) : List (κ × β) := kvs.filter fun kv => decide (kv.1 ≠ k)
def dhas (kvs : List (κ × β)) (k : κ) : Bool := (dget kvs k).isSome
end
class Kx (κ : Type) where
  key : κ → Key
  inj : ∀ {a b : κ}, key a = key b → a = b
instance : Kx Int := ⟨Sum.inl, fun h => Sum.inl.inj h⟩
instance : Kx Str := ⟨Sum.inr, fun h => Sum.inr.inj h⟩
section
variable {κ β : Type} [DecidableEq κ] [Kx κ] [Im G β]
def imD (H : Hp) : List (Key × V) → List (κ × β) → Prop
  | [], [] => True
  | p :: ps, q :: qs => (p.1 = Kx.key q.1 ∧ Im.im G H p.2 q.2) ∧ imD H ps qs
  | _, _ => False
variable {H H' : Hp}
theorem imD.st : ∀ {ps : List (Key × V)} {qs : List (κ × β)}, imD (G := G) H ps qs → Stab G H H' → imD (G := G) H' ps qs
  | [], [], _, _ => True.intro
  | p :: ps, q :: qs, h, s => ⟨⟨h.1.1, Im.st h.1.2 s⟩, imD.st h.2 s⟩
  | [], _ :: _, h, _ => h
  | _ :: _, [], h, _ => h
theorem imD.len : ∀ {ps : List (Key × V)} {qs : List (κ × β)}, imD (G := G) H ps qs → ps.length = qs.length
  | [], [], _ => rfl
  | p :: ps, q :: qs, h => by rw [List.length_cons, List.length_cons, imD.len h.2]
  | [], _ :: _, h => h.elim
  | _ :: _, [], h => h.elim
theorem key_dec (a b : κ) : decide (Kx.key a = Kx.key b) = decide (a = b) := by
  by_cases h : a = b
  · subst h; simp
  · have : ¬ Kx.key a = Kx.key b := fun e => h (Kx.inj e)
    simp [h, this]
theorem imD.val : ∀ {ps : List (Key × V)} {qs : List (κ × β)} (k : κ), imD (G := G) H ps qs → (∀ y, dget qs k = some y → ∃ v, valV ps (Kx.key k) = some v ∧ Im.im G H v y) ∧ (dget qs k = none → valV ps (Kx.key k) = none)
  | [], [], _, _ => ⟨fun y e => (by cases (show (none : Option β) = some y from e)), fun _ => rfl⟩
  | p :: ps, q :: qs, k, ⟨⟨e1, e2⟩, h⟩ => by
    have ih := imD.val k h
    by_cases c : q.1 = k
    · have c1 : p.1 = Kx.key k := by rw [e1, c]
      have d : dget (q :: qs) k = some q.2 := by simp [dget, List.find?_cons, c]
      rw [d, valV_pos c1]
      exact ⟨fun y e => ⟨p.2, rfl, by cases e; exact e2⟩, fun e => by cases e⟩
    · have c1 : ¬ p.1 = Kx.key k := fun z => c (Kx.inj (e1.symm.trans z))
      have d : dget (q :: qs) k = dget qs k := by simp [dget, List.find?_cons, c]
      rw [d, valV_neg c1]
      exact ih
  | [], _ :: _, _, h => h.elim
  | _ :: _, [], _, h => h.elim
theorem imD.any : ∀ {ps : List (Key × V)} {qs : List (κ × β)} (k : κ), imD (G := G) H ps qs → (ps.any fun kv => decide (kv.1 = Kx.key k)) = qs.any fun kv => decide (kv.1 = k)
  | [], [], _, _ => rfl
  | p :: ps, q :: qs, k, ⟨⟨e1, e2⟩, h⟩ => by
    rw [List.any_cons, List.any_cons, imD.any k h, e1, key_dec]
  | [], _ :: _, _, h => h.elim
  | _ :: _, [], _, h => h.elim
theorem imD.app : ∀ {ps rs : List (Key × V)} {qs ts : List (κ × β)}, imD (G := G) H ps qs → imD (G := G) H rs ts → imD (G := G) H (ps ++ rs) (qs ++ ts)
  | [], _, [], _, _, h => h
  | _ :: _, _, _ :: _, _, h, k => ⟨h.1, imD.app h.2 k⟩
  | [], _, _ :: _, _, h, _ => h.elim
  | _ :: _, _, [], _, h, _ => h.elim
theorem imD.rep : ∀ {ps : List (Key × V)} {qs : List (κ × β)} {k : κ} {v : V} {y : β}, imD (G := G) H ps qs → Im.im G H v y →
    imD (G := G) H (ps.map fun kv => if kv.1 = Kx.key k then (kv.1, v) else kv) (qs.map fun kv => if kv.1 = k then (kv.1, y) else kv)
  | [], [], _, _, _, _, _ => True.intro
  | p :: ps, q :: qs, k, v, y, ⟨⟨e1, e2⟩, h⟩, hv => by
    refine ⟨?_, imD.rep h hv⟩
    show (if p.1 = Kx.key k then (p.1, v) else p).1 = Kx.key (if q.1 = k then (q.1, y) else q).1 ∧ Im.im G H (if p.1 = Kx.key k then (p.1, v) else p).2 (if q.1 = k then (q.1, y) else q).2
    by_cases c : q.1 = k
    · have c1 : p.1 = Kx.key k := by rw [e1, c]
      rw [if_pos c, if_pos c1]; exact ⟨e1, hv⟩
    · have c1 : ¬ p.1 = Kx.key k := fun z => c (Kx.inj (e1.symm.trans z))
      rw [if_neg c, if_neg c1]; exact ⟨e1, e2⟩
  | [], _ :: _, _, _, _, h, _ => h.elim
  | _ :: _, [], _, _, _, h, _ => h.elim
theorem imD.put {ps : List (Key × V)} {qs : List (κ × β)} {k : κ} {v : V} {y : β} (h : imD (G := G) H ps qs) (hv : Im.im G H v y) : imD (G := G) H (putK ps (Kx.key k) v) (dput qs k y) := by
  unfold putK dput
  rw [h.any k]
  split
  · exact h.rep hv
  · exact h.app (rs := [(Kx.key k, v)]) (ts := [(k, y)]) ⟨⟨rfl, hv⟩, True.intro⟩
theorem imD.drop : ∀ {ps : List (Key × V)} {qs : List (κ × β)} (k : κ), imD (G := G) H ps qs → imD (G := G) H (dropK ps (Kx.key k)) (ddrop qs k)
  | [], [], _, _ => True.intro
  | p :: ps, q :: qs, k, ⟨⟨e1, e2⟩, h⟩ => by
    have ih := imD.drop k h
    unfold dropK ddrop at ih ⊢
    rw [List.filter_cons, List.filter_cons]
    by_cases c : q.1 = k
    · have c1 : p.1 = Kx.key k := by rw [e1, c]
      simp only [c, c1, ne_eq, not_true_eq_false, decide_false, Bool.false_eq_true, if_false]
      exact ih
    · have c1 : ¬ p.1 = Kx.key k := fun z => c (Kx.inj (e1.symm.trans z))
      simp only [c, c1, ne_eq, not_false_eq_true, decide_true, if_true]
      exact ⟨⟨e1, e2⟩, ih⟩
  | [], _ :: _, _, h => h.elim
  | _ :: _, [], _, h => h.elim
theorem imD.keys : ∀ {ps : List (Key × V)} {qs : List (κ × β)}, imD (G := G) H ps qs → ps.map (·.1) = qs.map fun q => Kx.key q.1
  | [], [], _ => rfl
  | p :: ps, q :: qs, h => by rw [List.map_cons, List.map_cons, imD.keys h.2, h.1.1]
  | [], _ :: _, h => h.elim
  | _ :: _, [], h => h.elim
def dictA (a : Addr) (kvs : List (κ × β)) : Asn G := ⟨fun H fp => fp = [a] ∧ ∃ ps, H a = some (.dK ps) ∧ imD (G := G) H ps kvs,
  fun H H' fp ⟨e, ps, h, m⟩ k s => ⟨e, ps, by rw [k a (by rw [e]; simp)]; exact h, m.st s⟩⟩
variable {L L' : List (Asn G)}
theorem Sep.dict (h : Sep H L) {i : Nat} {a : Addr} {kvs : List (κ × β)} (e : L[i]? = some (dictA a kvs)) : ∃ ps, H a = some (.dK ps) ∧ imD (G := G) H ps kvs := by
  obtain ⟨fp, _, x⟩ := h.at e
  exact x
theorem Sep.newD (h : Sep H L) {p : Addr} (hp : H p = none) : Sep (upd H p (.dK [])) (dictA p ([] : List (κ × β)) :: L) :=
  (h.new (o := .dK []) hp rfl).view fun fp ⟨q, r⟩ => ⟨q, [], r, True.intro⟩
theorem Sep.putD (h : Sep H L) {i : Nat} {a : Addr} {xs ys : List (κ × β)} {ps : List (Key × V)} (e : L[i]? = some (dictA a xs)) (m : imD (G := G) H ps ys) : Sep (upd H a (.dK ps)) (L.set i (dictA a ys)) := by
  obtain ⟨us, e0, mu⟩ := h.dict e
  have h1 : Sep H (L.set i (cell a (.dK us))) := h.viewAt e fun fp ⟨q, _⟩ => ⟨q, e0⟩
  have e1 := get_set (y := cell (G := G) a (.dK us)) e
  have h2 := h1.put (o' := .dK ps) e1 rfl rfl
  rw [set_set] at h2
  have st : Stab G H (upd H a (.dK ps)) := stab_put (h1.getCell e1) rfl rfl
  have h3 := h2.viewAt (B := dictA a ys) (get_set e) fun fp ⟨q, r⟩ => ⟨q, ps, r, m.st st⟩
  rw [set_set] at h3
  exact h3
variable {σ : St} {Q : VK} {td ty tx : TE} {k : κ} {a : Addr} {xs : List (κ × β)} {i : Nat}
theorem k_dnew (hS : Sep H L) (q : ∀ p H', Sep H' (dictA p ([] : List (κ × β)) :: L) → Q (.ref p) H') : tDNewK σ H Q := fun p hp => q p _ (hS.newD hp)
theorem dget_at (hS : Sep H L) (e : L[i]? = some (dictA a xs)) {o : Option β} (ho : dget xs k = o) : ∃ r, DGet H a (kV (Kx.key k)) r ∧ (∀ y, o = some y → ∃ v, r = some v ∧ Im.im G H v y) ∧ (o = none → r = none) := by
  obtain ⟨ps, h, m⟩ := hS.dict e
  obtain ⟨v1, v2⟩ := m.val k
  exact ⟨_, DGet.k h, fun y q => v1 y (ho.trans q), fun q => v2 (ho.trans q)⟩
theorem ev_din (hS : Sep H L) (e : L[i]? = some (dictA a xs)) (hy : Ev ty σ H (kV (Kx.key k))) (hd : Ev td σ H (.ref a)) : Ev (tDIn ty td) σ H (.bl (dhas xs k)) := fun Q q => hy _ (hd _ (by
  obtain ⟨r, g, h1, h2⟩ := dget_at hS e (k := k) rfl
  refine ⟨a, r, rfl, g, ?_⟩
  have : r.isSome = dhas xs k := by
    unfold dhas
    cases c : dget xs k with
    | none => rw [h2 c]; rfl
    | some y => obtain ⟨v, e, _⟩ := h1 y c; rw [e]; rfl
  rw [this]; exact q))
theorem ev_dnotin (hS : Sep H L) (e : L[i]? = some (dictA a xs)) (hy : Ev ty σ H (kV (Kx.key k))) (hd : Ev td σ H (.ref a)) : Ev (tDNotIn ty td) σ H (.bl (!dhas xs k)) := fun Q q => hy _ (hd _ (by
  obtain ⟨r, g, h1, h2⟩ := dget_at hS e (k := k) rfl
  refine ⟨a, r, rfl, g, ?_⟩
  have : r.isSome = dhas xs k := by
    unfold dhas
    cases c : dget xs k with
    | none => rw [h2 c]; rfl
    | some y => obtain ⟨v, e, _⟩ := h1 y c; rw [e]; rfl
  rw [this]; exact q))
theorem isD_of (hS : Sep H L) (e : L[i]? = some (dictA a xs)) : IsD H a := by
  obtain ⟨ps, h, _⟩ := hS.dict e
  exact .inl ⟨ps, .inl h⟩
end
class Lay (α : Type) where
  lay : α → Bool
instance : Lay Int := ⟨fun _ => true⟩
instance : Lay Bool := ⟨fun _ => true⟩
instance : Lay Str := ⟨fun x => PyData.strOk x⟩
def layAllB {α : Type} [Lay α] (xs : List α) : Bool := xs.all Lay.lay
class Pd (G : Gx) (α : Type) [Im G α] [DecidableEq α] [Lay α] where
  pd : α → PyData
  dep : Nat
  dp : ∀ {H : Hp} {v : V} {x : α}, Im.im G H v x → Dp G.K H v (pd x)
  lay_ok : ∀ x, Lay.lay x = true → (pd x).canLay0 = true
  dep_ok : ∀ x, (pd x).depth ≤ dep
  eqv : ∀ x y, PyData.eqv (pd x) (pd y) = decide (x = y)
instance pInt : Pd G Int where
  pd := .int
  dep := 0
  dp := fun {H v x} h => by
    have h : v = .int x := h
    subst h; exact .int x
  lay_ok := fun _ _ => rfl
  dep_ok := fun _ => Nat.le_refl _
  eqv := fun x y => by
    show (x == y) = decide (x = y)
    rfl
instance pBool : Pd G Bool where
  pd := .bool
  dep := 0
  dp := fun {H v x} h => by
    have h : v = .bl x := h
    subst h; exact .bl x
  lay_ok := fun _ _ => rfl
  dep_ok := fun _ => Nat.le_refl _
  eqv := fun x y => by cases x <;> cases y <;> rfl
theorem str_beq (x y : Str) : (x == y) = decide (x = y) := by
  by_cases h : x = y
  · subst h; simp
  · simp [h]
instance pStr : Pd G Str where
  pd := .str
  dep := 0
  dp := fun {H v x} h => by
    have h : v = .str x := h
    subst h; exact .str x
  lay_ok := fun _ h => h
  dep_ok := fun _ => Nat.le_refl _
  eqv := fun x y => str_beq x y
section
variable {α : Type} [Im G α] [DecidableEq α] [Lay α] [Pd G α] {H : Hp} {L : List (Asn G)}
theorem dpAll : ∀ {vs : List V} {xs : List α}, imL (G := G) H vs xs → DpAll G.K H vs (xs.map (Pd.pd G))
  | [], [], _ => .nil
  | v :: vs, x :: xs, h => .cons (Pd.dp h.1) (dpAll h.2)
  | [], _ :: _, h => h.elim
  | _ :: _, [], h => h.elim
theorem layAll : ∀ {xs : List α}, layAllB xs = true → PyData.canLayAll0 (xs.map (Pd.pd G)) = true
  | [], _ => rfl
  | x :: xs, h => by
    unfold layAllB at h
    rw [List.all_cons, Bool.and_eq_true] at h
    show ((Pd.pd G x).canLay0 && PyData.canLayAll0 (xs.map (Pd.pd G))) = true
    rw [Pd.lay_ok x h.1, layAll h.2]; rfl
theorem depAll : ∀ (xs : List α), PyData.depthAll (xs.map (Pd.pd G)) ≤ Pd.dep G α
  | [] => Nat.zero_le _
  | x :: xs => by
    show max (Pd.pd G x).depth (PyData.depthAll (xs.map (Pd.pd G))) ≤ _
    exact Nat.max_le.mpr ⟨Pd.dep_ok x, depAll xs⟩
theorem eqvAll_is : ∀ (xs ys : List α), PyData.eqvAll (xs.map (Pd.pd G)) (ys.map (Pd.pd G)) = decide (xs = ys)
  | [], [] => rfl
  | x :: xs, y :: ys => by
    show (PyData.eqv (Pd.pd G x) (Pd.pd G y) && PyData.eqvAll (xs.map (Pd.pd G)) (ys.map (Pd.pd G))) = _
    rw [Pd.eqv, eqvAll_is xs ys]
    simp
  | [], _ :: _ => rfl
  | _ :: _, [] => rfl
variable {a b : Addr} {xs ys : List α} {i j : Nat} {σ : St} {ta tb : TE}
end
section
variable {H : Hp} {L : List (Asn G)} {σ : St} {ta tb : TE} {a : Addr} {i : Nat}
theorem inV_str (x : Str) : ∀ ys : List Str, inV (.str x) (ys.map V.str) = decide (x ∈ ys)
  | [] => rfl
  | y :: ys => by
    have ih := inV_str x ys
    unfold inV at ih ⊢
    rw [List.map_cons, List.any_cons, ih]
    show ((y == x) || _) = _
    by_cases h : y = x
    · subst h; simp
    · have h' : ¬ x = y := fun e => h e.symm
      simp [h, h']
theorem flat_str : ∀ ys : List Str, (ys.map V.str).all flatV = true
  | [] => rfl
  | y :: ys => by rw [List.map_cons, List.all_cons, flat_str ys]; rfl
theorem ev_niL {x : Str} {ys : List Str} (hS : Sep H L) (e : L[i]? = some (lstA a ys)) (ha : Ev ta σ H (.str x)) (hb : Ev tb σ H (.ref a)) : Ev (tOp (rIn G.K true) ta tb) σ H (.bl (!decide (x ∈ ys))) := ev_op ha hb fun Q q =>
  ⟨a, ys.map V.str, rfl, .inl (hS.sqF e), rfl, flat_str ys, by
    show Q (.bl (!inV (.str x) (ys.map V.str))) H
    rw [inV_str]; exact q⟩
theorem ev_isi {x : V} {T U : String} {b : Bool} (ha : Ev ta σ H x) (hb : Ev tb σ H (.ty U)) (t : TyX G.K H x (.type T)) (e : kitB T U = some b) : Ev (tCB (rIsi G.K) (tCons ta (tCons tb tNil))) σ H (.bl b) :=
  ev_cb (ea_cons ha (ea_cons hb ea_nil)) fun Q q => ⟨x, .ty U, _, _, b, rfl, .ty U, t, kit_ty e, q⟩
theorem ty_lst {α : Type} [Im G α] {xs : List α} (hS : Sep H L) (e : L[i]? = some (lstA a xs)) : TyX G.K H (.ref a) (.type "list") := by
  obtain ⟨vs, h, _⟩ := hS.lst e
  exact .base (.lst h)
end
end Ml
namespace Ml
open PySem L2
variable {G : Gx}
section
variable {σ σ' : St} {H : Hp} {L L' M : List (Asn G)} {D : Ends} {Q : VK} {te : TE} {tt : TT} {tb : TS} {α β τ ρ : Type} {i : Nat} {v : V} {vs : List Nat}
theorem c_gN {P : St → Hp → Prop} (e : σ.set i (some v) = σ') (h : P σ' H) : gName i v σ H P := by
  show P (σ.set i (some v)) H
  rw [e]; exact h
theorem c_gLc {P : Bool → Hp → Prop} (e : (wipe σ vs).set i (some v) = σ') (hw : wipe σ' vs = wipe σ vs) (h : tt σ' H P) : gName i v (wipe σ vs) H fun σ2 H2 => wipe σ2 vs = wipe σ vs ∧ tt σ2 H2 P := by
  show wipe ((wipe σ vs).set i (some v)) vs = wipe σ vs ∧ tt ((wipe σ vs).set i (some v)) H P
  rw [e]; exact ⟨hw, h⟩
theorem c_yes {A B : Hp → Prop} (h : A H) : tYes σ H fun b H3 => if b = true then A H3 else B H3 := h
theorem lc_app [Im G β] {Dr : Addr} {ys : List β} {y : β} {u : V} (hS : Sep H (lstA Dr ys :: M)) (hu : Im.im G H u y) : ∃ acc, H Dr = some (.lst acc) ∧ acc.length = ys.length ∧ Sep (upd H Dr (.lst (acc ++ [u]))) (lstA Dr (ys ++ [y]) :: M) := by
  obtain ⟨acc, h, m⟩ := hS.lst (i := 0) rfl
  exact ⟨acc, h, m.len, hS.putL (i := 0) rfl (m.app (vs := acc) (ws := [u]) ⟨hu, True.intro⟩)⟩
theorem st_nx (h : D.nx σ H) : tNext D σ H := h
def sq (t : TS) (D : Ends) : Ends := { D with nx := t D }
theorem f_seq {t1 t2 : TS} (h : t1 (sq t2 D) σ H) : tSeq t1 t2 D σ H := h
theorem sq_nx {t2 : TS} (h : t2 D σ H) : (sq t2 D).nx σ H := h
def forK (g : TG) (tb : TS) (D : Ends) (σ : L2.St) : It → Hp → Prop := fun J H1 => ∃ W : Nat → Nat → L2.St → Hp → Prop, (∃ m, W 0 m σ H1) ∧ ∀ i m σ H, W i m σ H →
  (J.stop i H ∧ D.nx σ H) ∨ (J.go i H ∧ ∃ N : L2.St → Hp → Prop, (∀ σ' H', N σ' H' → ∃ m', m' < m ∧ W (i + 1) m' σ' H') ∧ ∀ x H', J.yld i H x H' → g x σ H' fun σ2 H2 => tb { D with nx := N, ct := N, bk := D.nx } σ2 H2)
def loopD (D : Ends) (N B : L2.St → Hp → Prop) : Ends := { D with nx := N, ct := N, bk := B }
theorem c_for {wi : TI} {g : TG} (h : wi σ H (forK g tb D σ)) : tFor wi g tb D σ H := h
def lcK (g : TG) (tt : TT) (te : TE) (vs : List Nat) (σ : L2.St) (Q : VK) : It → Hp → Prop := fun J H1 => ∀ D, H1 D = none → ∃ W : Nat → Nat → Hp → Prop, (∃ m, W 0 m (upd H1 D (.lst []))) ∧ ∀ i m H, W i m H →
  (J.stop i H ∧ Q (.ref D) H) ∨ (J.go i H ∧ ∃ Nx : Hp → Prop, (∀ H', Nx H' → ∃ m', m' < m ∧ W (i + 1) m' H') ∧ ∀ x H', J.yld i H x H' → g x (wipe σ vs) H' fun σ2 H2 => wipe σ2 vs = wipe σ vs ∧ tt σ2 H2 fun b H3 =>
    if b = true then te σ2 H3 fun y H4 => ∃ acc, H4 D = some (.lst acc) ∧ acc.length < sizeLine ∧ Nx (upd H4 D (.lst (acc ++ [y]))) else Nx H3)
theorem c_lc {wi : TI} {g : TG} (h : wi σ H (lcK g tt te vs σ Q)) : tLc wi g tt te vs σ H Q := h
def rng1K (R : It → Hp → Prop) : List V → Hp → Prop := fun vs H1 => ∃ j : Int, vs = [.int j] ∧ -(2 ^ 62) ≤ j ∧ j < 2 ^ 62 ∧ R (Itr 0 j.toNat) H1
def ilK (K : PySem.W.Frag) (R : It → Hp → Prop) : VK := fun x H1 => ∃ a, x = .ref a ∧ (∃ xs, SqL K H1 a xs) ∧ R (Itl K a) H1
theorem c_rng1 {ta : TA} {R : It → Hp → Prop} (h : ta σ H (rng1K R)) : iRng1 ta σ H R := h
theorem c_il {K : PySem.W.Frag} {R : It → Hp → Prop} (h : te σ H (ilK K R)) : iList K te σ H R := h
theorem k_rng1 {R : It → Hp → Prop} {j : Int} (h1 : -(2 ^ 62) ≤ j) (h2 : j < 2 ^ 62) (h : R (Itr 0 j.toNat) H) : rng1K R [.int j] H := ⟨j, rfl, h1, h2, h⟩
theorem k_il [Im G α] {a : Addr} {xs : List α} {R : It → Hp → Prop} (hS : Sep H L) (e : L[i]? = some (lstA a xs)) (h : R (Itl G.K a) H) : ilK G.K R (.ref a) H := by
  obtain ⟨vs, s, _⟩ := hS.sq e
  exact ⟨a, rfl, ⟨vs, s⟩, h⟩
/-- for .. in .. -/
theorem k_for {J : It} {g : TG} {im : Hp → V → α → Prop} {xs : List α} {f : τ → α → R τ} {rest : τ → R ρ} {q : ρ → Prop} {e : Exc → Prop} {s : τ} (I : τ → L2.St → Hp → Prop)
    (w : ∀ s, Wk J (I s) im xs) (h0 : I s σ H) (hm : R.wp ((forR f xs s).bind rest) q e)
    (turn : ∀ (s : τ) (x : α) (v : V) (σ : L2.St) (H : Hp) (q : τ → Prop) (N : L2.St → Hp → Prop), I s σ H → im H v x → R.wp (f s x) q e → (∀ s' σ' H', q s' → I s' σ' H' → N σ' H') → g v σ H fun σ2 H2 => tb (loopD D N D.nx) σ2 H2)
    (done : ∀ s σ H, R.wp (rest s) q e → I s σ H → D.nx σ H) : forK g tb D σ J H :=
  for_walk (I := I) w h0 (R.wp_bind hm) turn done
theorem lp_ct {N B : L2.St → Hp → Prop} (h : N σ H) : tCont (loopD D N B) σ H := h
/-- a comprehension over owned things -/
theorem lc_sep [Im G β] {J : It} {im : Hp → V → α → Prop} {xs : List α} {f : τ → α → R (τ × Option β)} {rest : τ × List β → R ρ} {q : ρ → Prop} {e : Exc → Prop} {s : τ} (M : τ → List (Asn G))
    (hS : Sep H (M s)) (w : ∀ (Dr : Addr) (s : τ) (ys : List β), Wk J (fun (_ : St) H => Sep H (lstA Dr ys :: M s)) im xs) (hl : xs.length ≤ sizeLine) (hm : R.wp ((compR f xs s).bind rest) q e)
    (turn : ∀ (Dr : Addr) (s : τ) (ys : List β) (x : α) (v : V) (H : Hp) (q : τ × Option β → Prop) (Nx : Hp → Prop), Sep H (lstA Dr ys :: M s) → im H v x → R.wp (f s x) q e →
      (∀ s' y u H', q (s', some y) → Im.im G H' u y → Sep H' (lstA Dr ys :: M s') → ∃ acc, H' Dr = some (.lst acc) ∧ acc.length < sizeLine ∧ Nx (upd H' Dr (.lst (acc ++ [u])))) → (∀ s' H', q (s', none) → Sep H' (lstA Dr ys :: M s') → Nx H') →
      gName i v (wipe σ vs) H fun σ2 H2 => wipe σ2 vs = wipe σ vs ∧ tt σ2 H2 fun b H3 => if b = true then te σ2 H3 fun y H4 => ∃ acc, H4 Dr = some (.lst acc) ∧ acc.length < sizeLine ∧ Nx (upd H4 Dr (.lst (acc ++ [y]))) else Nx H3)
    (done : ∀ (Dr : Addr) (t : τ × List β) H, R.wp (rest t) q e → Sep H (lstA Dr t.2 :: M t.1) → Q (.ref Dr) H) :
    lcK (gName i) tt te vs σ Q J H := fun Dr hD =>
  lc_walk (G := G) (I := fun Dr s ys H => Sep H (lstA Dr ys :: M s)) (im := im) (xs := xs) (f := f) (k := fun t => R.wp (rest t) q e) (e := e) (s := s) (w Dr)
    (hS.newL (vs := []) (xs := ([] : List β)) hD True.intro) (R.wp_bind hm) hl
    (fun s ys x v H q Nx hI hv hw _ k1 k2 => turn Dr s ys x v H q Nx hI hv hw k1 k2)
    (fun s ys y u H hI hu => lc_app hI hu)
    (fun s ys H hk hI => done Dr (s, ys) H hk hI)
theorem c_asgS {to ti : TE} {t : TSet} (h : te σ H fun v H1 => to σ H1 fun o H2 => ti σ H2 fun j H3 => t o j v H3 fun H4 => D.nx σ H4) : tAsg te (gSub to ti t) D σ H := h
theorem m2 {X : Cx} {o : Expr} {m : Str} {apos : Pos} {e f : Expr} {cpos : Pos} (base : attributeBase o m X.env (eval o X.env) = eval o X.env := by rfl)
  (few : ((backTo cpos (starEach [e, f] X.env)).all (fun x => !x.1) && (backToKw cpos (keywordEach [] X.env)).all (fun x => x.1.isSome)
    && decide (([e, f] : List Expr).length + ([] : List Keyword).length + (if ([] : List Keyword).isEmpty then 0 else 1) < 30)) = true := by rfl)
  (line : (apos.endLine == cpos.line) = true := by rfl) (trees : backTo cpos (starEach [e, f] X.env) = [(false, eval e X.env), (false, eval f X.env)] := by rfl) : M2 X o m apos e f cpos := ⟨base, few, line, trees⟩
theorem r_ixSq {K : PySem.W.Frag} {p : Addr} {ws : List V} {i : Int} (hs : SqL K H p ws) (e : atI ws i = some v) (Q : VK) (q : Q v H) : rIxL K (.ref p) (.int i) H Q := ⟨p, ws, i, v, rfl, rfl, hs, e, q⟩
theorem ev_lenLm {K : PySem.W.Frag} {ta : TE} {p : Addr} {xs : List α} {f : α → V} (ha : Ev ta σ H (.ref p)) (hs : SqL K H p (xs.map f)) : Ev (tCB (rLenSq K) (tCons ta tNil)) σ H (.int xs.length) := by
  have := ev_lenL ha hs
  rw [List.length_map] at this
  exact this
end
end Ml
namespace Ml
open PySem L2
variable {G : Gx}
def andK (u : TT) (σ : St) (P : Bool → Hp → Prop) : Bool → Hp → Prop := fun c H => if c = true then u σ H P else P false H
def orK (u : TT) (σ : St) (P : Bool → Hp → Prop) : Bool → Hp → Prop := fun c H => if c = true then P true H else u σ H P
def notK (P : Bool → Hp → Prop) : Bool → Hp → Prop := fun c H => P (!c) H
def ifK (t1 t2 : TS) (D : Ends) (σ : St) : Bool → Hp → Prop := fun c H => if c = true then t1 D σ H else t2 D σ H
/-- a value that is a Bool -/
def blK (P : Bool → Hp → Prop) : VK := fun x H => ∃ k, x = .bl k ∧ P k H
def andVK (tb : TE) (σ : St) (Q : VK) : VK := fun x H => ∃ c, x = .bl c ∧ if c = true then tb σ H Q else Q (.bl false) H
section
variable {σ : St} {H : Hp} {L : List (Asn G)} {D : Ends} {Q : VK} {P : Bool → Hp → Prop} {t u : TT} {t1 t2 : TS} {ta tb te : TE} {ρ τ : Type} {a b : Bool} {v w : V}
theorem f_and (h : t σ H (andK u σ P)) : tAnd t u σ H P := h
theorem f_or (h : t σ H (orK u σ P)) : tOr t u σ H P := h
theorem f_not (h : t σ H (notK P)) : tNot t σ H P := h
theorem f_if (h : t σ H (ifK t1 t2 D σ)) : tIfS t t1 t2 D σ H := h
theorem f_test (h : te σ H (blK P)) : tTest te σ H P := h
theorem f_B (h : te σ H (blK P)) : tB te σ H P := h
theorem f_bl (h : P b H) : blK P (.bl b) H := ⟨b, rfl, h⟩
theorem f_andV (h : ta σ H (andVK tb σ Q)) : tAndV ta tb σ H Q := h
theorem f_nK (h : P (!b) H) : notK P b H := h
theorem orK_f (h : u σ H P) : orK u σ P false H := h
variable {A B : R Bool} {rest : Bool → R ρ} {q : ρ → Prop} {e : Exc → Prop}
theorem andK_J (hm : R.wp ((if a = true then A else .ok false).bind rest) q e) (hS : Sep H L)
    (h1 : a = true → ∀ q' : Bool → Prop, R.wp A q' e → (∀ b H', q' b → Sep H' L → P b H') → u σ H P) (k : ∀ b H', R.wp (rest b) q e → Sep H' L → P b H') : andK u σ P a H := by
  have hm' := R.wp_bind hm
  cases a with
  | true => exact h1 rfl _ hm' k
  | false => exact k false H hm' hS
theorem orK_J (hm : R.wp ((if a = true then .ok true else A).bind rest) q e) (hS : Sep H L)
    (h1 : a = false → ∀ q' : Bool → Prop, R.wp A q' e → (∀ b H', q' b → Sep H' L → P b H') → u σ H P) (k : ∀ b H', R.wp (rest b) q e → Sep H' L → P b H') : orK u σ P a H := by
  have hm' := R.wp_bind hm
  cases a with
  | true => exact k true H hm' hS
  | false => exact h1 rfl _ hm' k
theorem andVK_J (hm : R.wp ((if a = true then A else .ok false).bind rest) q e) (hS : Sep H L)
    (h1 : a = true → ∀ q' : Bool → Prop, R.wp A q' e → (∀ b H', q' b → Sep H' L → Q (.bl b) H') → tb σ H Q) (k : ∀ b H', R.wp (rest b) q e → Sep H' L → Q (.bl b) H') : andVK tb σ Q (.bl a) H := by
  have hm' := R.wp_bind hm
  refine ⟨a, rfl, ?_⟩
  cases a with
  | true => exact h1 rfl _ hm' k
  | false => exact k false H hm' hS
theorem ifK_2 (h1 : a = true → t1 D σ H) (h2 : a = false → t2 D σ H) : ifK t1 t2 D σ a H := by
  cases a with
  | true => exact h1 rfl
  | false => exact h2 rfl
theorem ifK_J {A B : R τ} {rest : τ → R ρ} (J : τ → St → Hp → Prop) (hm : R.wp ((if a = true then A else B).bind rest) q e)
    (h1 : a = true → ∀ q' : τ → Prop, R.wp A q' e → (∀ s σ' H', q' s → J s σ' H' → D.nx σ' H') → t1 D σ H)
    (h2 : a = false → ∀ q' : τ → Prop, R.wp B q' e → (∀ s σ' H', q' s → J s σ' H' → D.nx σ' H') → t2 D σ H)
    (k : ∀ s σ' H', R.wp (rest s) q e → J s σ' H' → D.nx σ' H') : ifK t1 t2 D σ a H := by
  have hm' := R.wp_bind hm
  cases a with
  | true => exact h1 rfl _ hm' k
  | false => exact h2 rfl _ hm' k
theorem wp_let {α : Type} {x : α} {f : α → R ρ} (hm : R.wp ((R.ok x).bind f) q e) : ∃ y, x = y ∧ R.wp (f y) q e := ⟨x, rfl, hm⟩
theorem n_is {i : Nat} (e : v = w) (h : D.nx (σ.set i (some w)) H) : D.nx (σ.set i (some v)) H := by rw [e]; exact h
/-- [elt ..] with a test: the two ways -/
theorem lc_if {A B : Prop} (h1 : a = true → A) (h2 : a = false → B) : if a = true then A else B := by
  cases a with
  | true => exact h1 rfl
  | false => exact h2 rfl
end
end Ml
namespace Ml
open PySem L2
section
variable {X : Cx} (K : PySem.W.Frag) (hK : X.K = K := by rfl)
include hK
theorem ix_listK : IxR X (rIxL K) := by subst hK; exact ix_list
theorem ix_tupK : IxR X (rIxT K) := by subst hK; exact ix_tup
theorem lenSqK : CallR X (.builtin "len") (rLenSq K) := by subst hK; exact call_lenSq
theorem listSqK : CallR X (.type "list") (rListSq K) := by subst hK; exact call_listSq
theorem isiK : CallR X (.builtin "isinstance") (rIsi K) := by subst hK; exact call_isi
theorem inSqK : OpR X (compareOp .In) (rIn K false) := by subst hK; exact op_in_seq
theorem niSqK : OpR X (compareOp .NotIn) (rIn K true) := by subst hK; exact op_notIn_seq
end
theorem neDK {X : Cx} (K : PySem.W.Frag) (hu : X.A.units + 64 < cLine) (hK : X.K = K := by rfl) : OpR X (compareOp .NotEq) (rNeD K) := by subst hK; exact op_neD hu
theorem allK {X : Cx} (K : PySem.W.Frag) (hc : X.calm = true) (hK : X.K = K := by rfl) : CallR X (.builtin "all") (rAll K) := by subst hK; exact cr_all hc
theorem pi_listK {X : Cx} {tg e : Expr} {tl : TE} (K : PySem.W.Frag) (h : PE X e tl) (hK : X.K = K := by rfl) : PI X tg e (iList K tl) := by subst hK; exact pi_list h
section
variable {X : Cx} {T : String} {name : Str} {id : String} {r : V → List V → Hp → VK → Prop} {o e : Expr} {es : List Expr} {to : TE} {t : TA} {apos cpos : Pos}
theorem pe_bmK (K : PySem.W.Frag) (pa : PlainAttrs T) (slot : Slot T name id) (hty : typeOf (.builtin id) = pure (.type "method_descriptor")) (hm : MtR X id r) (ho : PE X o to) (ha : PA X (e :: es) t) (hK : X.K = K := by rfl)
    (hbase : attributeBase o name X.env (eval o X.env) = eval o X.env := by rfl)
    (hfew : ((backTo cpos (starEach (e :: es) X.env)).all (fun x => !x.1) && (backToKw cpos (keywordEach [] X.env)).all (fun x => x.1.isSome)
      && decide ((e :: es).length + ([] : List Keyword).length + (if ([] : List Keyword).isEmpty then 0 else 1) < 30)) = true := by rfl)
    (hline : (apos.endLine == cpos.line) = true := by rfl) (hs : starEach (e :: es) X.env = (false, eval e X.env) :: starEach es X.env := by rfl) (hplain : (backTo cpos (starEach es X.env)).any (·.1) = false := by rfl) :
    PE X (.Call (.Attribute o name apos) (e :: es) [] cpos) (tBM K T r to t) := by subst hK; exact pe_bm pa slot hty hm ho ha hbase hfew hline hs hplain
end
end Ml
namespace Ml
open PySem L2
theorem im_of_only {G : Gx} {H : Hp} {a : Addr} {ns : List Int} (hO : Only H) (hS : SqL G.K H a (ns.map V.int)) : Im.im G H (.ref a) (⟨ns⟩ : Script) := by
  refine ⟨a, rfl, ?_⟩
  rcases hS with (h | ⟨o, h⟩) | h
  · rcases hO a with z | ⟨o, xs, z⟩
    · rw [h] at z; cases z
    · rw [h] at z; cases z
  · exact .inl ⟨o, h⟩
  · exact .inr h
end Ml
namespace Ml
open PySem L2
end Ml
namespace Ml
open PySem L2
def fzK (Q : VK) : VK := fun v H => Q v H ∨ ∃ a u, v = .ref a ∧ H a = some u ∧ Mut (some u) ∧ ∀ o, Q v (upd H a (.frz o u))
def tFz (t : TE) : TE := fun σ H Q => t σ H (fzK Q)
theorem pe_fz {X : Cx} {e : Expr} {t : TE} (h : PE X e t) : PE X e (tFz t) := by
  refine ⟨fun pins s σ H Q I hw => ?_⟩
  refine thn (h.run pins s σ H _ I hw) fun v s1 ⟨x, H1, I1, r, q⟩ => ?_
  rcases q with q | ⟨a, u, e, ha, mu, q⟩
  · exact ⟨x, H1, I1, r, q⟩
  · obtain ⟨od, I2⟩ := I1.lock ha mu
    exact ⟨x, _, I2, r, q od⟩
variable {G : Gx}
section
variable {σ : St} {H : Hp} {L : List (Asn G)} {te : TE} {Q : VK} {v : V} {α : Type}
theorem c_fz (h : te σ H (fzK Q)) : tFz te σ H Q := h
theorem fz_no (h : Q v H) : fzK Q v H := .inl h
theorem ev_fz (h : Ev te σ H v) : Ev (tFz te) σ H v := fun Q q => h _ (.inl q)
/-- a locked list: a value -/
instance imList [Im G α] : Im G (List α) := ⟨fun H v xs => ∃ a vs, v = .ref a ∧ (∃ o, H a = some (.frz o (.lst vs))) ∧ imL (G := G) H vs xs,
  fun ⟨a, vs, e, ⟨o, h⟩, m⟩ s => ⟨a, vs, e, ⟨o, s.1 a _ h rfl⟩, m.st s⟩⟩
theorem imPl [Im G α] {a : Addr} {xs : List α} (h : Im.im G H (.ref a) xs) : ∃ vs, SqL G.K H a vs ∧ imL (G := G) H vs xs := by
  obtain ⟨b, vs, e, ⟨o, h⟩, m⟩ := h
  cases e
  exact ⟨vs, .inl (.inr ⟨o, h⟩), m⟩
theorem imPlF [Fv G α] {a : Addr} {xs : List α} (h : Im.im G H (.ref a) xs) : SqL G.K H a (xs.map (Fv.enc G)) := by
  obtain ⟨vs, e, m⟩ := imPl h
  rw [imL.flat.mp m] at e
  exact e
/-- the i-th thing is dropped, the rest stays while its cell changes -/
theorem Sep.drop1 {a : Addr} {o o' : HO} {M : List (Asn G)} (h : Sep H (cell a o :: M)) (kd : kindOf o' = kindOf o) : Sep (upd H a o') M := by
  obtain ⟨fp, ⟨f1, f2, e, ⟨e1, ho⟩, k⟩, h2, h3⟩ := h
  subst e1; subst e
  have nd : ¬ a ∈ f2 := (List.nodup_cons.mp h2).1
  obtain ⟨u, hu, nu⟩ := h3 a (by simp)
  have eu : u = o := by rw [ho] at hu; cases hu; rfl
  have st : Stab G H (upd H a o') := stab_put hu nu (by rw [eu]; exact kd)
  refine ⟨f2, k.loc (fun b m => upd_ne fun z => nd (z ▸ m)) st, (List.nodup_cons.mp h2).2, fun b m => ?_⟩
  obtain ⟨x, hx, nx⟩ := h3 b (by simp [m])
  exact ⟨x, by rw [upd_ne (fun z => nd (by rw [← z]; exact m))]; exact hx, nx⟩
theorem fz_yes [Im G α] {i : Nat} {a : Addr} {xs : List α} (hS : Sep H L) (e : L[i]? = some (lstA a xs)) (k : ∀ H', Sep H' (imA (.ref a) xs :: L.eraseIdx i) → Q (.ref a) H') : fzK Q (.ref a) H := by
  obtain ⟨vs, m, h1⟩ := hS.openL e
  have h0 := h1.getCell (get_set e)
  refine .inr ⟨a, .lst vs, rfl, h0, True.intro, fun o => k _ ?_⟩
  have h2 := h1.perm (pull_perm (get_set (y := cell (G := G) a (.lst vs)) e))
  have e3 : (L.set i (cell a (.lst vs))).eraseIdx i = L.eraseIdx i := by simp [List.eraseIdx_set_eq]
  rw [e3] at h2
  obtain ⟨fp, ⟨f1, f2, _, ⟨ef, _⟩, _⟩, nd0, nper⟩ := id h2
  have nu : per G (.lst vs) = false := rfl
  have st : Stab G H (upd H a (.frz o (.lst vs))) := stab_put h0 nu rfl
  have h4 := h2.drop1 (o' := .frz o (.lst vs)) rfl
  exact h4.addIm ⟨a, vs, rfl, ⟨o, upd_same⟩, m.st st⟩
end
structure T3 (α β γ : Type) where
  a : α
  b : β
  c : γ
  deriving DecidableEq, Repr
structure T4 (α β γ δ : Type) where
  a : α
  b : β
  c : γ
  d : δ
  deriving DecidableEq, Repr
structure T5 (α β γ δ ε : Type) where
  a : α
  b : β
  c : γ
  d : δ
  e : ε
  deriving DecidableEq, Repr
structure T1 (α : Type) where
  a : α
  deriving DecidableEq, Repr
section
variable {α β γ δ ε : Type} [Im G α] [Im G β] [Im G γ] [Im G δ] [Im G ε] {H H' : Hp} {a : Addr} {u1 u2 u3 u4 u5 : V}
instance imT1 : Im G (T1 α) := ⟨fun H v x => ∃ a u1, v = .ref a ∧ H a = some (.tup [u1]) ∧ Im.im G H u1 x.a,
  fun ⟨a, u1, e, h, i1⟩ s => ⟨a, u1, e, s.1 a _ h rfl, Im.st i1 s⟩⟩
instance imT2 : Im G (α × β) := ⟨fun H v x => ∃ a u1 u2, v = .ref a ∧ H a = some (.tup [u1, u2]) ∧ Im.im G H u1 x.1 ∧ Im.im G H u2 x.2,
  fun ⟨a, u1, u2, e, h, i1, i2⟩ s => ⟨a, u1, u2, e, s.1 a _ h rfl, Im.st i1 s, Im.st i2 s⟩⟩
instance imT3 : Im G (T3 α β γ) := ⟨fun H v x => ∃ a u1 u2 u3, v = .ref a ∧ H a = some (.tup [u1, u2, u3]) ∧ Im.im G H u1 x.a ∧ Im.im G H u2 x.b ∧ Im.im G H u3 x.c,
  fun ⟨a, u1, u2, u3, e, h, i1, i2, i3⟩ s => ⟨a, u1, u2, u3, e, s.1 a _ h rfl, Im.st i1 s, Im.st i2 s, Im.st i3 s⟩⟩
instance imT4 : Im G (T4 α β γ δ) := ⟨fun H v x => ∃ a u1 u2 u3 u4, v = .ref a ∧ H a = some (.tup [u1, u2, u3, u4]) ∧ Im.im G H u1 x.a ∧ Im.im G H u2 x.b ∧ Im.im G H u3 x.c ∧ Im.im G H u4 x.d,
  fun ⟨a, u1, u2, u3, u4, e, h, i1, i2, i3, i4⟩ s => ⟨a, u1, u2, u3, u4, e, s.1 a _ h rfl, Im.st i1 s, Im.st i2 s, Im.st i3 s, Im.st i4 s⟩⟩
instance imT5 : Im G (T5 α β γ δ ε) := ⟨fun H v x => ∃ a u1 u2 u3 u4 u5, v = .ref a ∧ H a = some (.tup [u1, u2, u3, u4, u5]) ∧ Im.im G H u1 x.a ∧ Im.im G H u2 x.b ∧ Im.im G H u3 x.c ∧ Im.im G H u4 x.d ∧ Im.im G H u5 x.e,
  fun ⟨a, u1, u2, u3, u4, u5, e, h, i1, i2, i3, i4, i5⟩ s => ⟨a, u1, u2, u3, u4, u5, e, s.1 a _ h rfl, Im.st i1 s, Im.st i2 s, Im.st i3 s, Im.st i4 s, Im.st i5 s⟩⟩
theorem im2 {x : α × β} (h : Im.im G H (.ref a) x) : ∃ u1 u2, H a = some (.tup [u1, u2]) ∧ Im.im G H u1 x.1 ∧ Im.im G H u2 x.2 := by
  obtain ⟨b, u1, u2, e, h⟩ := h; cases e; exact ⟨u1, u2, h⟩
theorem mk2 {x : α × β} (i1 : Im.im G H u1 x.1) (i2 : Im.im G H u2 x.2) (h : H' a = some (.tup [u1, u2])) (s : Stab G H H') : Im.im G H' (.ref a) x := ⟨a, u1, u2, rfl, h, Im.st i1 s, Im.st i2 s⟩
end
class IsRef (G : Gx) (α : Type) [Im G α] : Prop where
  isref : ∀ {H : Hp} {v : V} {x : α}, Im.im G H v x → ∃ a, v = .ref a
theorem isref {α : Type} [Im G α] [IsRef G α] {H : Hp} {v : V} {x : α} (h : Im.im G H v x) : ∃ a, v = .ref a := IsRef.isref h
section
variable {α β γ δ ε : Type} [Im G α] [Im G β] [Im G γ] [Im G δ] [Im G ε]
instance : IsRef G (List α) := ⟨fun h => by obtain ⟨a, _, e, _⟩ := h; exact ⟨a, e⟩⟩
instance : IsRef G (T1 α) := ⟨fun h => by obtain ⟨a, _, e, _⟩ := h; exact ⟨a, e⟩⟩
instance : IsRef G (α × β) := ⟨fun h => by obtain ⟨a, _, _, e, _⟩ := h; exact ⟨a, e⟩⟩
instance : IsRef G (T3 α β γ) := ⟨fun h => by obtain ⟨a, _, _, _, e, _⟩ := h; exact ⟨a, e⟩⟩
instance : IsRef G (T4 α β γ δ) := ⟨fun h => by obtain ⟨a, _, _, _, _, e, _⟩ := h; exact ⟨a, e⟩⟩
instance : IsRef G (T5 α β γ δ ε) := ⟨fun h => by obtain ⟨a, _, _, _, _, _, e, _⟩ := h; exact ⟨a, e⟩⟩
end
section
variable {σ σ' : St} {H : Hp} {L : List (Asn G)} {D : Ends} {Q : VK} {te ta tb : TE} {α : Type} {K : PySem.W.Frag} {v : V}
/-- a tuple is laid -/
theorem k_tupP [Im G α] {vs : List V} {x : α} (hS : Sep H L) (mk : ∀ (H' : Hp) (p : Addr), H' p = some (.tup vs) → Stab G H H' → Im.im G H' (.ref p) x) (hl : vs.length ≤ sizeLine)
    (k : ∀ p H', Sep H' (imA (.ref p) x :: L) → Q (.ref p) H') : tupK Q vs H :=
  ⟨hl, fun p hp => k p _ ((hS.more (same_new hp)).addIm (mk _ p upd_same (.of_same (same_new hp))))⟩
theorem ev_ixT {a : Addr} {i : Int} {us : List V} (ha : Ev ta σ H (.ref a)) (hb : Ev tb σ H (.int i)) (h : H a = some (.tup us)) (e : atI us i = some v) : Ev (tOp (rIxT K) ta tb) σ H v :=
  ev_op ha hb fun _ q => ⟨a, us, i, v, rfl, rfl, SqT.of h, e, q⟩
/-- a field -/
theorem ev_fld {a C dx : Addr} {fs : List (Str × V)} {f : Str} (ha : Ev ta σ H (.ref a)) (h : H a = some (.ins C dx fs)) (c : Cls K C) (n : NoAttr K C f) (l : fs.lookup f = some v) : Ev (tFld K ta f) σ H v :=
  fun _ q => ha _ ⟨a, C, dx, fs, v, rfl, h, c, n, l, q⟩
end
end Ml
namespace Ml
open PySem L2
inductive Any where
  | str (s : Str) | int (i : Int) | bl (b : Bool) | non | tup (xs : List Any) | lst (xs : List Any) | oth (k : Nat)
section
variable (G : Gx)
mutual
def imAny (H : Hp) : V → Any → Prop
  | v, .str s => v = .str s
  | v, .int i => v = .int i
  | v, .bl b => v = .bl b
  | v, .non => v = .non
  | v, .tup xs => ∃ a vs, v = .ref a ∧ H a = some (.tup vs) ∧ imAnyL H vs xs
  | v, .lst xs => ∃ a vs, v = .ref a ∧ (∃ o, H a = some (.frz o (.lst vs))) ∧ imAnyL H vs xs
  | v, .oth k => ∃ a o, v = .ref a ∧ H a = some o ∧ kindOf o = k ∧ (k = 0 ∨ k = 1)
def imAnyL (H : Hp) : List V → List Any → Prop
  | [], [] => True
  | v :: vs, x :: xs => imAny H v x ∧ imAnyL H vs xs
  | _, _ => False
end
variable {G} {H H' : Hp}
mutual
theorem imAny.st : ∀ {v : V} {x : Any}, imAny H v x → Stab G H H' → imAny H' v x
  | v, .str s, h, _ => by rw [imAny] at h ⊢; exact h
  | v, .int i, h, _ => by rw [imAny] at h ⊢; exact h
  | v, .bl b, h, _ => by rw [imAny] at h ⊢; exact h
  | v, .non, h, _ => by rw [imAny] at h ⊢; exact h
  | v, .tup xs, h, s => by
    rw [imAny] at h ⊢
    obtain ⟨a, vs, e, g, m⟩ := h
    exact ⟨a, vs, e, s.1 a _ g rfl, imAnyL.st m s⟩
  | v, .lst xs, h, s => by
    rw [imAny] at h ⊢
    obtain ⟨a, vs, e, ⟨o, g⟩, m⟩ := h
    exact ⟨a, vs, e, ⟨o, s.1 a _ g rfl⟩, imAnyL.st m s⟩
  | v, .oth k, h, s => by
    rw [imAny] at h ⊢
    obtain ⟨a, o, e, g, q, z⟩ := h
    obtain ⟨o', g', q'⟩ := s.2 a o g
    exact ⟨a, o', e, g', q'.trans q, z⟩
theorem imAnyL.st : ∀ {vs : List V} {xs : List Any}, imAnyL H vs xs → Stab G H H' → imAnyL H' vs xs
  | [], [], h, _ => h
  | v :: vs, x :: xs, h, s => by
    rw [imAnyL] at h ⊢
    exact ⟨imAny.st h.1 s, imAnyL.st h.2 s⟩
  | [], _ :: _, h, _ => by rw [imAnyL] at h; exact h.elim; all_goals simp
  | _ :: _, [], h, _ => by rw [imAnyL] at h; exact h.elim; all_goals simp
end
instance imAnyI : Im G Any := ⟨fun H v x => imAny H v x, fun h s => imAny.st h s⟩
end
variable {G : Gx} {H : Hp} {L : List (Asn G)}
theorem any_str {v : V} {s : Str} : Im.im G H v (Any.str s) ↔ v = .str s := by show imAny H v (.str s) ↔ _; rw [imAny]
theorem imAnyL_eq : ∀ {vs : List V} {xs : List Any}, imAnyL H vs xs ↔ imL (G := G) H vs xs
  | [], [] => by rw [imAnyL]; exact Iff.rfl
  | v :: vs, x :: xs => by
    rw [imAnyL]
    exact and_congr_right fun _ => imAnyL_eq (vs := vs) (xs := xs)
  | [], _ :: _ => ⟨fun h => by rw [imAnyL] at h; exact h.elim; all_goals simp, fun h => h.elim⟩
  | _ :: _, [] => ⟨fun h => by rw [imAnyL] at h; exact h.elim; all_goals simp, fun h => h.elim⟩
theorem any_tup {v : V} {xs : List Any} : Im.im G H v (Any.tup xs) ↔ ∃ a vs, v = .ref a ∧ H a = some (.tup vs) ∧ imL (G := G) H vs xs := by
  show imAny H v (.tup xs) ↔ _
  rw [imAny]
  exact exists_congr fun a => exists_congr fun vs => and_congr_right fun _ => and_congr_right fun _ => imAnyL_eq
theorem any_lsts {v : V} {xs : List Any} : Im.im G H v (Any.lst xs) ↔ ∃ a vs, v = .ref a ∧ (∃ o, H a = some (.frz o (.lst vs))) ∧ imL (G := G) H vs xs := by
  show imAny H v (.lst xs) ↔ _
  rw [imAny]
  exact exists_congr fun a => exists_congr fun vs => and_congr_right fun _ => and_congr_right fun _ => imAnyL_eq
def Any.ty : Any → String
  | .str _ => "str"
  | .int _ => "int"
  | .bl _ => "bool"
  | .non => "NoneType"
  | .tup _ => "tuple"
  | .lst _ => "list"
  | .oth 0 => "list"
  | .oth _ => "dict"
end Ml
namespace Ml
open PySem L2
end Ml
namespace Ml
open PySem L2
variable {G : Gx}
section
variable {α β γ δ ε : Type} [Lay α] [Lay β] [Lay γ] [Lay δ] [Lay ε]
instance layList : Lay (List α) := ⟨layAllB⟩
instance layT1 : Lay (T1 α) := ⟨fun x => Lay.lay x.a⟩
instance layT2 : Lay (α × β) := ⟨fun x => Lay.lay x.1 && Lay.lay x.2⟩
instance layT3 : Lay (T3 α β γ) := ⟨fun x => Lay.lay x.a && (Lay.lay x.b && Lay.lay x.c)⟩
instance layT4 : Lay (T4 α β γ δ) := ⟨fun x => Lay.lay x.a && (Lay.lay x.b && (Lay.lay x.c && Lay.lay x.d))⟩
instance layT5 : Lay (T5 α β γ δ ε) := ⟨fun x => Lay.lay x.a && (Lay.lay x.b && (Lay.lay x.c && (Lay.lay x.d && Lay.lay x.e)))⟩
end
section
variable {α β γ δ ε : Type} [Im G α] [DecidableEq α] [Lay α] [Pd G α] [Im G β] [DecidableEq β] [Lay β] [Pd G β] [Im G γ] [DecidableEq γ] [Lay γ] [Pd G γ] [Im G δ] [DecidableEq δ] [Lay δ] [Pd G δ] [Im G ε] [DecidableEq ε] [Lay ε] [Pd G ε]
instance pdList : Pd G (List α) where
  pd := fun xs => .list (xs.map (Pd.pd G))
  dep := Pd.dep G α + 1
  dp := fun {H v x} h => by
    obtain ⟨a, vs, rfl, ⟨o, g⟩, m⟩ := h
    exact .lst (.inl (.inr ⟨o, g⟩)) (dpAll m)
  lay_ok := fun x h => layAll (G := G) h
  dep_ok := fun x => Nat.succ_le_succ (depAll (G := G) x)
  eqv := fun x y => eqvAll_is x y
theorem canTup (ds : List PyData) : (PyData.tuple ds).canLay0 = PyData.canLayAll0 ds := rfl
theorem canCons (d : PyData) (ds : List PyData) : PyData.canLayAll0 (d :: ds) = (d.canLay0 && PyData.canLayAll0 ds) := rfl
theorem depTup (ds : List PyData) : (PyData.tuple ds).depth = PyData.depthAll ds + 1 := rfl
theorem depCons (d : PyData) (ds : List PyData) : PyData.depthAll (d :: ds) = max d.depth (PyData.depthAll ds) := rfl
theorem depNil : PyData.depthAll [] = 0 := rfl
theorem eqvTup (ds es : List PyData) : PyData.eqv (.tuple ds) (.tuple es) = PyData.eqvAll ds es := rfl
theorem eqvCons (d e : PyData) (ds es : List PyData) : PyData.eqvAll (d :: ds) (e :: es) = (PyData.eqv d e && PyData.eqvAll ds es) := rfl
theorem eqvNil : PyData.eqvAll [] [] = true := rfl
instance pdT1 : Pd G (T1 α) where
  pd := fun x => .tuple [Pd.pd G x.a]
  dep := Pd.dep G α + 1
  dp := fun {H v x} h => by
    obtain ⟨a, u1, rfl, g, i1⟩ := h
    exact .tup (SqT.of g) (.cons (Pd.dp i1) .nil)
  lay_ok := fun x h => by rw [canTup, canCons, Pd.lay_ok x.a h]; rfl
  dep_ok := fun x => by
    rw [depTup, depCons, depNil]
    have := Pd.dep_ok (G := G) x.a
    omega
  eqv := fun x y => by
    rw [eqvTup, eqvCons, eqvNil, Pd.eqv]
    obtain ⟨a⟩ := x; obtain ⟨b⟩ := y
    simp
instance pdT2 : Pd G (α × β) where
  pd := fun x => .tuple [Pd.pd G x.1, Pd.pd G x.2]
  dep := max (Pd.dep G α) (Pd.dep G β) + 1
  dp := fun {H v x} h => by
    obtain ⟨a, u1, u2, rfl, g, i1, i2⟩ := h
    exact .tup (SqT.of g) (.cons (Pd.dp i1) (.cons (Pd.dp i2) .nil))
  lay_ok := fun x h => by
    have h : (Lay.lay x.1 && Lay.lay x.2) = true := h
    rw [Bool.and_eq_true] at h
    rw [canTup, canCons, canCons, Pd.lay_ok x.1 h.1, Pd.lay_ok x.2 h.2]; rfl
  dep_ok := fun x => by
    rw [depTup, depCons, depCons, depNil]
    have := Pd.dep_ok (G := G) x.1
    have := Pd.dep_ok (G := G) x.2
    omega
  eqv := fun x y => by
    rw [eqvTup, eqvCons, eqvCons, eqvNil, Pd.eqv, Pd.eqv]
    obtain ⟨a, b⟩ := x; obtain ⟨c, d⟩ := y
    simp
instance pdT3 : Pd G (T3 α β γ) where
  pd := fun x => .tuple [Pd.pd G x.a, Pd.pd G x.b, Pd.pd G x.c]
  dep := max (Pd.dep G α) (max (Pd.dep G β) (Pd.dep G γ)) + 1
  dp := fun {H v x} h => by
    obtain ⟨a, u1, u2, u3, rfl, g, i1, i2, i3⟩ := h
    exact .tup (SqT.of g) (.cons (Pd.dp i1) (.cons (Pd.dp i2) (.cons (Pd.dp i3) .nil)))
  lay_ok := fun x h => by
    have h : (Lay.lay x.a && (Lay.lay x.b && Lay.lay x.c)) = true := h
    simp only [Bool.and_eq_true] at h
    rw [canTup, canCons, canCons, canCons, Pd.lay_ok x.a h.1, Pd.lay_ok x.b h.2.1, Pd.lay_ok x.c h.2.2]; rfl
  dep_ok := fun x => by
    rw [depTup, depCons, depCons, depCons, depNil]
    have := Pd.dep_ok (G := G) x.a
    have := Pd.dep_ok (G := G) x.b
    have := Pd.dep_ok (G := G) x.c
    omega
  eqv := fun x y => by
    rw [eqvTup, eqvCons, eqvCons, eqvCons, eqvNil, Pd.eqv, Pd.eqv, Pd.eqv]
    obtain ⟨a, b, c⟩ := x; obtain ⟨d, e, f⟩ := y
    simp
instance pdT4 : Pd G (T4 α β γ δ) where
  pd := fun x => .tuple [Pd.pd G x.a, Pd.pd G x.b, Pd.pd G x.c, Pd.pd G x.d]
  dep := max (Pd.dep G α) (max (Pd.dep G β) (max (Pd.dep G γ) (Pd.dep G δ))) + 1
  dp := fun {H v x} h => by
    obtain ⟨a, u1, u2, u3, u4, rfl, g, i1, i2, i3, i4⟩ := h
    exact .tup (SqT.of g) (.cons (Pd.dp i1) (.cons (Pd.dp i2) (.cons (Pd.dp i3) (.cons (Pd.dp i4) .nil))))
  lay_ok := fun x h => by
    have h : (Lay.lay x.a && (Lay.lay x.b && (Lay.lay x.c && Lay.lay x.d))) = true := h
    simp only [Bool.and_eq_true] at h
    rw [canTup, canCons, canCons, canCons, canCons, Pd.lay_ok x.a h.1, Pd.lay_ok x.b h.2.1, Pd.lay_ok x.c h.2.2.1, Pd.lay_ok x.d h.2.2.2]; rfl
  dep_ok := fun x => by
    rw [depTup, depCons, depCons, depCons, depCons, depNil]
    have := Pd.dep_ok (G := G) x.a
    have := Pd.dep_ok (G := G) x.b
    have := Pd.dep_ok (G := G) x.c
    have := Pd.dep_ok (G := G) x.d
    omega
  eqv := fun x y => by
    rw [eqvTup, eqvCons, eqvCons, eqvCons, eqvCons, eqvNil, Pd.eqv, Pd.eqv, Pd.eqv, Pd.eqv]
    obtain ⟨a, b, c, d⟩ := x; obtain ⟨a', b', c', d'⟩ := y
    simp
instance pdT5 : Pd G (T5 α β γ δ ε) where
  pd := fun x => .tuple [Pd.pd G x.a, Pd.pd G x.b, Pd.pd G x.c, Pd.pd G x.d, Pd.pd G x.e]
  dep := max (Pd.dep G α) (max (Pd.dep G β) (max (Pd.dep G γ) (max (Pd.dep G δ) (Pd.dep G ε)))) + 1
  dp := fun {H v x} h => by
    obtain ⟨a, u1, u2, u3, u4, u5, rfl, g, i1, i2, i3, i4, i5⟩ := h
    exact .tup (SqT.of g) (.cons (Pd.dp i1) (.cons (Pd.dp i2) (.cons (Pd.dp i3) (.cons (Pd.dp i4) (.cons (Pd.dp i5) .nil)))))
  lay_ok := fun x h => by
    have h : (Lay.lay x.a && (Lay.lay x.b && (Lay.lay x.c && (Lay.lay x.d && Lay.lay x.e)))) = true := h
    simp only [Bool.and_eq_true] at h
    rw [canTup, canCons, canCons, canCons, canCons, canCons, Pd.lay_ok x.a h.1, Pd.lay_ok x.b h.2.1, Pd.lay_ok x.c h.2.2.1, Pd.lay_ok x.d h.2.2.2.1, Pd.lay_ok x.e h.2.2.2.2]; rfl
  dep_ok := fun x => by
    rw [depTup, depCons, depCons, depCons, depCons, depCons, depNil]
    have := Pd.dep_ok (G := G) x.a
    have := Pd.dep_ok (G := G) x.b
    have := Pd.dep_ok (G := G) x.c
    have := Pd.dep_ok (G := G) x.d
    have := Pd.dep_ok (G := G) x.e
    omega
  eqv := fun x y => by
    rw [eqvTup, eqvCons, eqvCons, eqvCons, eqvCons, eqvCons, eqvNil, Pd.eqv, Pd.eqv, Pd.eqv, Pd.eqv, Pd.eqv]
    obtain ⟨a, b, c, d, e⟩ := x; obtain ⟨a', b', c', d', e'⟩ := y
    simp
end
section
variable {α : Type} [Im G α] [DecidableEq α] [Lay α] [Pd G α] {H : Hp} {L : List (Asn G)} {σ : St} {ta tb : TE} {Q : VK} {v w : V} {x y : α}
theorem shapedP (h : Lay.lay x = true) (d : Pd.dep G α ≤ 64) : SeqAt.shaped (Pd.pd G x) = true := by
  unfold SeqAt.shaped
  rw [Pd.lay_ok x h, decide_eq_true (Nat.le_trans (Pd.dep_ok x) d)]; rfl
/-- the data of a list that one owns -/
theorem dpOwn {i : Nat} {a : Addr} {xs : List α} (hS : Sep H L) (e : L[i]? = some (lstA a xs)) : Dp G.K H (.ref a) (Pd.pd G xs) := by
  obtain ⟨vs, s, m⟩ := hS.sq e
  exact .lst s (dpAll m)
theorem ev_neP (ha : Ev ta σ H v) (hb : Ev tb σ H w) (d1 : Dp G.K H v (Pd.pd G x)) (d2 : Dp G.K H w (Pd.pd G y)) (l1 : Lay.lay x = true) (l2 : Lay.lay y = true) (d : Pd.dep G α ≤ 64) :
    Ev (tOp (rNeD G.K) ta tb) σ H (.bl (!decide (x = y))) := ev_op ha hb fun Q q => by
  refine ⟨_, _, d1, d2, shapedP l1 d, shapedP l2 d, ?_⟩
  rw [Pd.eqv]; exact q
end
end Ml
namespace L2
open PySem PySem.Spec PyProof.Rows
/-- list + list, either may be locked -/
def rCatR : R2 := fun x y H Q => ∃ l b xs zs, x = .ref l ∧ y = .ref b ∧ Rd H l (.lst xs) ∧ Rd H b (.lst zs) ∧ xs.length + zs.length ≤ sizeLine ∧ ∀ p, H p = none → Q (.ref p) (upd H p (.lst (xs ++ zs)))
theorem op_catR {X : Cx} : OpR X (binaryOp .Add) rCatR := by
  intro pins s σ H x y v u Q I rx ry h
  obtain ⟨l, b, xs, zs, rfl, rfl, hH, hB, hz, q⟩ := h
  cases rx
  cases ry
  obtain ⟨z, its, n, r, e⟩ := hH.ok I.hok
  obtain ⟨z2, its2, n2, r2, e2⟩ := hB.ok I.hok
  have hl := r.length
  have hl2 := r2.length
  refine PySem.P.add_list e e2 ?_ (by rw [List.size_toArray, List.size_toArray]; omega)
  have ea : its.toArray ++ its2.toArray = (its ++ its2).toArray := by simp
  rw [ea]
  exact ⟨.ref _, _, I.lnew (t' := s.toks) (r.append r2) (by rw [List.length_append]; omega), rfl, q _ I.fresh⟩
end L2
namespace Ml
open PySem L2
namespace R
variable {α β ρ : Type} {q : α → Prop} {e : Exc → Prop}
def noexc : R α → R α
  | .ok a => .ok a
  | _ => .bad
theorem wp_noexc {m : R α} {f : α → R β} {q : β → Prop} (h : wp ((noexc m).bind f) q e) : wp m (fun a => wp (f a) q e) (fun _ => False) := by
  cases m with
  | ok a => exact h
  | exc x => exact h.elim
  | bad => exact h.elim
end R
def contF {σ ρ β : Type} (k : σ → R β) (o : ρ → R β) : Fl σ ρ → R β
  | .go s => k s
  | .brk s => k s
  | .out r => o r
/-- an exception as it is wished for -/
def Eok (G : Gx) (x : Exc) (E : XK) (H : Hp) : Prop := E (.ref (G.cl x.cls)) none H
variable {G : Gx}
section
variable {σ σ' : St} {H : Hp} {L L' : List (Asn G)} {D : Ends} {Q : VK} {te ta tb : TE} {α β τ ρ : Type} {v w : V} {q : ρ → Prop} {e : Exc → Prop}
theorem k_catG [Im G α] {a b : Addr} {xs ys : List α} (hS : Sep H L) (h1 : ∃ vs, Rd H a (.lst vs) ∧ imL (G := G) H vs xs) (h2 : ∃ vs, Rd H b (.lst vs) ∧ imL (G := G) H vs ys) (z : xs.length + ys.length ≤ sizeLine)
    (k : ∀ p H', Sep H' (lstA p (xs ++ ys) :: L) → Q (.ref p) H') : rCatR (.ref a) (.ref b) H Q := by
  obtain ⟨vs, r1, m1⟩ := h1
  obtain ⟨ws, r2, m2⟩ := h2
  exact ⟨a, b, vs, ws, rfl, rfl, r1, r2, by rw [m1.len, m2.len]; exact z, fun p hp => k p _ (hS.newL hp (m1.app m2))⟩
theorem k_listG [Im G α] {a : Addr} {xs : List α} (hS : Sep H L) (h : ∃ vs, SqL G.K H a vs ∧ imL (G := G) H vs xs) (k : ∀ p H', Sep H' (lstA p xs :: L) → Q (.ref p) H') : rListSq G.K [.ref a] H Q := by
  obtain ⟨vs, h, m⟩ := h
  exact ⟨a, vs, rfl, .inl h, fun p hp => k p _ (hS.newL hp m)⟩
theorem k_ilG [Im G α] {a : Addr} {xs : List α} {R : It → Hp → Prop} (h : ∃ vs, SqL G.K H a vs ∧ imL (G := G) H vs xs) (k : R (Itl G.K a) H) : ilK G.K R (.ref a) H := by
  obtain ⟨vs, s, _⟩ := h
  exact ⟨a, rfl, ⟨vs, s⟩, k⟩
theorem ev_lenG [Im G α] {a : Addr} {xs : List α} (ha : Ev ta σ H (.ref a)) (h : ∃ vs, SqL G.K H a vs ∧ imL (G := G) H vs xs) : Ev (tCB (rLenSq G.K) (tCons ta tNil)) σ H (.int xs.length) := by
  obtain ⟨vs, s, m⟩ := h
  have := ev_lenL ha s
  rw [m.len] at this
  exact this
theorem k_lenG [Im G α] {a : Addr} {xs : List α} (h : ∃ vs, SqL G.K H a vs ∧ imL (G := G) H vs xs) (q : Q (.int xs.length) H) : rLenSq G.K [.ref a] H Q := by
  obtain ⟨vs, s, m⟩ := h
  exact ⟨a, vs, rfl, .inl s, by rw [m.len]; exact q⟩
theorem ty_plst [Im G α] {a : Addr} {xs : List α} (h : Im.im G H (.ref a) xs) : TyX G.K H (.ref a) (.type "list") := by
  obtain ⟨b, vs, e, ⟨o, h⟩, _⟩ := h
  cases e
  exact .base (.frz h)
theorem ev_inPl {x : Str} {ys : List Str} {a : Addr} (h : Im.im G H (.ref a) ys) (ha : Ev ta σ H (.str x)) (hb : Ev tb σ H (.ref a)) : Ev (tOp (rIn G.K false) ta tb) σ H (.bl (decide (x ∈ ys))) := ev_op ha hb fun Q q =>
  ⟨a, ys.map V.str, rfl, .inl (imPlF h), rfl, flat_str ys, by
    show Q (.bl (inV (.str x) (ys.map V.str))) H
    rw [inV_str]; exact q⟩
/-- the rule on values alone -/
theorem ev_op2 {r : R2} {x y : V} (h : Ev (tOp r (tC x) (tC y)) [] H v) (q : Q v H) : r x y H Q := h Q q
theorem imL_strs : ∀ (ys : List Str), imL (G := G) H (ys.map V.str) ys
  | [] => True.intro
  | y :: ys => ⟨rfl, imL_strs ys⟩
section
variable {acc y : Str} {ts : List TE} {te : TE} {P : Str → Hp → Prop}
theorem f_fc (h : Ev te σ H (.str y)) (z : (acc ++ y).length ≤ sizeLine) (k : tJs ts (acc ++ y) σ H P) : tJs (te :: ts) acc σ H P := h _ ⟨y, rfl, z, k⟩
theorem f_fs (h : Ev te σ H (.str y)) (l : y.length ≤ sizeLine) (z : (acc ++ y).length ≤ sizeLine) (k : tJs ts (acc ++ y) σ H P) : tJs (tFmt te :: ts) acc σ H P := h _ (.inl ⟨y, rfl, l, y, rfl, z, k⟩)
theorem f_je (k : P acc H) : tJs [] acc σ H P := k
end
theorem imL.erase [Im G α] : ∀ {vs : List V} {xs : List α} (n : Nat), imL (G := G) H vs xs → imL (G := G) H (vs.eraseIdx n) (xs.eraseIdx n)
  | [], [], n, _ => by simp [imL]
  | v :: vs, x :: xs, 0, h => h.2
  | v :: vs, x :: xs, n + 1, h => ⟨h.1, imL.erase n h.2⟩
  | [], _ :: _, _, h => h.elim
  | _ :: _, [], _, h => h.elim
theorem Sep.newI {C x dx : Addr} (h : Sep H L) (hx : H x = none) (hd : H dx = none) (ne : dx ≠ x) (n : ¬ G.fz C = some 0) : Sep (upd (upd H dx (.own x)) x (.ins C dx [])) (cell x (.ins C dx []) :: L) := by
  have h1 := h.more (same_new (o := HO.own x) hd)
  refine h1.new (o := .ins C dx []) (by rw [upd_ne (Ne.symm ne)]; exact hx) ?_
  show decide (G.fz C = some 0) = false
  exact decide_eq_false n
theorem c_sfld {K : PySem.W.Frag} {f : Str} (h : tb σ H fun y H1 => ta σ H1 fun x H2 => ∃ a C dx fs, x = .ref a ∧ H2 a = some (.ins C dx fs) ∧ Cls K C ∧ NoAttr K C f ∧ fs.length < 1000 ∧ D.nx σ (upd H2 a (.ins C dx (putF f y fs)))) : sFld K ta tb f D σ H := h
theorem k_sfld {K : PySem.W.Frag} {i : Nat} {a C dx : Addr} {fs fs' : List (Str × V)} {f : Str} {y : V} (hS : Sep H L) (e : L[i]? = some (cell a (.ins C dx fs))) (c : Cls K C) (n : NoAttr K C f) (ef : putF f y fs = fs') (hl : fs.length < 1000)
    (np : per G (.ins C dx fs') = false) (eL : L.set i (cell a (.ins C dx fs')) = L') (k : ∀ H', Sep H' L' → D.nx σ H') :
    ∃ a' C' dx' fs'', V.ref a = .ref a' ∧ H a' = some (.ins C' dx' fs'') ∧ Cls K C' ∧ NoAttr K C' f ∧ fs''.length < 1000 ∧ D.nx σ (upd H a' (.ins C' dx' (putF f y fs''))) := by
  refine ⟨a, C, dx, fs, rfl, hS.getCell e, c, n, hl, ?_⟩
  rw [ef]
  refine k _ ?_
  subst eL
  exact hS.put e np rfl
theorem c_meth {C : Addr} {m : Str} {sp : Sp} {dvs : List V} {E : XK} {t : TA} (h : ta σ H fun x H1 => ∃ a dx fs, x = .ref a ∧ H1 a = some (.ins C dx fs) ∧ fs.lookup m = none ∧ t σ H1 fun vs H2 => sp (x :: (vs ++ dvs)) H2 Q E) : tMeth C m sp dvs E ta t σ H Q := h
theorem c_make {C : Addr} {sp : Sp} {dvs : List V} {E : XK} {t : TA} (h : t σ H fun vs H1 => ∀ x dx, H1 x = none → H1 dx = none → dx ≠ x → sp (.ref x :: (vs ++ dvs)) (upd (upd H1 dx (.own x)) x (.ins C dx [])) (fun v H2 => v = .non ∧ Q (.ref x) H2) E) : tMake C sp dvs E t σ H Q := h
theorem c_retN (h : D.rt .non H) : tRetN D σ H := h
theorem k_forF {J : It} {g : TG} {tb : TS} {im : Hp → V → α → Prop} {xs : List α} {f : τ → α → R (Fl τ ρ)} {β : Type} {rest : τ → R β} {o : ρ → R β} {q : β → Prop} {e : Exc → Prop} {s : τ} (I : τ → L2.St → Hp → Prop)
    (w : ∀ s, Wk J (I s) im xs) (h0 : I s σ H) (hm : R.wp ((forF f xs s).bind (contF rest o)) q e)
    (turn : ∀ (s : τ) (x : α) (v : V) (σ : L2.St) (H : Hp) (q' : Fl τ ρ → Prop) (N B : L2.St → Hp → Prop), I s σ H → im H v x → R.wp (f s x) q' e → (∀ s' σ' H', q' (.go s') → I s' σ' H' → N σ' H') → (∀ s' σ' H', q' (.brk s') → I s' σ' H' → B σ' H') → (∀ r, q' (.out r) → R.wp (o r) q e) →
      g v σ H fun σ2 H2 => tb (loopD D N B) σ2 H2)
    (done : ∀ s σ H, R.wp (rest s) q e → I s σ H → D.nx σ H) : forK g tb D σ J H :=
  for_walkF (D := D) (I := I) (k := fun r => R.wp (contF rest o r) q e) w h0 (R.wp_bind hm) (fun s x v σ H q' N B hI hv hw h1 h2 h3 => turn s x v σ H q' N B hI hv hw h1 h2 h3) (fun s σ H h hI => done s σ H h hI)
theorem k_gT {K : PySem.W.Frag} {n : Nat} {t : TGs} {a : Addr} {us : List V} {P : St → Hp → Prop} (h : H a = some (.tup us)) (hl : us.length = n := by rfl) (k : t us σ H P) : gTup K n t (.ref a) σ H P := ⟨a, us, rfl, SqT.of h, hl, k⟩
theorem k_gC {i : Nat} {u : TGs} {us : List V} {P : St → Hp → Prop} (e : σ.set i (some v) = σ') (k : u us σ' H P) : gCons (gName i) u (v :: us) σ H P := ⟨v, us, rfl, by show u us (σ.set i (some v)) H P; rw [e]; exact k⟩
theorem k_gE {P : St → Hp → Prop} (k : P σ H) : gNil [] σ H P := ⟨rfl, k⟩
end
section
variable {X : Cx} (K : PySem.W.Frag) (hK : X.K = K := by rfl)
include hK
theorem pg_tupK {es : List Expr} {k : Nat} {pos : Pos} {t : TGs} {n : Nat} (hc : X.calm = true) (h : PGs X es t) (hn : (assignEach es X.env).length = n := by rfl) (hst : (assignEach es X.env).findIdx? (·.1) = none := by rfl) : PG X (.Tuple es k pos) (gTup K n t) := by
  subst hK; exact pg_tup hc h hn hst
end
end Ml
namespace L2
open PySem PySem.Spec PyProof.Rows
end L2
namespace Ml
open PySem PySem.Spec PyProof.Rows L2
variable {G : Gx}
theorem hu0 {k : Nat} {A : Around} (r : Room k A) : A.units + 65 < cLine := by have := r.un; omega
end Ml
namespace Ml
open PySem L2
section
variable {α β σ ρ : Type}
theorem forR_ok {f : σ → α → R σ} (I : List α → σ → Prop) : ∀ {xs : List α} {s : σ} (pre : List α), I pre s → (∀ p x q s, pre ++ xs = p ++ x :: q → I p s → ∃ s', f s x = .ok s' ∧ I (p ++ [x]) s') → ∃ s', forR f xs s = .ok s' ∧ I (pre ++ xs) s'
  | [], s, pre, h0, _ => ⟨s, rfl, by rw [List.append_nil]; exact h0⟩
  | x :: xs, s, pre, h0, hs => by
    obtain ⟨s1, e1, h1⟩ := hs pre x xs s rfl h0
    obtain ⟨s2, e2, h2⟩ := forR_ok I (xs := xs) (s := s1) (pre ++ [x]) h1 fun p y q s e => hs p y q s (by rw [← e]; simp)
    refine ⟨s2, ?_, by rw [List.append_assoc] at h2; exact h2⟩
    show (f s x).bind _ = _
    rw [e1, R.bind_ok]; exact e2
theorem forR_inv {f : σ → α → R σ} {xs : List α} {s : σ} (I : List α → σ → Prop) (h0 : I [] s) (hs : ∀ p x q s, xs = p ++ x :: q → I p s → ∃ s', f s x = .ok s' ∧ I (p ++ [x]) s') : ∃ s', forR f xs s = .ok s' ∧ I xs s' := by
  obtain ⟨s', h1, h2⟩ := forR_ok I (xs := xs) (s := s) [] h0 fun p x q s e => hs p x q s (by simpa using e)
  exact ⟨s', h1, by simpa using h2⟩
theorem forF_inv {f : σ → α → R (Fl σ ρ)} (I : List α → σ → Prop) : ∀ {xs : List α} {s : σ} (pre : List α), I pre s → (∀ p x q s, pre ++ xs = p ++ x :: q → I p s → ∃ s', f s x = .ok (.go s') ∧ I (p ++ [x]) s') → ∃ s', forF f xs s = .ok (.go s') ∧ I (pre ++ xs) s'
  | [], s, pre, h0, _ => ⟨s, rfl, by rw [List.append_nil]; exact h0⟩
  | x :: xs, s, pre, h0, hs => by
    obtain ⟨s1, e1, h1⟩ := hs pre x xs s rfl h0
    obtain ⟨s2, e2, h2⟩ := forF_inv I (xs := xs) (s := s1) (pre ++ [x]) h1 fun p y q s e => hs p y q s (by rw [← e]; simp)
    refine ⟨s2, ?_, by rw [List.append_assoc] at h2; exact h2⟩
    show (f s x).bind _ = _
    rw [e1, R.bind_ok]; exact e2
theorem compR_map {f : Unit → α → R (Unit × Option β)} {g : α → β} {xs : List α} (h : ∀ x, x ∈ xs → f () x = .ok ((), some (g x))) : compR f xs () = .ok ((), xs.map g) := by
  induction xs with
  | nil => rfl
  | cons x xs ih =>
    show (f () x).bind _ = _
    rw [h x (by simp), R.bind_ok, ih fun y hy => h y (by simp [hy])]
    rfl
theorem compR_filterMap {f : Unit → α → R (Unit × Option β)} {g : α → Option β} {xs : List α} (h : ∀ x, x ∈ xs → f () x = .ok ((), g x)) : compR f xs () = .ok ((), xs.filterMap g) := by
  induction xs with
  | nil => rfl
  | cons x xs ih =>
    show (f () x).bind _ = _
    rw [h x (by simp), R.bind_ok, ih fun y hy => h y (by simp [hy])]
    cases e : g x with
    | none => simp [e]
    | some y => simp [e]
theorem idxR_mem {xs : List α} {i : Int} (h0 : 0 ≤ i) (h1 : i < xs.length) : ∃ x, idxR xs i = .ok x ∧ x ∈ xs ∧ xs[i.toNat]? = some x := by
  obtain ⟨x, h, _⟩ := atI_ok h0 h1
  exact ⟨x, idxR_ok h0 h, List.mem_of_getElem? h, h⟩
theorem cutL_sub {xs : List α} {lo hi : Option Int} : (cutL xs lo hi).Sublist xs := (List.take_sublist _ _).trans (List.drop_sublist _ _)
theorem cutL_mem {xs : List α} {lo hi : Option Int} {x : α} (h : x ∈ cutL xs lo hi) : x ∈ xs := cutL_sub.subset h
theorem cutL_len {xs : List α} {lo hi : Option Int} : (cutL xs lo hi).length ≤ xs.length := cutL_sub.length_le
theorem rngL_mem {lo x : Int} {n : Nat} (h : x ∈ rngL lo n) : lo ≤ x ∧ x < lo + n := by
  unfold rngL at h
  obtain ⟨i, hi, rfl⟩ := List.mem_map.mp h
  have := List.mem_range.mp hi
  omega
end
theorem tl_app (a b : Str) : (a ++ b).cps.toList = a.cps.toList ++ b.cps.toList := by
  show (a.cps ++ b.cps).toList = _
  rw [Array.toList_append]
theorem len_tl (x : Str) : x.length = x.cps.toList.length := by simp [Str.length]
theorem str_ext {x y : Str} (h : x.cps.toList = y.cps.toList) : x = y := Str.ext' (Array.toList_inj.mp h)
/-- all signs below 128 -/
def Asc (x : Str) : Prop := ∀ c, c ∈ x.cps.toList → c < 128
theorem Asc.app {a b : Str} (ha : Asc a) (hb : Asc b) : Asc (a ++ b) := fun c hc => by
  rw [tl_app] at hc
  rcases List.mem_append.mp hc with h | h
  · exact ha c h
  · exact hb c h
theorem Asc.lit {x : Str} (h : x.cps.toList.all (· < 128) = true) : Asc x := fun c hc => by
  have := List.all_eq_true.mp h c hc
  simpa using this
theorem Asc.lay {x : Str} (h : Asc x) : (Lay.lay x : Bool) = true := by
  show PyData.strOk x = true
  unfold PyData.strOk
  rw [← Array.all_toList]
  exact List.all_eq_true.mpr fun c hc => decide_eq_true (Nat.lt_trans (h c hc) (by decide))
theorem len_sg (c : Nat) : (sg c).length = 1 := rfl
theorem cutS_tl (z : Str) (lo hi : Option Int) : (cutS z lo hi).cps.toList = cutL z.cps.toList lo hi := by
  show ((cutS z lo hi).cps).toList = _
  unfold cutS cutL
  rw [← len_tl]
end Ml
namespace Ml
open PySem L2
def Ok {α : Type} (m : R α) (P : α → Prop) : Prop := ∃ a, m = .ok a ∧ P a
namespace Ok
variable {α β σ ρ : Type} {P : ρ → Prop}
theorem ret {a : ρ} (h : P a) : Ok (.ok a) P := ⟨a, rfl, h⟩
theorem bind {m : R α} {f : α → R ρ} {Q : α → Prop} (h : Ok m Q) (k : ∀ a, Q a → Ok (f a) P) : Ok (m.bind f) P := by
  obtain ⟨a, e, q⟩ := h
  rw [e, R.bind_ok]; exact k a q
theorem bindE {m : R α} {f : α → R ρ} {a : α} (h : m = .ok a) (k : Ok (f a) P) : Ok (m.bind f) P := by
  rw [h, R.bind_ok]; exact k
theorem lets {a : α} {f : α → R ρ} (k : Ok (f a) P) : Ok ((R.ok a).bind f) P := k
theorem name {a : α} {f : α → R ρ} (k : ∀ y, y = a → Ok (f y) P) : Ok ((R.ok a).bind f) P := k a rfl
theorem need {p : Prop} [Decidable p] {m : R ρ} (h : p) (k : Ok m P) : Ok (R.need p m) P := by rw [R.need_pos h]; exact k
theorem ite {c : Prop} [Decidable c] {a b : R ρ} (h1 : c → Ok a P) (h2 : ¬ c → Ok b P) : Ok (if c then a else b) P := by
  by_cases h : c
  · rw [if_pos h]; exact h1 h
  · rw [if_neg h]; exact h2 h
theorem ifT {c : Prop} [Decidable c] {a b : R ρ} (h : c) (k : Ok a P) : Ok (if c then a else b) P := by rw [if_pos h]; exact k
theorem ifF {c : Prop} [Decidable c] {a b : R ρ} (h : ¬ c) (k : Ok b P) : Ok (if c then a else b) P := by rw [if_neg h]; exact k
theorem mono {Q : ρ → Prop} {m : R ρ} (h : Ok m Q) (k : ∀ a, Q a → P a) : Ok m P := by
  obtain ⟨a, e, q⟩ := h
  exact ⟨a, e, k a q⟩
theorem eq {m : R ρ} {v : ρ} (h : Ok m (· = v)) : m = .ok v := by
  obtain ⟨a, e, q⟩ := h
  rw [e, q]
theorem idx {xs : List α} {i : Int} {f : α → R ρ} (h0 : 0 ≤ i) (h1 : i < xs.length) (k : ∀ x, x ∈ xs → xs[i.toNat]? = some x → Ok (f x) P) : Ok ((idxR xs i).bind f) P := by
  obtain ⟨x, e, m, g⟩ := idxR_mem h0 h1
  rw [e, R.bind_ok]; exact k x m g
theorem forI {f : σ → α → R σ} {xs : List α} {s : σ} {rest : σ → R ρ} (I : List α → σ → Prop) (h0 : I [] s) (hs : ∀ p x q s, xs = p ++ x :: q → I p s → Ok (f s x) (I (p ++ [x]))) (k : ∀ s, I xs s → Ok (rest s) P) : Ok ((forR f xs s).bind rest) P :=
  bind (forR_inv I h0 hs) k
theorem forFI {τ : Type} {f : σ → α → R (Fl σ τ)} {xs : List α} {s : σ} {rest : Fl σ τ → R ρ} (I : List α → σ → Prop) (h0 : I [] s) (hs : ∀ p x q s, xs = p ++ x :: q → I p s → Ok (f s x) (fun r => ∃ s', r = .go s' ∧ I (p ++ [x]) s')) (k : ∀ s, I xs s → Ok (rest (.go s)) P) : Ok ((forF f xs s).bind rest) P := by
  obtain ⟨s', e, h⟩ := forF_inv (f := f) (xs := xs) I [] h0 fun p x q s hx hI => by
    obtain ⟨r, e, s', rfl, h⟩ := hs p x q s (by simpa using hx) hI
    exact ⟨s', e, h⟩
  exact bindE e (k s' (by simpa using h))
/-- .. whose items are told -/
theorem compM {f : Unit → α → R (Unit × Option β)} {xs : List α} {rest : Unit × List β → R ρ} (g : α → β) (h : ∀ x, x ∈ xs → Ok (f () x) (fun r => r.2 = some (g x))) (k : Ok (rest ((), xs.map g)) P) : Ok ((compR f xs ()).bind rest) P := by
  refine bindE (compR_map (g := g) fun x hx => ?_) k
  obtain ⟨r, e, e2⟩ := h x hx
  rw [e, ← e2]
theorem compF {f : Unit → α → R (Unit × Option β)} {xs : List α} {rest : Unit × List β → R ρ} (g : α → Option β) (h : ∀ x, x ∈ xs → Ok (f () x) (fun r => r.2 = g x)) (k : Ok (rest ((), xs.filterMap g)) P) : Ok ((compR f xs ()).bind rest) P := by
  refine bindE (compR_filterMap (g := g) fun x hx => ?_) k
  obtain ⟨r, e, e2⟩ := h x hx
  rw [e, ← e2]
end Ok
theorem pre_lt {α : Type} {xs p q : List α} {x : α} (e : xs = p ++ x :: q) : p.length < xs.length := by
  rw [e, List.length_append, List.length_cons]; omega
theorem lt_line {n m : Nat} (h : n ≤ m) (hm : m < 16777216) : n < sizeLine := Nat.lt_of_le_of_lt h hm
theorem le_line {n : Nat} (h : n ≤ 16777216) : n ≤ sizeLine := h
end Ml
namespace Ml
open PySem PySem.Spec PyProof.Rows L2
variable {G : Gx}
/-- a text, n times -/
def repS (a : Str) (n : Nat) : Str := ⟨(List.replicate n a.cps).foldl (· ++ ·) #[]⟩
theorem rep_tl (a : Str) (n : Nat) : (repS a n).cps.toList = (List.replicate n a.cps.toList).flatten := by
  have g : ∀ (n : Nat) (z : Array Nat), ((List.replicate n a.cps).foldl (· ++ ·) z).toList = z.toList ++ (List.replicate n a.cps.toList).flatten := by
    intro n
    induction n with
    | zero => intro z; simp
    | succ n ih => intro z; simp [List.replicate_succ, ih]
  show ((List.replicate n a.cps).foldl (· ++ ·) #[]).toList = _
  rw [g]; simp
theorem rep_len (a : Str) (n : Nat) : (repS a n).length = a.length * n := by
  rw [len_tl, rep_tl, len_tl]; simp [Nat.mul_comm]
def rRepS : R2 := fun x y H Q => ∃ (a : Str) (n : Int), x = .str a ∧ y = .int n ∧ -(2 ^ 62) ≤ n ∧ a.length * n.toNat ≤ sizeLine ∧ n < 2 ^ 62 ∧ Q (.str (repS a n.toNat)) H
theorem op_repS {X : Cx} : OpR X (binaryOp .Mult) rRepS := by
  intro pins s σ H x y v u Q I rx ry h
  obtain ⟨a, n, rfl, rfl, h1, h2, h3, q⟩ := h
  obtain ⟨t, rfl⟩ := rx
  obtain ⟨t2, rfl⟩ := ry
  refine PySem.P.mul_str (by rw [decide_eq_false (by omega), decide_eq_false (by omega)]; rfl) (fun z1 z2 => ?_) (fun z1 z2 => ?_) ?_
  · have hn : 0 < n := by omega
    intro z
    have h4 : (a.length : Int) * n ≤ 2 ^ 63 - 1 := by
      have e : ((a.length * n.toNat : Nat) : Int) = (a.length : Int) * n := by
        rw [Int.natCast_mul, Int.toNat_of_nonneg (by omega)]
      have := sizeLine_eq
      omega
    have := (Int.le_ediv_iff_mul_le hn).mpr h4
    omega
  · exact decide_eq_false (Nat.not_lt.mpr h2)
  · by_cases z : n < 1
    · rw [if_pos z]
      have e : n.toNat = 0 := by omega
      rw [e] at q
      exact ⟨by decide, ⟨.str Str.empty, H, I.tok _, ⟨_, rfl⟩, q⟩⟩
    · rw [if_neg z]
      by_cases c : (n == 1 || a.length == 0) = true
      · rw [if_pos c]
        have e : repS a n.toNat = a := by
          apply str_ext
          rw [rep_tl]
          rw [Bool.or_eq_true] at c
          rcases c with c | c
          · have : n = 1 := by simpa using c
            subst this; simp
          · have : a.length = 0 := by simpa using c
            have : a.cps.toList = [] := List.eq_nil_of_length_eq_zero (by rw [← len_tl]; exact this)
            rw [this]; simp
        rw [e] at q
        exact ⟨.str a, H, I, ⟨_, rfl⟩, q⟩
      · rw [if_neg c]
        exact ⟨by show (repS a n.toNat).length ≤ sizeLine; rw [rep_len]; exact h2, ⟨.str (repS a n.toNat), H, I.tok _, ⟨_, rfl⟩, q⟩⟩
theorem ev_repS {σ : L2.St} {H : Hp} {ta tb : TE} {a : Str} {n : Int} (ha : Ev ta σ H (.str a)) (hb : Ev tb σ H (.int n)) (h : a.length * n.toNat ≤ sizeLine ∧ -(2 ^ 62) ≤ n ∧ n < 2 ^ 62) : Ev (tOp rRepS ta tb) σ H (.str (repS a n.toNat)) :=
  ev_op ha hb fun Q q => ⟨a, n, rfl, rfl, h.2.1, h.1, h.2.2, q⟩
end Ml
namespace PySem.W
open PySem PySem.Spec PySem.Calls PyProof.Rows
end PySem.W
namespace Ml
open PySem PySem.Spec PyProof.Rows L2
variable {G : Gx}
inductive StV where
  | i (n : Int) | s (x : Script)
def stIm (G : Gx) (H : Hp) (v : V) : StV → Prop
  | .i n => v = .int n
  | .s s => Im.im G H v s
theorem stIm_st {H H' : Hp} {v : V} {x : StV} (h : stIm G H v x) (st : Stab G H H') : stIm G H' v x := by
  cases x with
  | i n => exact h
  | s s =>
    have h : Im.im G H v s := h
    exact (Im.st h st : Im.im G H' v s)
instance stvI : Im G StV := ⟨stIm G, fun h s => stIm_st h s⟩
end Ml
namespace L2
open PySem PySem.Spec PyProof.Rows
end L2
namespace Ml
open PySem PySem.Spec PyProof.Rows L2
end Ml
namespace Ml
open PySem PySem.Spec PyProof.Rows L2
variable {G : Gx} {κ β : Type} [Kx κ] [DecidableEq κ] [Im G β] {H : Hp} {L L' : List (Asn G)} {σ : L2.St} {Q : VK} {td ty tx : TE} {k : κ} {a : Addr} {xs : List (κ × β)} {i : Nat}
/-- d[k], k there -/
theorem ev_dget {v : V} {y : β} (hS : Sep H L) (e : L[i]? = some (dictA a xs)) (hd : Ev td σ H (.ref a)) (hy : Ev ty σ H (kV (Kx.key k))) (g : DGet H a (kV (Kx.key k)) (some v)) : Ev (tDGet td ty) σ H v :=
  fun Q q => hd _ (hy _ ⟨a, v, rfl, g, q⟩)
theorem dget_some {y : β} (hS : Sep H L) (e : L[i]? = some (dictA a xs)) (h : dget xs k = some y) : ∃ v, DGet H a (kV (Kx.key k)) (some v) ∧ Im.im G H v y := by
  obtain ⟨r, g, h1, _⟩ := dget_at hS e (k := k) h
  obtain ⟨v, rfl, m⟩ := h1 y rfl
  exact ⟨v, g, m⟩
/-- what d[k] wants: that k is there -/
def dgetR (xs : List (κ × β)) (k : κ) : R β := match dget xs k with
  | some y => .ok y
  | none => .bad
theorem wp_dget {ρ : Type} {q : ρ → Prop} {e : Exc → Prop} {f : β → R ρ} (h : R.wp ((dgetR xs k).bind f) q e) : ∃ y, dget xs k = some y ∧ R.wp (f y) q e := by
  unfold dgetR at h
  cases c : dget xs k with
  | none => rw [c] at h; exact h.elim
  | some y => rw [c] at h; exact ⟨y, rfl, h⟩
/-- d[k] = v -/
theorem k_setD {v : V} {y : β} {P : Hp → Prop} (hS : Sep H L) (e : L[i]? = some (dictA a xs)) (hv : Im.im G H v y) (hl : xs.length < sizeLine) (e2 : L.set i (dictA a (dput xs k y)) = L') (q : ∀ H', Sep H' L' → P H') : rSetD (.ref a) (kV (Kx.key k)) v H P := by
  obtain ⟨ps, h, m⟩ := hS.dict e
  refine ⟨a, _, rfl, .inl ⟨ps, Kx.key k, h, rfl, by rw [m.len]; exact hl, rfl⟩, q _ ?_⟩
  subst e2
  exact hS.putD e (m.put hv)
/-- len(d) -/
theorem ev_lenD {ta : TE} (hS : Sep H L) (e : L[i]? = some (dictA a xs)) (ha : Ev ta σ H (.ref a)) : Ev (tCB (fun xs H Q => ∃ a kvs, xs = [V.ref a] ∧ H a = some (.dK kvs) ∧ Q (.int (kvs : List (Key × V)).length) H) (tCons ta tNil)) σ H (.int xs.length) := by
  obtain ⟨ps, hp, m⟩ := hS.dict e
  exact ev_cb (ea_cons ha ea_nil) fun _ q => ⟨a, ps, rfl, hp, by rw [m.len]; exact q⟩
end Ml
namespace Ml
open PySem PySem.Spec PyProof.Rows L2
variable {G : Gx} {β : Type} {H : Hp} {M : List (Asn G)}
def elemsE (E : Addr → β → Asn G) (l : List (Addr × β)) : List (Asn G) := l.map fun q => E q.1 q.2
theorem erase_map {α γ : Type} (f : α → γ) : ∀ (l : List α) (j : Nat), (l.map f).eraseIdx j = (l.eraseIdx j).map f
  | [], j => by simp
  | x :: l, 0 => rfl
  | x :: l, j + 1 => by simp only [List.map_cons, List.eraseIdx_cons_succ]; rw [erase_map f l j]
theorem perm_out {α : Type} : ∀ {l : List α} {j : Nat} {x : α}, l[j]? = some x → (x :: l.eraseIdx j).Perm l
  | [], j, x, h => by cases h
  | y :: l, 0, x, h => by
    have : y = x := by simpa using h
    subst this; exact .refl _
  | y :: l, j + 1, x, h => by
    have h2 : l[j]? = some x := by simpa using h
    exact (List.Perm.swap y x _).trans ((perm_out h2).cons y)
end Ml
namespace Ml
open PySem PySem.Spec PyProof.Rows L2
variable {G : Gx} {κ β : Type} [Kx κ] [DecidableEq κ] {H : Hp} {M : List (Asn G)}
def refsD (kvs : List (κ × β)) (ps : List Addr) : List (Key × V) := List.zipWith (fun kv p => (Kx.key kv.1, V.ref p)) kvs ps
def dictE (E : Addr → β → Asn G) (a : Addr) (kvs : List (κ × β)) : Asn G := exA fun (ps : List Addr) => andA (ps.length = kvs.length ∧ (kvs.map (·.1)).Nodup) (star (cell a (.dK (refsD kvs ps)) :: elemsE E (ps.zip (kvs.map (·.2)))))
theorem refs_val {kvs : List (κ × β)} {ps : List Addr} {j : Nat} {k : κ} {y : β} {p : Addr} (hl : ps.length = kvs.length) (hn : (kvs.map (·.1)).Nodup) (hj : kvs[j]? = some (k, y)) (hp : ps[j]? = some p) : valV (refsD kvs ps) (Kx.key k) = some (.ref p) := by
  induction kvs generalizing ps j with
  | nil => cases hj
  | cons kv kvs ih =>
    cases ps with
    | nil => cases hl
    | cons q ps =>
      cases j with
      | zero =>
        have h1 : kv = (k, y) := by simpa using hj
        have h2 : q = p := by simpa using hp
        subst h1 h2
        show valV ((Kx.key k, V.ref q) :: refsD kvs ps) (Kx.key k) = _
        unfold valV
        simp
      | succ j =>
        have hj' : kvs[j]? = some (k, y) := by simpa using hj
        have hp' : ps[j]? = some p := by simpa using hp
        rw [List.map_cons, List.nodup_cons] at hn
        have hk : ¬ kv.1 = k := fun e => hn.1 (List.mem_map.mpr ⟨(k, y), List.mem_of_getElem? hj', e.symm⟩)
        have := ih (ps := ps) (j := j) (by simpa using hl) hn.2 hj' hp'
        show valV ((Kx.key kv.1, V.ref q) :: refsD kvs ps) (Kx.key k) = _
        unfold valV at this ⊢
        have hk2 : ¬ Kx.key kv.1 = Kx.key k := fun e => hk (Kx.inj e)
        simpa [hk2] using this
theorem zip_hole {ps : List Addr} {xs : List β} {j : Nat} {z : β} (hl : ps.length = xs.length) : (ps.zip (xs.set j z)).eraseIdx j = (ps.zip xs).eraseIdx j := by
  induction ps generalizing xs j with
  | nil => simp
  | cons q ps ih =>
    cases xs with
    | nil => cases hl
    | cons x xs =>
      cases j with
      | zero => rfl
      | succ j =>
        simp only [List.set_cons_succ, List.zip_cons_cons, List.eraseIdx_cons_succ]
        rw [ih (by simpa using hl)]
theorem put_at {kvs : List (κ × β)} {j : Nat} {k : κ} {y z : β} (hn : (kvs.map (·.1)).Nodup) (hj : kvs[j]? = some (k, y)) : dput kvs k z = kvs.set j (k, z) := by
  have hany : (kvs.any fun kv => decide (kv.1 = k)) = true := List.any_eq_true.mpr ⟨(k, y), List.mem_of_getElem? hj, by simp⟩
  unfold dput
  rw [if_pos hany]
  clear hany
  induction kvs generalizing j with
  | nil => cases hj
  | cons kv kvs ih =>
    rw [List.map_cons, List.nodup_cons] at hn
    cases j with
    | zero =>
      have h1 : kv = (k, y) := by simpa using hj
      subst h1
      have : kvs.map (fun kv => if kv.1 = k then (kv.1, z) else kv) = kvs := by
        have : ∀ q, q ∈ kvs → (if q.1 = k then (q.1, z) else q) = q := fun q hq => by
          rw [if_neg]
          intro e
          exact hn.1 (List.mem_map.mpr ⟨q, hq, e⟩)
        conv => rhs; rw [← List.map_id kvs]
        exact List.map_congr_left this
      simp [this]
    | succ j =>
      have hj' : kvs[j]? = some (k, y) := by simpa using hj
      have hk : ¬ kv.1 = k := fun e => hn.1 (List.mem_map.mpr ⟨(k, y), List.mem_of_getElem? hj', e.symm⟩)
      rw [List.map_cons, if_neg hk, List.set_cons_succ, ih hn.2 hj']
end Ml
namespace Ml
open PySem PySem.Spec PyProof.Rows L2
variable {G : Gx} {κ β : Type} [Kx κ] [DecidableEq κ] {H : Hp} {M : List (Asn G)}
theorem refs_new {y : β} {kvs : List (κ × β)} {ps : List Addr} {k : κ} {p : Addr} (hl : ps.length = kvs.length) (hk : ¬ k ∈ kvs.map (·.1)) : putK (refsD kvs ps) (Kx.key k) (.ref p) = refsD (kvs ++ [(k, y)]) (ps ++ [p]) := by
  have h1 : (refsD kvs ps).any (fun kv => decide (kv.1 = Kx.key k)) = false := by
    rw [Bool.eq_false_iff]
    intro z
    obtain ⟨q, hq, e⟩ := List.any_eq_true.mp z
    have e := of_decide_eq_true e
    unfold refsD at hq
    induction kvs generalizing ps with
    | nil => simp at hq
    | cons kv kvs ih =>
      cases ps with
      | nil => cases hl
      | cons r ps =>
        rw [List.zipWith_cons_cons] at hq
        rcases List.mem_cons.mp hq with rfl | hq
        · exact hk (by rw [List.map_cons]; exact List.mem_cons.mpr (.inl (Kx.inj e).symm))
        · exact ih (ps := ps) (by simpa using hl) (fun m => hk (by rw [List.map_cons]; exact List.mem_cons_of_mem _ m)) (by
            refine List.any_eq_true.mpr ⟨q, hq, by simpa using e⟩) hq
  unfold putK
  rw [h1]
  unfold refsD
  rw [List.zipWith_append hl.symm]
  rfl
theorem refs_len {kvs : List (κ × β)} {ps : List Addr} (hl : ps.length = kvs.length) : (refsD kvs ps).length = kvs.length := by
  unfold refsD
  rw [List.length_zipWith]; omega
/-- d[k] = v, v an own thing, k new -/
theorem k_newE {E : Addr → β → Asn G} {a : Addr} {kvs : List (κ × β)} {k : κ} {p : Addr} {y : β} {P : Hp → Prop} (h : Sep H (dictE E a kvs :: E p y :: M)) (hk : ¬ k ∈ kvs.map (·.1)) (hz : kvs.length < sizeLine)
    (q : ∀ H', Sep H' (dictE E a (kvs ++ [(k, y)]) :: M) → P H') : rSetD (.ref a) (kV (Kx.key k)) (.ref p) H P := by
  obtain ⟨ps, h⟩ := Sep.ex h
  obtain ⟨⟨hl, hn⟩, h⟩ := Sep.and h
  have h := Sep.star1 h
  have hc : H a = some (.dK (refsD kvs ps)) := h.getCell (i := 0) rfl
  refine ⟨a, _, rfl, .inl ⟨refsD kvs ps, Kx.key k, hc, rfl, by rw [refs_len hl]; exact hz, rfl⟩, q _ ?_⟩
  have h2 := h.put (i := 0) (a := a) (o := .dK (refsD kvs ps)) (o' := .dK (putK (refsD kvs ps) (Kx.key k) (.ref p))) rfl rfl rfl
  refine Sep.exI (ps ++ [p]) (Sep.andI ⟨by rw [List.length_append, List.length_append, hl]; rfl, ?_⟩ (Sep.unstar1 ?_))
  · rw [List.map_append, List.nodup_append]
    refine ⟨hn, by simp, fun x hx z hz => ?_⟩
    rw [List.map_singleton, List.mem_singleton] at hz
    intro e
    have hz : z = k := hz
    exact hk (by rw [← hz, ← e]; exact hx)
  · have e1 : elemsE E ((ps ++ [p]).zip ((kvs ++ [(k, y)]).map (·.2))) = elemsE E (ps.zip (kvs.map (·.2))) ++ [E p y] := by
      unfold elemsE
      rw [List.map_append, List.zip_append (by rw [List.length_map]; exact hl), List.map_append]
      rfl
    rw [e1, ← refs_new (y := y) hl hk]
    have : ((cell a (.dK (putK (refsD kvs ps) (Kx.key k) (.ref p))) :: elemsE E (ps.zip (kvs.map (·.2)))) ++ (E p y :: M)) = ((cell a (.dK (putK (refsD kvs ps) (Kx.key k) (.ref p))) :: (elemsE E (ps.zip (kvs.map (·.2))) ++ [E p y])) ++ M) := by simp
    rw [← this]
    exact h2
end Ml
namespace PySem.SeqAt
open AutoSeq1 (wpAny_loadPart')
open MeetsSeq MeetsSeq2 MeetsSeq3
section
variable {prog : Program} {w : World} {A : Around} {s : Shared} {E : Value → Shared → Prop}
def DictAt (s : Shared) (d : Addr) : Prop := ∃ dd es ep sl, s.heap.get? d = some ⟨.type "dict", dd, .dict es ep, sl⟩
theorem DictAt.ty {d : Addr} (h : DictAt s d) : s.TypeIs (.ref d) "dict" := by obtain ⟨dd, es, ep, sl, h⟩ := h; exact ⟨_, h, rfl⟩
end
end PySem.SeqAt
namespace L2
open PySem PySem.Spec PyProof.Rows
section
variable {X : Cx} {pins : List (Addr × Obj)} {σ : St} {H : Hp} {s : Shared}
theorem dictAt {a : Addr} {o : HO} (I : Inv X pins σ H s) (e : H a = some o) (h : (∃ l, o = .dK l) ∨ ∃ b l, o = .frz b (.dK l)) : SeqAt.DictAt s a := by
  rcases h with ⟨kvs, rfl⟩ | ⟨ob, kvs, rfl⟩
  · obtain ⟨_, _, vs, _, o, es, ep, h1, h2, h3, _⟩ := (show ObjOk X.prog X.w H s.heap a (.dK kvs) from I.hok a _ e)
    obtain ⟨cls, dd, data, sl⟩ := o
    have h4 := h2.1
    simp only at h3 h4
    subst h3 h4
    exact ⟨_, _, _, _, h1⟩
  · obtain ⟨_, _, _, xs, _, o, es, ep, h1, h2, h3, _⟩ := (show ObjOk X.prog X.w H s.heap a (.frz ob (.dK kvs)) from I.hok a _ e)
    obtain ⟨cls, dd, data, sl⟩ := o
    have h4 := h2.1
    simp only at h3 h4
    subst h3 h4
    exact ⟨_, _, _, _, h1⟩
end
end L2
namespace Ml
open PySem PySem.Spec PyProof.Rows L2
variable {G : Gx} {H : Hp} {L : List (Asn G)} {Q : VK}
theorem R.need_rev {α : Type} {p : Prop} {inst : Decidable p} {k : R α} {q : α → Prop} {e : Exc → Prop} {Z : Prop} (f : p → k.wp q e → Z) (h : (@R.need α p inst k).wp q e) : Z := f (R.wp_need h).1 (R.wp_need h).2
end Ml
namespace Ml
open PySem PySem.Spec PyProof.Rows
def leT (a b : Str) : Bool := !decide (b.cps.toList < a.cps.toList)
theorem leT_iff {a b : Str} : leT a b = true ↔ a.cps.toList ≤ b.cps.toList := by
  unfold leT
  rw [Bool.not_eq_true', decide_eq_false_iff_not]
  exact List.not_lt
theorem leT_tr (a b c : Str) (x : leT a b = true) (y : leT b c = true) : leT a c = true := leT_iff.mpr (List.le_trans (leT_iff.mp x) (leT_iff.mp y))
theorem leT_tot (a b : Str) : (leT a b || leT b a) = true := by
  rw [Bool.or_eq_true]
  exact (List.le_total a.cps.toList b.cps.toList).imp leT_iff.mpr leT_iff.mpr
theorem leT_anti {a b : Str} (x : leT a b = true) (y : leT b a = true) : a = b := by
  have e := List.le_antisymm (leT_iff.mp x) (leT_iff.mp y)
  obtain ⟨⟨xs⟩⟩ := a
  obtain ⟨⟨ys⟩⟩ := b
  cases e
  rfl
def sortT (xs : List Str) : List Str := xs.mergeSort leT
theorem sortT_perm (xs : List Str) : (sortT xs).Perm xs := List.mergeSort_perm xs leT
theorem sortT_up (xs : List Str) : (sortT xs).Pairwise (fun a b => leT a b = true) := List.pairwise_mergeSort leT_tr leT_tot xs
theorem up_one : ∀ {xs ys : List Str}, xs.Pairwise (fun a b => leT a b = true) → ys.Pairwise (fun a b => leT a b = true) → xs.Perm ys → xs = ys
  | [], ys, _, _, p => p.nil_eq
  | x :: r, [], _, _, p => absurd p.length_eq (by simp)
  | x :: r, y :: t, ux, uy, p => by
    have ex : x = y := by
      by_cases z : x = y
      · exact z
      · have mx : x ∈ t := (List.mem_cons.mp (p.mem_iff.mp List.mem_cons_self)).resolve_left z
        have my : y ∈ r := (List.mem_cons.mp (p.mem_iff.mpr List.mem_cons_self)).resolve_left (fun q => z q.symm)
        exact leT_anti (List.rel_of_pairwise_cons ux my) (List.rel_of_pairwise_cons uy mx)
    subst ex
    rw [up_one (List.pairwise_cons.mp ux).2 (List.pairwise_cons.mp uy).2 (p.cons_inv)]
theorem rising_leT : ∀ {p : Str} {xs : List Str}, risingS p xs = true → (p :: xs).Pairwise (fun a b => leT a b = true)
  | p, [], _ => List.pairwise_singleton _ _
  | p, x :: r, h => by
    have h' : (!ltCps x.cps.toList p.cps.toList && risingS x r) = true := h
    rw [Bool.and_eq_true, ltCps_eq] at h'
    have t := rising_leT h'.2
    have px : leT p x = true := h'.1
    refine List.pairwise_cons.mpr ⟨fun y hy => ?_, t⟩
    rcases List.mem_cons.mp hy with e | e
    · rw [e]; exact px
    · exact leT_tr _ _ _ px (List.rel_of_pairwise_cons t e)
theorem sorted_leT : ∀ {xs : List Str}, sortedS xs = true → xs.Pairwise (fun a b => leT a b = true)
  | [], _ => List.Pairwise.nil
  | _ :: _, h => rising_leT h
theorem sortT_of {xs ys : List Str} (p : ys.Perm xs) (h : ys.Pairwise (fun a b => leT a b = true)) : ys = sortT xs := up_one h (sortT_up xs) (p.trans (sortT_perm xs).symm)
theorem sortT_congr {xs ys : List Str} (p : xs.Perm ys) : sortT xs = sortT ys := sortT_of ((sortT_perm xs).trans p) (sortT_up xs)
theorem perm_of_len : ∀ {xs ys : List Str}, xs.Nodup → (∀ x, x ∈ xs → x ∈ ys) → ys.length ≤ xs.length → ys.Perm xs
  | [], ys, _, _, l => by
    have e : ys = [] := List.length_eq_zero_iff.mp (Nat.le_zero.mp l)
    rw [e]
  | x :: r, ys, d, m, l => by
    obtain ⟨d1, d2⟩ := List.nodup_cons.mp d
    have hx := m x List.mem_cons_self
    have pe := List.perm_cons_erase hx
    refine pe.trans (List.Perm.cons x (perm_of_len d2 (fun y hy => ?_) ?_))
    · rcases List.mem_cons.mp (pe.mem_iff.mp (m y (List.mem_cons_of_mem _ hy))) with e | e
      · rw [e] at hy; exact absurd hy d1
      · exact e
    · have q := pe.length_eq
      simp only [List.length_cons] at q l
      omega
theorem nodup_len : ∀ {xs ys : List Str}, xs.Nodup → (∀ x, x ∈ xs → x ∈ ys) → xs.length ≤ ys.length
  | [], _, _, _ => Nat.zero_le _
  | x :: r, ys, d, m => by
    obtain ⟨d1, d2⟩ := List.nodup_cons.mp d
    have pe := List.perm_cons_erase (m x List.mem_cons_self)
    have q := pe.length_eq
    have t : r.length ≤ (ys.erase x).length := nodup_len d2 fun y hy => by
      rcases List.mem_cons.mp (pe.mem_iff.mp (m y (List.mem_cons_of_mem _ hy))) with e | e
      · rw [e] at hy; exact absurd hy d1
      · exact e
    simp only [List.length_cons] at q ⊢
    omega
theorem perm_same {xs ys : List Str} (d : xs.Nodup) (e : ys.Nodup) (m : ∀ x, x ∈ xs ↔ x ∈ ys) : xs.Perm ys := perm_of_len e (fun x h => (m x).mpr h) (nodup_len d fun x h => (m x).mp h)
end Ml
namespace L2
open PySem PySem.Spec PyProof.Rows PySem.Froz Ml
end L2
namespace L2
open PySem PySem.Spec PyProof.Rows Ml
section
variable {X : Cx}
theorem pe_revLK {e : Expr} {te : TE} {k : Nat} {p1 p2 p3 pos : Pos} (K : PySem.W.Frag) (he : PE X e te) (hK : X.K = K := by rfl) :
    PE X (.Subscript e (.Slice none none (some (.UnaryOp .USub (.Constant (.int 1) k p1) p2)) p3) pos) (tRevL K te) := by subst hK; exact pe_revL he
end
end L2
namespace Ml
open PySem PySem.Spec PyProof.Rows L2
variable {G : Gx} {σ : L2.St} {H : Hp} {L : List (Asn G)} {Q : VK} {te : TE} {D : Ends}
theorem imL_ofStr : ∀ {vs : List V} {ss : List Str}, imL (G := G) H vs (ss.map Any.str) → vs = ss.map V.str
  | [], [], _ => rfl
  | v :: vs, s :: ss, h => by rw [any_str.mp h.1, imL_ofStr h.2]; rfl
theorem strs_at {v : V} {x : Any} {ss : List Str} (h : Im.im G H v x) (e : x = .lst (ss.map Any.str) ∨ x = .tup (ss.map Any.str)) : ∃ a, v = .ref a ∧ (SqL G.K H a (ss.map (Fv.enc G)) ∨ SqT G.K H a (ss.map (Fv.enc G))) := by
  rcases e with e | e
  · subst e
    obtain ⟨a, vs, rfl, ⟨o, ho⟩, m⟩ := any_lsts.mp h
    rw [imL_ofStr m] at ho
    exact ⟨a, rfl, .inl (.inl (.inr ⟨o, ho⟩))⟩
  · subst e
    obtain ⟨a, vs, rfl, ho, m⟩ := any_tup.mp h
    rw [imL_ofStr m] at ho
    exact ⟨a, rfl, .inr (.inl (.inl ho))⟩
theorem imL.rev {α : Type} [Im G α] : ∀ {vs : List V} {xs : List α}, imL (G := G) H vs xs → imL (G := G) H vs.reverse xs.reverse
  | [], [], _ => True.intro
  | v :: vs, x :: xs, h => by
    rw [List.reverse_cons, List.reverse_cons]
    exact (imL.rev h.2).app (ws := [v]) (ys := [x]) ⟨h.1, True.intro⟩
def revK (K : PySem.W.Frag) (Q : VK) : VK := fun x H1 => ∃ a xs, x = .ref a ∧ SqL K H1 a xs ∧ ∀ p, H1 p = none → Q (.ref p) (upd H1 p (.lst xs.reverse))
theorem c_rev {K : PySem.W.Frag} (h : te σ H (revK K Q)) : tRevL K te σ H Q := h
theorem k_rev {α : Type} [Im G α] {a : Addr} {xs : List α} (hS : Sep H L) (hq : ∃ vs, SqL G.K H a vs ∧ imL (G := G) H vs xs) (k : ∀ p H', Sep H' (lstA p xs.reverse :: L) → Q (.ref p) H') : revK G.K Q (.ref a) H := by
  obtain ⟨vs, h, m⟩ := hq
  exact ⟨a, vs, rfl, h, fun p hp => k p _ (hS.newL hp m.rev)⟩
theorem Sep.rdL {α : Type} [Im G α] {i : Nat} {a : Addr} {xs : List α} (hS : Sep H L) (e : L[i]? = some (lstA a xs)) : ∃ vs, Rd H a (.lst vs) ∧ imL (G := G) H vs xs := by
  obtain ⟨vs, h, m⟩ := hS.lst e
  exact ⟨vs, .inl h, m⟩
theorem imPlR {α : Type} [Im G α] {a : Addr} {xs : List α} (h : Im.im G H (.ref a) xs) : ∃ vs, Rd H a (.lst vs) ∧ imL (G := G) H vs xs := by
  obtain ⟨b, vs, e, ho, m⟩ := h
  cases e
  exact ⟨vs, .inr ho, m⟩
end Ml
namespace L2
open PySem PySem.Spec PyProof.Rows PySem.W
def rSortDt (K : PySem.W.Frag) : List V → Hp → VK → Prop := fun vs H Q => ∃ (a : Addr) (ps : List (V × PyData)), vs = [.ref a] ∧ SqL K H a (ps.map (·.1)) ∧ (∀ p, p ∈ ps → Dp K H p.1 p.2) ∧ AllAlike (ps.map (·.2)) ∧ Sortable (ps.map (·.2)) ∧ ps.length ≤ sizeLine ∧ (∀ p, p ∈ ps → p.2.depth ≤ 8) ∧
  ∀ l, H l = none → Q (.ref l) (upd H l (.lst ((ps.mergeSort (dataLe false (·.2))).map (·.1))))
section
variable {X : Cx}
theorem each_rel {pins : List (Addr × Obj)} {σ : St} {H : Hp} {s : Shared} : ∀ {ps : List (V × PyData)} {us : List Value}, Vals (ps.map (·.1)) us → EachIs (fun u (p : V × PyData) => RelV p.1 u) us ps
  | [], _, .nil => .nil
  | _ :: _, _, .cons r t => .cons r (each_rel (pins := pins) (σ := σ) (H := H) (s := s) t)
theorem rel_each : ∀ {ps : List (V × PyData)} {us : List Value}, EachIs (fun u (p : V × PyData) => RelV p.1 u) us ps → Vals (ps.map (·.1)) us
  | _, _, .nil => .nil
  | _, _, .cons r t => .cons r (rel_each t)
theorem each_reads {pins : List (Addr × Obj)} {σ : St} {H : Hp} {s : Shared} (I : Inv X pins σ H s) : ∀ {ps : List (V × PyData)} {us : List Value}, Vals (ps.map (·.1)) us → (∀ p, p ∈ ps → Dp X.K H p.1 p.2) → EachIs (fun u (p : V × PyData) => ∃ as, Reads s.heap u p.2 as) us ps
  | [], _, .nil, _ => .nil
  | p :: _, _, .cons r t, h => .cons (Dp.reads I p.2 p.1 _ (h p List.mem_cons_self) r) (each_reads I t fun q hq => h q (List.mem_cons_of_mem _ hq))
theorem cr_sortDt (hu : X.A.units + 64 < cLine) : CallR X (.builtin "sorted") (rSortDt X.K) := by
  intro pins s σ H vs us Q I r h
  obtain ⟨a, ps, rfl, hs, hd, hal, hk, hL, hdp, q⟩ := h
  obtain ⟨its, rv, hl, _⟩ := I.list hs
  rw [Vals.ref1 r]
  refine sorted_data (R := fun u (p : V × PyData) => RelV p.1 u) (bs := ps) (enc := fun p => p.2) hl.isList (each_rel (pins := pins) (σ := σ) (H := H) (s := s) rv) (each_reads I rv hd) hal hk hL (fun p hp => by have := hdp p hp; omega) fun out hlen eo => ?_
  obtain ⟨ep, he'⟩ := PyProof.Rows.sortedAll_at s.heap its out.toArray
  have z : ((ps.mergeSort (dataLe false (·.2))).map (·.1)).length ≤ sizeLine := by rw [List.length_map, List.length_mergeSort]; exact hL
  exact ⟨.ref _, upd H (s.heap.objs.size + 1) (.lst ((ps.mergeSort (dataLe false (·.2))).map (·.1))), I.laid (t' := s.toks) (fun _ _ => PyProof.Rows.sortedAll_old) (Nat.le_succ _) ⟨z, out, ep, rel_each eo, he'⟩, rfl, q _ (I.hok.fresh (Nat.le_succ _))⟩
theorem sortDtK (K : PySem.W.Frag) (hu : X.A.units + 64 < cLine) (hK : X.K = K := by rfl) : CallR X (.builtin "sorted") (rSortDt K) := by subst hK; exact cr_sortDt hu
end
end L2
namespace Ml
open PySem PySem.Spec PyProof.Rows L2
variable {G : Gx} {σ : L2.St} {H H' : Hp} {L L' : List (Asn G)} {Q : VK} {te td ty : TE} {D : Ends}
structure Kt where
  l : List Str
  deriving DecidableEq
def Kt.ks (k : Kt) : List Key := k.l.map Sum.inr
theorem inr_inj : ∀ {xs ys : List Str}, xs.map (Sum.inr : Str → Key) = ys.map Sum.inr → xs = ys
  | [], [], _ => rfl
  | [], _ :: _, h => by cases h
  | _ :: _, [], h => by cases h
  | x :: xs, y :: ys, h => by
    simp only [List.map_cons, List.cons.injEq] at h
    rw [Sum.inr.inj h.1, inr_inj h.2]
theorem Kt.inj {a b : Kt} (h : a.ks = b.ks) : a = b := by
  obtain ⟨xs⟩ := a
  obtain ⟨ys⟩ := b
  have : xs = ys := inr_inj h
  rw [this]
instance imKt : Im G Kt := ⟨fun H v x => ∃ a, v = .ref a ∧ H a = some (.tup (x.l.map V.str)), fun ⟨a, e, h⟩ s => ⟨a, e, s.1 a _ h rfl⟩⟩
instance : IsRef G Kt := ⟨fun h => by obtain ⟨a, e, _⟩ := h; exact ⟨a, e⟩⟩
instance : Lay Kt := ⟨fun x => layAllB x.l⟩
theorem dpStrs {K : PySem.W.Frag} : ∀ xs : List Str, DpAll K H (xs.map V.str) (xs.map PyData.str)
  | [] => .nil
  | x :: r => .cons (.str x) (dpStrs r)
theorem depStrs : ∀ xs : List Str, PyData.depthAll (xs.map PyData.str) = 0
  | [] => rfl
  | x :: r => by
    show max (PyData.depth (.str x)) (PyData.depthAll (r.map PyData.str)) = 0
    rw [depStrs r]; rfl
def pdKt (k : Kt) : PyData := .tuple (k.l.map PyData.str)
theorem canStrs : ∀ xs : List Str, layAllB xs = true → PyData.canLayAll0 (xs.map PyData.str) = true
  | [], _ => rfl
  | x :: r, h => by
    have h : (Lay.lay x && layAllB r) = true := h
    rw [Bool.and_eq_true] at h
    show ((PyData.str x).canLay0 && PyData.canLayAll0 (r.map PyData.str)) = true
    rw [canStrs r h.2, show (PyData.str x).canLay0 = true from h.1]; rfl
theorem eqvStrs : ∀ xs ys : List Str, PyData.eqvAll (xs.map PyData.str) (ys.map PyData.str) = decide (xs = ys)
  | [], [] => rfl
  | [], _ :: _ => rfl
  | _ :: _, [] => rfl
  | x :: xs, y :: ys => by
    show (PyData.eqv (.str x) (.str y) && PyData.eqvAll (xs.map PyData.str) (ys.map PyData.str)) = _
    rw [eqvStrs xs ys, show PyData.eqv (.str x) (.str y) = decide (x = y) from str_beq x y]
    simp
instance pdKtI : Pd G Kt where
  pd := pdKt
  dep := 1
  dp := fun {H v x} h => by
    obtain ⟨a, rfl, g⟩ := h
    exact .tup (SqT.of g) (dpStrs x.l)
  lay_ok := fun x h => canStrs x.l h
  dep_ok := fun x => by
    show PyData.depthAll (x.l.map PyData.str) + 1 ≤ 1
    rw [depStrs]
    exact Nat.le_refl _
  eqv := fun x y => by
    show PyData.eqvAll (x.l.map PyData.str) (y.l.map PyData.str) = _
    rw [eqvStrs]
    obtain ⟨a⟩ := x; obtain ⟨b⟩ := y
    simp
theorem alike_strs : ∀ xs ys : List Str, PySem.W.alikeAll (xs.map PyData.str) (ys.map PyData.str) = true
  | [], _ => by simp [PySem.W.alikeAll]
  | _ :: _, [] => by simp [PySem.W.alikeAll]
  | x :: xs, y :: ys => by
    show PySem.W.alikeAll (PyData.str x :: xs.map PyData.str) (PyData.str y :: ys.map PyData.str) = true
    rw [PySem.W.alikeAll, alike_strs xs ys]
    simp [PySem.W.alike]
end Ml
namespace Ml
open PySem PySem.Spec PyProof.Rows L2
variable {G : Gx}
section
variable {β : Type} [Im G β]
def imDT (H : Hp) : List (List Key × V) → List (Kt × β) → Prop
  | [], [] => True
  | p :: ps, q :: qs => (p.1 = q.1.ks ∧ Im.im G H p.2 q.2 ∧ ∃ b, H b = some (.tup (q.1.ks.map kV))) ∧ imDT H ps qs
  | _, _ => False
variable {H H' : Hp}
theorem imDT.st : ∀ {ps : List (List Key × V)} {qs : List (Kt × β)}, imDT (G := G) H ps qs → Stab G H H' → imDT (G := G) H' ps qs
  | [], [], _, _ => True.intro
  | _ :: _, _ :: _, h, s => ⟨⟨h.1.1, Im.st h.1.2.1 s, by obtain ⟨b, e⟩ := h.1.2.2; exact ⟨b, s.1 b _ e rfl⟩⟩, imDT.st h.2 s⟩
  | [], _ :: _, h, _ => h
  | _ :: _, [], h, _ => h
theorem imDT.len : ∀ {ps : List (List Key × V)} {qs : List (Kt × β)}, imDT (G := G) H ps qs → ps.length = qs.length
  | [], [], _ => rfl
  | _ :: _, _ :: _, h => by rw [List.length_cons, List.length_cons, imDT.len h.2]
  | [], _ :: _, h => h.elim
  | _ :: _, [], h => h.elim
theorem kt_dec (a b : Kt) : decide (a.ks = b.ks) = decide (a = b) := by
  by_cases h : a = b
  · subst h; simp
  · have : ¬ a.ks = b.ks := fun e => h (Kt.inj e)
    simp [h, this]
theorem imDT.val : ∀ {ps : List (List Key × V)} {qs : List (Kt × β)} (k : Kt), imDT (G := G) H ps qs → (∀ y, dget qs k = some y → ∃ v, valV ps k.ks = some v ∧ Im.im G H v y) ∧ (dget qs k = none → valV ps k.ks = none)
  | [], [], _, _ => ⟨fun y e => (by cases (show (none : Option β) = some y from e)), fun _ => rfl⟩
  | p :: ps, q :: qs, k, ⟨⟨e1, e2, _⟩, h⟩ => by
    have ih := imDT.val k h
    by_cases c : q.1 = k
    · have c1 : p.1 = k.ks := by rw [e1, c]
      have d : dget (q :: qs) k = some q.2 := by simp [dget, List.find?_cons, c]
      rw [d, valV_pos c1]
      exact ⟨fun y e => ⟨p.2, rfl, by cases e; exact e2⟩, fun e => by cases e⟩
    · have c1 : ¬ p.1 = k.ks := fun z => c (Kt.inj (e1.symm.trans z))
      have d : dget (q :: qs) k = dget qs k := by simp [dget, List.find?_cons, c]
      rw [d, valV_neg c1]
      exact ih
  | [], _ :: _, _, h => h.elim
  | _ :: _, [], _, h => h.elim
theorem imDT.any : ∀ {ps : List (List Key × V)} {qs : List (Kt × β)} (k : Kt), imDT (G := G) H ps qs → (ps.any fun kv => decide (kv.1 = k.ks)) = qs.any fun kv => decide (kv.1 = k)
  | [], [], _, _ => rfl
  | p :: ps, q :: qs, k, ⟨⟨e1, _⟩, h⟩ => by
    rw [List.any_cons, List.any_cons, imDT.any k h, e1, kt_dec]
  | [], _ :: _, _, h => h.elim
  | _ :: _, [], _, h => h.elim
theorem imDT.app : ∀ {ps rs : List (List Key × V)} {qs ts : List (Kt × β)}, imDT (G := G) H ps qs → imDT (G := G) H rs ts → imDT (G := G) H (ps ++ rs) (qs ++ ts)
  | [], _, [], _, _, h => h
  | _ :: _, _, _ :: _, _, h, k => ⟨h.1, imDT.app h.2 k⟩
  | [], _, _ :: _, _, h, _ => h.elim
  | _ :: _, _, [], _, h, _ => h.elim
theorem imDT.rep : ∀ {ps : List (List Key × V)} {qs : List (Kt × β)} {k : Kt} {v : V} {y : β}, imDT (G := G) H ps qs → Im.im G H v y →
    imDT (G := G) H (ps.map fun kv => if kv.1 = k.ks then (kv.1, v) else kv) (qs.map fun kv => if kv.1 = k then (kv.1, y) else kv)
  | [], [], _, _, _, _, _ => True.intro
  | p :: ps, q :: qs, k, v, y, ⟨⟨e1, e2, e3⟩, h⟩, hv => by
    refine ⟨?_, imDT.rep h hv⟩
    dsimp only
    by_cases c : q.1 = k
    · have c1 : p.1 = k.ks := by rw [e1, c]
      rw [if_pos c, if_pos c1]; exact ⟨e1, hv, e3⟩
    · have c1 : ¬ p.1 = k.ks := fun z => c (Kt.inj (e1.symm.trans z))
      rw [if_neg c, if_neg c1]; exact ⟨e1, e2, e3⟩
  | [], _ :: _, _, _, _, h, _ => h.elim
  | _ :: _, [], _, _, _, h, _ => h.elim
theorem imDT.put {ps : List (List Key × V)} {qs : List (Kt × β)} {k : Kt} {v : V} {y : β} (h : imDT (G := G) H ps qs) (hv : Im.im G H v y) (hb : ∃ b, H b = some (.tup (k.ks.map kV))) : imDT (G := G) H (putK ps k.ks v) (dput qs k y) := by
  unfold putK dput
  rw [h.any k]
  split
  · exact h.rep hv
  · exact h.app (rs := [(k.ks, v)]) (ts := [(k, y)]) ⟨⟨rfl, hv, hb⟩, True.intro⟩
theorem imDT.at : ∀ {ps : List (List Key × V)} {qs : List (Kt × β)} {j : Nat} {k : List Key} {v : V} {x : Kt}, imDT (G := G) H ps qs → ps[j]? = some (k, v) → (qs.map (·.1))[j]? = some x → k = x.ks
  | p :: _, q :: _, 0, k, v, x, h, e1, e2 => by
    have e1 : p = (k, v) := by simpa using e1
    have e2 : q.1 = x := by simpa using e2
    have := h.1.1
    rw [e1, e2] at this
    exact this
  | _ :: ps, _ :: qs, j + 1, k, v, x, h, e1, e2 => imDT.at (ps := ps) (qs := qs) (j := j) h.2 (by simpa using e1) (by simpa using e2)
  | [], _, _, _, _, _, _, e1, _ => by simp at e1
  | _ :: _, [], _, _, _, _, h, _, _ => h.elim
variable {L L' : List (Asn G)} {σ : L2.St} {Q : VK} {te td ty tx : TE} {k : Kt} {a b : Addr} {xs : List (Kt × β)} {i : Nat}
def dgetK2 (x : V) (Q : VK) : VK := fun y H2 => ∃ a v, x = .ref a ∧ DGet H2 a y (some v) ∧ Q v H2
def dgetK (ty : TE) (σ : L2.St) (Q : VK) : VK := fun x H1 => ty σ H1 (dgetK2 x Q)
theorem c_dget (h : td σ H (dgetK ty σ Q)) : tDGet td ty σ H Q := h
theorem k_dget1 {x : V} (h : ty σ H (dgetK2 x Q)) : dgetK ty σ Q x H := h
end
end Ml
namespace Ml
open PySem PySem.Spec PyProof.Rows L2
end Ml
namespace L2
open PySem PySem.Spec PyProof.Rows
end L2
namespace Ml
open PySem PySem.Spec PyProof.Rows L2
variable {G : Gx}
section
variable {κ β : Type} [Kx κ] [DecidableEq κ] {H : Hp} {M L : List (Asn G)} {σ : L2.St} {Q : VK} {td ty : TE} {k : κ} {a : Addr} {kvs : List (κ × β)} {E : Addr → β → Asn G}
theorem dget_idx {κ β : Type} [DecidableEq κ] {k : κ} {kvs : List (κ × β)} {y : β} (h : dget kvs k = some y) : ∃ j : Nat, kvs[j]? = some (k, y) := by
  unfold dget at h
  obtain ⟨p, hp, e⟩ := Option.map_eq_some_iff.mp h
  have h1 := List.find?_some hp
  have h1 : p.1 = k := of_decide_eq_true h1
  obtain ⟨j, hj⟩ := List.getElem?_of_mem (List.mem_of_find?_eq_some hp)
  refine ⟨j, ?_⟩
  rw [hj, ← h1, ← e]
theorem refs_keys : ∀ {kvs : List (κ × β)} {ps : List Addr}, ps.length = kvs.length → (refsD kvs ps).map (·.1) = kvs.map fun q => Kx.key q.1
  | [], [], _ => rfl
  | kv :: kvs, p :: ps, h => by
    unfold refsD
    rw [List.zipWith_cons_cons, List.map_cons, List.map_cons]
    have := refs_keys (kvs := kvs) (ps := ps) (by simpa using h)
    unfold refsD at this
    rw [this]
  | [], _ :: _, h => by cases h
  | _ :: _, [], h => by cases h
def setE (kvs : List (κ × β)) (k : κ) (z : β) : List (κ × β) := if dhas kvs k = true then kvs else kvs ++ [(k, z)]
theorem dhas_no {κ β : Type} [DecidableEq κ] {k : κ} {kvs : List (κ × β)} (h : dget kvs k = none) : ¬ k ∈ kvs.map (·.1) := fun m => by
  obtain ⟨p, hp, e⟩ := List.mem_map.mp m
  unfold dget at h
  have h := Option.map_eq_none_iff.mp h
  have := List.find?_eq_none.mp h p hp
  exact this (decide_eq_true e)
end
end Ml
namespace L2
open PySem PySem.Spec PyProof.Rows
def Dsp (P : Program) (w : World) (K : PySem.W.Frag) (mg : Str → Option Value) (base : Heap) (CX : CXT) (k : Nat) (fam : Nat → Bool) (cl : Nat → Addr) (m : Str) (ps : List Str) (sp : Nat → Sp) : Prop :=
  ∀ i, fam i = true → ∃ f fd, Cls K (cl i) ∧ Meth K (cl i) m f ∧ Binds K fd ps [] ∧ FnOk P w K mg base CX k f fd ps (sp i)
theorem Dsp.mono {P : Program} {w : World} {K : PySem.W.Frag} {mg : Str → Option Value} {base : Heap} {CX : CXT} {j k : Nat} {fam : Nat → Bool} {cl : Nat → Addr} {m : Str} {ps : List Str} {sp : Nat → Sp} (D : Dsp P w K mg base CX j fam cl m ps sp) (h : j ≤ k) : Dsp P w K mg base CX k fam cl m ps sp := fun i hi => by
  obtain ⟨f, fd, a, b, c, F⟩ := D i hi
  exact ⟨f, fd, a, b, c, F.mono h⟩
end L2
namespace L2
open PySem PySem.Spec PyProof.Rows
end L2
namespace Ml
open PySem PySem.Spec PyProof.Rows L2
end Ml
namespace Ml
open PySem PySem.Spec PyProof.Rows L2
variable {G : Gx} {σ : L2.St} {H : Hp} {L L' : List (Asn G)} {Q : VK} {te : TE} {D : Ends}
section
variable {τ ρ : Type}
def whileN : Nat → (τ → Bool) → (τ → R τ) → τ → R τ
  | 0, _, _, _ => .bad
  | n + 1, c, f, s => if c s = true then (f s).bind (whileN n c f) else .ok s
theorem k_whileN {n : Nat} {c : τ → Bool} {f : τ → R τ} {s : τ} {rest : τ → R ρ} {q : ρ → Prop} {e : Exc → Prop} {tc : TT} {tb : TS} (I : τ → L2.St → Hp → Prop) (h0 : I s σ H) (hm : R.wp ((whileN n c f s).bind rest) q e)
    (test : ∀ s σ H, I s σ H → Et tc σ H (c s))
    (turn : ∀ s σ H (q' : τ → Prop) (N : L2.St → Hp → Prop), I s σ H → R.wp (f s) q' e → (∀ s' σ' H', q' s' → I s' σ' H' → N σ' H') → tb (loopD D N D.nx) σ H)
    (done : ∀ s σ H, R.wp (rest s) q e → I s σ H → D.nx σ H) : tWhile tc tb D σ H := by
  refine ⟨fun m σ H => ∃ s, I s σ H ∧ R.wp (whileN m c f s) (fun s => R.wp (rest s) q e) e, ⟨n, s, h0, R.wp_bind hm⟩, ?_⟩
  rintro m σ H ⟨s, hI, hw⟩
  cases m with
  | zero => exact hw.elim
  | succ m =>
    refine test s σ H hI _ ?_
    unfold whileN at hw
    cases h : c s with
    | false =>
      rw [h, if_neg Bool.false_ne_true] at hw
      rw [if_neg Bool.false_ne_true]
      exact done s σ H hw hI
    | true =>
      rw [h, if_pos rfl] at hw
      rw [if_pos rfl]
      exact ⟨fun σ' H' => ∃ s', I s' σ' H' ∧ R.wp (whileN m c f s') (fun s => R.wp (rest s) q e) e, fun σ' H' z => ⟨m, Nat.lt_succ_self _, z⟩,
        turn s σ H _ _ hI (R.wp_bind hw) fun s' σ' H' h1 h2 => ⟨s', h2, h1⟩⟩
end
theorem R.wp_ifY {α : Type} {c : Prop} [Decidable c] {a b : R α} {q : α → Prop} {e : Exc → Prop} (h : R.wp (if c then a else b) q e) (x : c) : R.wp a q e := (R.wp_if h).1 x
theorem R.wp_ifN {α : Type} {c : Prop} [Decidable c] {a b : R α} {q : α → Prop} {e : Exc → Prop} (h : R.wp (if c then a else b) q e) (x : ¬ c) : R.wp b q e := (R.wp_if h).2 x
section
variable {κ β : Type} [DecidableEq κ] [Kx κ] [Im G β]
def dispEnd (p : Addr) (Q : VK) : List (V × V) → Hp → Prop := fun ps H2 => H2 p = some (.dK []) ∧ ∃ kvs : List (Key × V), ps = kvs.map (fun kv => (kV kv.1, kv.2)) ∧ kvs.length ≤ 15 ∧ Q (.ref p) (upd H2 p (.dK (mergeK [] kvs)))
def dispK (trs : List (TE × TE)) (σ : L2.St) (H : Hp) (Q : VK) : Prop := ∀ p, H p = none → tPairs trs σ (upd H p (.dK [])) (dispEnd p Q)
theorem c_disp {trs : List (TE × TE)} (h : dispK trs σ H Q) : tDisp trs σ H Q := h
def prK2 (x : V) (r : List (TE × TE)) (σ : L2.St) (Z : List (V × V) → Hp → Prop) : VK := fun y H2 => tPairs r σ H2 fun ps H3 => Z ((x, y) :: ps) H3
def prK1 (tv : TE) (r : List (TE × TE)) (σ : L2.St) (Z : List (V × V) → Hp → Prop) : VK := fun x H1 => tv σ H1 (prK2 x r σ Z)
theorem pr_cons {tk tv : TE} {r : List (TE × TE)} {Z : List (V × V) → Hp → Prop} (h : tk σ H (prK1 tv r σ Z)) : tPairs ((tk, tv) :: r) σ H Z := h
theorem pr_1 {tv : TE} {r : List (TE × TE)} {Z : List (V × V) → Hp → Prop} {x : V} (h : tv σ H (prK2 x r σ Z)) : prK1 tv r σ Z x H := h
theorem pr_2 {r : List (TE × TE)} {Z : List (V × V) → Hp → Prop} {x y : V} (h : tPairs r σ H fun ps H3 => Z ((x, y) :: ps) H3) : prK2 x r σ Z y H := h
theorem pr_nil {Z : List (V × V) → Hp → Prop} (h : Z [] H) : tPairs [] σ H Z := h
theorem k_disp {trs : List (TE × TE)} (hS : Sep H L) (k : ∀ p H', Sep H' (dictA p ([] : List (κ × β)) :: L) → tPairs trs σ H' (dispEnd p Q)) : dispK trs σ H Q := fun p np => k p _ (hS.newD np)
def mergeD (kvs more : List (κ × β)) : List (κ × β) := more.foldl (fun acc kv => dput acc kv.1 kv.2) kvs
theorem imD.merge : ∀ {ps : List (Key × V)} {qs : List (κ × β)} {as : List (Key × V)} {bs : List (κ × β)}, imD (G := G) H ps qs → imD (G := G) H as bs → imD (G := G) H (mergeK as ps) (mergeD bs qs)
  | [], [], _, _, _, h => h
  | p :: ps, q :: qs, as, bs, ⟨⟨e1, e2⟩, h⟩, k => by
    show imD H (mergeK (putK as p.1 p.2) ps) (mergeD (dput bs q.1 q.2) qs)
    rw [e1]
    exact imD.merge h (k.put e2)
  | [], _ :: _, _, _, h, _ => h.elim
  | _ :: _, [], _, _, h, _ => h.elim
theorem k_dispEnd {i : Nat} {p : Addr} {ps : List (V × V)} {kvs : List (Key × V)} {qs : List (κ × β)} (hS : Sep H L) (e : L[i]? = some (dictA p ([] : List (κ × β)))) (ep : ps = kvs.map fun kv => (kV kv.1, kv.2)) (m : imD (G := G) H kvs qs) (few : kvs.length ≤ 15)
    (e2 : L.set i (dictA p (mergeD [] qs)) = L') (k : ∀ H', Sep H' L' → Q (.ref p) H') : dispEnd p Q ps H := by
  obtain ⟨us, h0, mu⟩ := hS.dict e
  have eu : us = [] := List.length_eq_zero_iff.mp (mu.len)
  subst eu
  refine ⟨h0, kvs, ep, few, k _ ?_⟩
  subst e2
  exact hS.putD e (m.merge (as := []) (bs := []) True.intro)
end
end Ml
namespace Ml
open PySem PySem.Spec PyProof.Rows L2
end Ml
namespace Ml
open PySem PySem.Spec PyProof.Rows L2
variable {G : Gx} {σ : L2.St} {H : Hp} {L L' : List (Asn G)} {Q : VK} {te ta tb : TE} {D : Ends}
section
variable {τ ρ : Type}
def whileT : Nat → (τ → R Bool) → (τ → R τ) → τ → R τ
  | 0, _, _, _ => .bad
  | n + 1, c, f, s => (c s).bind fun b => if b = true then (f s).bind (whileT n c f) else .ok s
theorem k_whileT {n : Nat} {c : τ → R Bool} {f : τ → R τ} {s : τ} {rest : τ → R ρ} {q : ρ → Prop} {e : Exc → Prop} {tc : TT} {tb : TS} (I : τ → L2.St → Hp → Prop) (h0 : I s σ H) (hm : R.wp ((whileT n c f s).bind rest) q e)
    (test : ∀ s σ H (q' : Bool → Prop) (N : Bool → Hp → Prop), I s σ H → R.wp (c s) q' e → (∀ b H', q' b → I s σ H' → N b H') → tc σ H N)
    (turn : ∀ s σ H (q' : τ → Prop) (N : L2.St → Hp → Prop), I s σ H → R.wp (f s) q' e → (∀ s' σ' H', q' s' → I s' σ' H' → N σ' H') → tb (loopD D N D.nx) σ H)
    (done : ∀ s σ H, R.wp (rest s) q e → I s σ H → D.nx σ H) : tWhile tc tb D σ H := by
  refine ⟨fun m σ H => ∃ s, I s σ H ∧ R.wp (whileT m c f s) (fun s => R.wp (rest s) q e) e, ⟨n, s, h0, R.wp_bind hm⟩, ?_⟩
  rintro m σ H ⟨s, hI, hw⟩
  cases m with
  | zero => exact hw.elim
  | succ m =>
    unfold whileT at hw
    refine test s σ H _ _ hI (R.wp_bind hw) fun b H' hb hI' => ?_
    cases b with
    | false =>
      rw [if_neg Bool.false_ne_true] at hb
      rw [if_neg Bool.false_ne_true]
      exact done s σ H' hb hI'
    | true =>
      rw [if_pos rfl] at hb
      rw [if_pos rfl]
      exact ⟨fun σ' H'' => ∃ s', I s' σ' H'' ∧ R.wp (whileT m c f s') (fun s => R.wp (rest s) q e) e, fun σ' H'' z => ⟨m, Nat.lt_succ_self _, z⟩,
        turn s σ H' _ _ hI' (R.wp_bind hb) fun s' σ' H'' h1 h2 => ⟨s', h2, h1⟩⟩
end
end Ml
namespace Ml
open PySem L2
end Ml
namespace Ml
open PySem PySem.Spec PyProof.Rows L2
end Ml
namespace L2
open PySem PySem.Spec PyProof.Rows
end L2
namespace Ml
open PySem PySem.Spec PyProof.Rows L2
end Ml
namespace Ml
open PySem L2
end Ml
namespace L2
open PySem PySem.Spec PyProof.Rows
end L2
namespace Ml
open PySem L2
end Ml
namespace L2
open PySem PySem.Spec PyProof.Rows
end L2
namespace Ml
open PySem L2
end Ml
namespace Ml
open PySem L2
def repL {α : Type} (xs : List α) (n : Nat) : List α := (List.replicate n xs).flatten
section
variable {G : Gx} {H : Hp} {L : List (Asn G)} {Q : VK} {α : Type} [Im G α]
theorem imL_app2 : ∀ {us vs : List V} {xs ys : List α}, imL (G := G) H us xs → imL (G := G) H vs ys → imL (G := G) H (us ++ vs) (xs ++ ys)
  | [], _, [], _, _, h => h
  | _ :: _, _, _ :: _, _, h, k => ⟨h.1, imL_app2 h.2 k⟩
theorem imL_rep {vs : List V} {xs : List α} (h : imL (G := G) H vs xs) : ∀ n : Nat, imL (G := G) H (List.replicate n vs).flatten (repL xs n)
  | 0 => True.intro
  | n + 1 => by
    unfold repL
    rw [List.replicate_succ, List.flatten_cons, List.replicate_succ, List.flatten_cons]
    exact imL_app2 h (imL_rep h n)
theorem k_rep {i : Nat} {a : Addr} {xs : List α} {k : Int} (hS : Sep H L) (e : L[i]? = some (lstA a xs)) (h1 : -(2 ^ 62) ≤ k ∧ k < 2 ^ 62) (hz : xs.length * k.toNat ≤ sizeLine) (kk : ∀ p H', Sep H' (lstA p (repL xs k.toNat) :: L) → Q (.ref p) H') : rRep (.ref a) (.int k) H Q := by
  obtain ⟨vs, h, m⟩ := hS.lst e
  exact ⟨a, k, vs, rfl, rfl, h, by omega, by omega, by rw [m.len]; exact hz, fun p hp => kk p _ (hS.newL hp (imL_rep m _))⟩
end
end Ml
namespace L2
open PySem PySem.Spec PyProof.Rows
end L2
namespace Ml
open PySem L2
end Ml
namespace Ml
open PySem L2
end Ml
namespace Ml
open PySem PySem.Spec PyProof.Rows L2
end Ml
namespace Ml
open PySem PySem.Spec PyProof.Rows L2
/-- a tuple, its values told -/
structure TupV where
  vs : List V
section
variable {G : Gx} {α β : Type} {H : Hp} {L M : List (Asn G)} {Q : VK} {p : Addr}
instance imTupV : Im G TupV := ⟨fun H v x => ∃ a, v = .ref a ∧ H a = some (.tup x.vs), fun ⟨a, e, h⟩ s => ⟨a, e, s.1 a _ h rfl⟩⟩
variable [Im G α] [Im G β]
end
end Ml
namespace Ml
open PySem PySem.Spec PyProof.Rows L2
end Ml
namespace Ml
open PySem L2
/-- a field, within a comprehension: its fragment told -/
theorem pe_fldK {X : Cx} {e : Expr} {f : Str} {pos : Pos} {ta : TE} (K : PySem.W.Frag) (he : PE X e ta) (hb : attributeBase e f X.env (eval e X.env) = eval e X.env := by rfl) (hK : X.K = K := by rfl) : PE X (.Attribute e f pos) (tFld K ta f) := by
  subst hK; exact pe_fld he hb
end Ml
namespace Ml
open PySem PySem.Spec PyProof.Rows L2
variable {G : Gx}
section
variable {κ β : Type} [DecidableEq κ] [Kx κ] [Im G β] {H : Hp} {L L' : List (Asn G)} {σ : L2.St} {Q : VK} {te td ty tx : TE} {k : κ} {a : Addr} {xs : List (κ × β)} {i : Nat}
def get2K (ty tx : TE) (σ : L2.St) (Q : VK) : VK := fun x H1 => ∃ a, x = .ref a ∧ IsD H1 a ∧ ty σ H1 fun y H2 => tx σ H2 fun z H3 => ∃ o, DGet H3 a y o ∧ Q (o.getD z) H3
def get2K2 (a : Addr) (tx : TE) (σ : L2.St) (Q : VK) : VK := fun y H2 => tx σ H2 fun z H3 => ∃ o, DGet H3 a y o ∧ Q (o.getD z) H3
def get2K3 (a : Addr) (y : V) (Q : VK) : VK := fun z H3 => ∃ o, DGet H3 a y o ∧ Q (o.getD z) H3
theorem c_dget2 (h : td σ H (get2K ty tx σ Q)) : tDGet2 td ty tx σ H Q := h
theorem k_get2a (d : IsD H a) (h : ty σ H (get2K2 a tx σ Q)) : get2K ty tx σ Q (.ref a) H := ⟨a, rfl, d, h⟩
theorem k_get2b {y : V} (h : tx σ H (get2K3 a y Q)) : get2K2 a tx σ Q y H := h
def pop1K (ty : TE) (σ : L2.St) (Q : VK) : VK := fun x H1 => ∃ a, x = .ref a ∧ IsD H1 a ∧ ty σ H1 fun y H2 => ∃ kvs k v, H2 a = some (.dK kvs) ∧ y = kV k ∧ valV kvs k = some v ∧ Q v (upd H2 a (.dK (dropK kvs k)))
def pop1K2 (a : Addr) (Q : VK) : VK := fun y H2 => ∃ kvs k v, H2 a = some (.dK kvs) ∧ y = kV k ∧ valV kvs k = some v ∧ Q v (upd H2 a (.dK (dropK kvs k)))
theorem c_dpop1 (h : td σ H (pop1K ty σ Q)) : tDPop1 td ty σ H Q := h
theorem k_pop1a (d : IsD H a) (h : ty σ H (pop1K2 a Q)) : pop1K ty σ Q (.ref a) H := ⟨a, rfl, d, h⟩
theorem k_pop1A {y : β} (hS : Sep H L) (e : L[i]? = some (dictA a xs)) (h : dget xs k = some y) (e2 : L.set i (dictA a (ddrop xs k)) = L') (q : ∀ v H', Sep H' (imA v y :: L') → Q v H') : pop1K2 a Q (kV (Kx.key k)) H := by
  obtain ⟨ps, hp, m⟩ := hS.dict e
  obtain ⟨v, hv, hm⟩ := (m.val k).1 y h
  refine ⟨ps, Kx.key k, v, hp, rfl, hv, q v _ ?_⟩
  subst e2
  have h1 := (hS.addIm hm).putD (i := i + 1) (a := a) (xs := xs) (ys := ddrop xs k) (ps := dropK ps (Kx.key k)) (by simpa using e) (m.drop k)
  simpa using h1
theorem ddrop_no (h : dget xs k = none) : ddrop xs k = xs := by
  unfold dget at h
  unfold ddrop
  refine List.filter_eq_self.mpr fun p hp => ?_
  rw [Option.map_eq_none_iff] at h
  have := List.find?_eq_none.mp h p hp
  simpa using this
def setdK (ty tx : TE) (σ : L2.St) (Q : VK) : VK := fun x H1 => ∃ a, x = .ref a ∧ IsD H1 a ∧ ty σ H1 fun y H2 => tx σ H2 fun z H3 => ∃ (kvs : List (Key × V)) (k : Key), H3 a = some (.dK kvs) ∧ y = kV k ∧ kvs.length < sizeLine ∧
  (∀ v, valV kvs k = some v → Q v H3) ∧ (valV kvs k = none → Q z (upd H3 a (.dK (putK kvs k z))))
def setdK2 (a : Addr) (tx : TE) (σ : L2.St) (Q : VK) : VK := fun y H2 => tx σ H2 fun z H3 => ∃ (kvs : List (Key × V)) (k : Key), H3 a = some (.dK kvs) ∧ y = kV k ∧ kvs.length < sizeLine ∧
  (∀ v, valV kvs k = some v → Q v H3) ∧ (valV kvs k = none → Q z (upd H3 a (.dK (putK kvs k z))))
def setdK3 (a : Addr) (y : V) (Q : VK) : VK := fun z H3 => ∃ (kvs : List (Key × V)) (k : Key), H3 a = some (.dK kvs) ∧ y = kV k ∧ kvs.length < sizeLine ∧
  (∀ v, valV kvs k = some v → Q v H3) ∧ (valV kvs k = none → Q z (upd H3 a (.dK (putK kvs k z))))
theorem c_dsetd (h : td σ H (setdK ty tx σ Q)) : tDSetd td ty tx σ H Q := h
theorem k_setda (d : IsD H a) (h : ty σ H (setdK2 a tx σ Q)) : setdK ty tx σ Q (.ref a) H := ⟨a, rfl, d, h⟩
theorem k_setdb {y : V} (h : tx σ H (setdK3 a y Q)) : setdK2 a tx σ Q y H := h
end
section
variable {κ β : Type} [DecidableEq κ] [Kx κ] {H : Hp} {M : List (Asn G)} {σ : L2.St} {Q : VK} {te td ty tx : TE} {k : κ} {a : Addr} {kvs : List (κ × β)} {E : Addr → β → Asn G}
/-- the dict's own cell (locked or not), and all it holds -/
def dictX (u : HO → HO) (E : Addr → β → Asn G) (a : Addr) (ps : List Addr) (kvs : List (κ × β)) : Asn G := star (cell a (u (.dK (refsD kvs ps))) :: elemsE E (ps.zip (kvs.map (·.2))))
def dictXH (u : HO → HO) (E : Addr → β → Asn G) (a : Addr) (ps : List Addr) (kvs : List (κ × β)) (j : Nat) : Asn G := star (cell a (u (.dK (refsD kvs ps))) :: elemsE E ((ps.zip (kvs.map (·.2))).eraseIdx j))
theorem refs_get {ps : List Addr} {j : Nat} {y : β} (hl : ps.length = kvs.length) (hn : (kvs.map (·.1)).Nodup) (hj : kvs[j]? = some (k, y)) : ∃ p, ps[j]? = some p ∧ valV (refsD kvs ps) (Kx.key k) = some (.ref p) := by
  have hlt : j < kvs.length := (List.getElem?_eq_some_iff.mp hj).1
  have hp : ps[j]? = some ps[j] := List.getElem?_eq_getElem (by omega)
  exact ⟨ps[j], hp, refs_val hl hn hj hp⟩
theorem refs_none {ps : List Addr} (hl : ps.length = kvs.length) (h : dget kvs k = none) : valV (refsD kvs ps) (Kx.key k) = none := by
  induction kvs generalizing ps with
  | nil => cases ps <;> rfl
  | cons kv r ih =>
    cases ps with
    | nil => rfl
    | cons p ps =>
      have hk : ¬ kv.1 = k := fun e => by
        unfold dget at h
        rw [List.find?_cons_of_pos (by simpa using e)] at h
        cases h
      have h2 : dget r k = none := by
        unfold dget at h ⊢
        rw [List.find?_cons_of_neg (by simpa using hk)] at h
        exact h
      have hk2 : ¬ Kx.key kv.1 = Kx.key k := fun e => hk (Kx.inj e)
      show valV ((Kx.key kv.1, V.ref p) :: refsD r ps) (Kx.key k) = none
      rw [valV_neg hk2]
      exact ih (by simpa using hl) h2
theorem dictE_X (h : Sep H (dictE E a kvs :: M)) : ∃ ps, (ps.length = kvs.length ∧ (kvs.map (·.1)).Nodup) ∧ Sep H (dictX id E a ps kvs :: M) := by
  obtain ⟨ps, h⟩ := Sep.ex h
  obtain ⟨hl, h⟩ := Sep.and h
  exact ⟨ps, hl, h⟩
theorem dictX_E {ps : List Addr} (hl : ps.length = kvs.length ∧ (kvs.map (·.1)).Nodup) (h : Sep H (dictX id E a ps kvs :: M)) : Sep H (dictE E a kvs :: M) := Sep.exI ps (Sep.andI hl h)
theorem dictX_cell {u : HO → HO} {ps : List Addr} (h : Sep H (dictX u E a ps kvs :: M)) : H a = some (u (.dK (refsD kvs ps))) := (Sep.star1 h).getCell (i := 0) rfl
theorem dictE_cell (h : Sep H (dictE E a kvs :: M)) : ∃ ps, (ps.length = kvs.length ∧ (kvs.map (·.1)).Nodup) ∧ H a = some (.dK (refsD kvs ps)) := by
  obtain ⟨ps, hl, h⟩ := dictE_X h
  exact ⟨ps, hl, dictX_cell h⟩
theorem isD_E (h : Sep H (dictE E a kvs :: M)) : IsD H a := by
  obtain ⟨ps, _, hc⟩ := dictE_cell h
  exact .inl ⟨_, .inl hc⟩
theorem outX {u : HO → HO} {ps : List Addr} {j : Nat} {y : β} {p : Addr} (h : Sep H (dictX u E a ps kvs :: M)) (hj : kvs[j]? = some (k, y)) (hp : ps[j]? = some p) : Sep H (E p y :: dictXH u E a ps kvs j :: M) := by
  have h := Sep.star1 h
  have hz : (ps.zip (kvs.map (·.2)))[j]? = some (p, y) := by
    rw [List.getElem?_zip_eq_some]; exact ⟨hp, by rw [List.getElem?_map, hj]; rfl⟩
  have hz2 : (elemsE E (ps.zip (kvs.map (·.2))))[j]? = some (E p y) := by unfold elemsE; rw [List.getElem?_map, hz]; rfl
  have e : (elemsE E (ps.zip (kvs.map (·.2)))).eraseIdx j = elemsE E ((ps.zip (kvs.map (·.2))).eraseIdx j) := by unfold elemsE; rw [erase_map]
  have P := perm_out hz2
  rw [e] at P
  have h2 : Sep H (E p y :: ((cell a (u (.dK (refsD kvs ps))) :: elemsE E ((ps.zip (kvs.map (·.2))).eraseIdx j)) ++ M)) := by
    refine h.perm ?_
    have := (P.symm.cons (cell (G := G) a (u (.dK (refsD kvs ps))))).append_right M
    exact this.trans (by exact List.Perm.swap _ _ _)
  have h3 : Sep H ((cell a (u (.dK (refsD kvs ps))) :: elemsE E ((ps.zip (kvs.map (·.2))).eraseIdx j)) ++ (E p y :: M)) := h2.perm (List.perm_middle.symm)
  exact (Sep.unstar1 h3).perm (List.Perm.swap _ _ _)
theorem set_keys {j : Nat} {y z : β} (hj : kvs[j]? = some (k, y)) : (kvs.set j (k, z)).map (·.1) = kvs.map (·.1) := by
  have hlt : j < kvs.length := (List.getElem?_eq_some_iff.mp hj).1
  have hget : kvs[j] = (k, y) := by rw [List.getElem?_eq_getElem hlt] at hj; exact Option.some.inj hj
  rw [List.map_set]
  have : (kvs.map (·.1))[j]'(by simpa using hlt) = k := by rw [List.getElem_map, hget]
  rw [← this]
  exact List.set_getElem_self _
theorem refs_same : ∀ {l l' : List (κ × β)} {qs : List Addr}, l.map (·.1) = l'.map (·.1) → refsD l qs = refsD l' qs
  | [], [], _, _ => rfl
  | x :: l, y :: l', [], _ => rfl
  | x :: l, y :: l', q :: qs, h => by
    rw [List.map_cons, List.map_cons] at h
    injection h with h1 h2
    show (Kx.key x.1, V.ref q) :: refsD l qs = (Kx.key y.1, V.ref q) :: refsD l' qs
    rw [h1, refs_same h2]
  | [], _ :: _, _, h => by simp at h
  | _ :: _, [], _, h => by simp at h
theorem inX {u : HO → HO} {ps : List Addr} {j : Nat} {y z : β} {p : Addr} (hl : ps.length = kvs.length ∧ (kvs.map (·.1)).Nodup) (hj : kvs[j]? = some (k, y)) (hp : ps[j]? = some p) (h : Sep H (E p z :: dictXH u E a ps kvs j :: M)) : Sep H (dictX u E a ps (dput kvs k z) :: M) := by
  rw [put_at hl.2 hj]
  have hlt : j < kvs.length := (List.getElem?_eq_some_iff.mp hj).1
  have er : refsD (kvs.set j (k, z)) ps = refsD kvs ps := refs_same (set_keys hj)
  have ez : (kvs.set j (k, z)).map (·.2) = (kvs.map (·.2)).set j z := by rw [List.map_set]
  have h2 : Sep H (dictXH u E a ps kvs j :: (E p z :: M)) := h.perm (List.Perm.swap _ _ _)
  have h3 := Sep.star1 h2
  have hz : (ps.zip ((kvs.set j (k, z)).map (·.2)))[j]? = some (p, z) := by
    rw [ez, List.getElem?_zip_eq_some]
    exact ⟨hp, by rw [List.getElem?_set_self (by simpa using hlt)]⟩
  have hz2 : (elemsE E (ps.zip ((kvs.set j (k, z)).map (·.2))))[j]? = some (E p z) := by unfold elemsE; rw [List.getElem?_map, hz]; rfl
  have e : (elemsE E (ps.zip ((kvs.set j (k, z)).map (·.2)))).eraseIdx j = elemsE E ((ps.zip (kvs.map (·.2))).eraseIdx j) := by
    unfold elemsE
    rw [erase_map, ez, zip_hole (by rw [List.length_map]; exact hl.1)]
  have P := perm_out hz2
  rw [e] at P
  unfold dictX
  rw [er]
  refine Sep.unstar1 (h3.perm ?_)
  have q1 : ((cell a (u (.dK (refsD kvs ps))) :: elemsE E ((ps.zip (kvs.map (·.2))).eraseIdx j)) ++ (E p z :: M)).Perm (E p z :: ((cell a (u (.dK (refsD kvs ps))) :: elemsE E ((ps.zip (kvs.map (·.2))).eraseIdx j)) ++ M)) := List.perm_middle
  refine q1.trans ?_
  have := (P.cons (cell (G := G) a (u (.dK (refsD kvs ps))))).append_right M
  exact (List.Perm.swap _ _ _).trans this
theorem keys_put {j : Nat} {y z : β} (hn : (kvs.map (·.1)).Nodup) (hj : kvs[j]? = some (k, y)) : (dput kvs k z).map (·.1) = kvs.map (·.1) := by rw [put_at hn hj, set_keys hj]
/-- d[k], an own thing: taken out -/
theorem k_dgetE (h : Sep H (dictE E a kvs :: M)) {y : β} (hk : dget kvs k = some y) (q : ∀ ps p j, (ps.length = kvs.length ∧ (kvs.map (·.1)).Nodup) → kvs[j]? = some (k, y) → ps[j]? = some p → Sep H (E p y :: dictXH id E a ps kvs j :: M) → Q (.ref p) H) : dgetK2 (.ref a) Q (kV (Kx.key k)) H := by
  obtain ⟨ps, hl, h⟩ := dictE_X h
  obtain ⟨j, hj⟩ := dget_idx hk
  obtain ⟨p, hp, e⟩ := refs_get hl.1 hl.2 hj
  exact ⟨a, .ref p, rfl, .inl ⟨_, Kx.key k, .inl (dictX_cell h), rfl, e.symm⟩, q ps p j hl hj hp (outX h hj hp)⟩
theorem unfocDE {ps : List Addr} {j : Nat} {y z : β} {p : Addr} (hl : ps.length = kvs.length ∧ (kvs.map (·.1)).Nodup) (hj : kvs[j]? = some (k, y)) (hp : ps[j]? = some p) (h : Sep H (E p z :: dictXH id E a ps kvs j :: M)) : Sep H (dictE E a (dput kvs k z) :: M) :=
  dictX_E ⟨by rw [hl.1, ← List.length_map (·.1), ← keys_put (z := z) hl.2 hj, List.length_map], by rw [keys_put hl.2 hj]; exact hl.2⟩ (inX hl hj hp h)
theorem put_same {j : Nat} {y : β} (hn : (kvs.map (·.1)).Nodup) (hj : kvs[j]? = some (k, y)) : dput kvs k y = kvs := by
  rw [put_at hn hj]
  obtain ⟨h1, h2⟩ := List.getElem?_eq_some_iff.mp hj
  rw [← h2]; exact List.set_getElem_self h1
theorem unfocDE0 {ps : List Addr} {j : Nat} {y : β} {p : Addr} (hl : ps.length = kvs.length ∧ (kvs.map (·.1)).Nodup) (hj : kvs[j]? = some (k, y)) (hp : ps[j]? = some p) (h : Sep H (E p y :: dictXH id E a ps kvs j :: M)) : Sep H (dictE E a kvs :: M) := by
  have := unfocDE hl hj hp h
  rw [put_same hl.2 hj] at this; exact this
theorem drop_map {γ : Type} (f : κ × β → γ) : ∀ {l : List (κ × β)} {j : Nat} {y : β}, (l.map (·.1)).Nodup → l[j]? = some (k, y) → ddrop l k = l.eraseIdx j
  | [], _, _, _, h => by simp at h
  | x :: r, 0, y, hn, h => by
    have e : x = (k, y) := by simpa using h
    rw [List.map_cons, List.nodup_cons] at hn
    unfold ddrop
    rw [List.filter_cons_of_neg (by simp [e])]
    refine List.filter_eq_self.mpr fun z hz => ?_
    have : z.1 ≠ k := fun ez => hn.1 (by rw [e]; exact List.mem_map.mpr ⟨z, hz, ez⟩)
    simpa using this
  | x :: r, j + 1, y, hn, h => by
    have h2 : r[j]? = some (k, y) := by simpa using h
    rw [List.map_cons, List.nodup_cons] at hn
    have ne : x.1 ≠ k := fun z => hn.1 (by rw [z]; exact List.mem_map.mpr ⟨(k, y), List.mem_of_getElem? h2, rfl⟩)
    have ih := drop_map f hn.2 h2
    unfold ddrop at ih ⊢
    rw [List.filter_cons_of_pos (by simpa using ne), ih]
    rfl
theorem dropK_refs : ∀ {l : List (κ × β)} {qs : List Addr} {j : Nat} {y : β}, qs.length = l.length → (l.map (·.1)).Nodup → l[j]? = some (k, y) → dropK (refsD l qs) (Kx.key k) = refsD (l.eraseIdx j) (qs.eraseIdx j)
  | [], _, _, _, _, _, h => by simp at h
  | x :: r, [], _, _, hl, _, _ => by simp at hl
  | x :: r, q :: qs, 0, y, hl, hn, h => by
    have e : x = (k, y) := by simpa using h
    rw [List.map_cons, List.nodup_cons] at hn
    show dropK ((Kx.key x.1, V.ref q) :: refsD r qs) (Kx.key k) = refsD r qs
    unfold dropK
    rw [List.filter_cons_of_neg (by simp [e])]
    refine List.filter_eq_self.mpr fun z hz => ?_
    have : z.1 ∈ r.map (fun kv => Kx.key kv.1) := by
      have : ∀ {l : List (κ × β)} {qs : List Addr} {z : Key × V}, z ∈ refsD l qs → z.1 ∈ l.map (fun kv => Kx.key kv.1) := by
        intro l
        induction l with
        | nil => intro qs z hz; cases qs <;> cases hz
        | cons a l ih =>
          intro qs z hz
          cases qs with
          | nil => cases hz
          | cons b qs =>
            rcases List.mem_cons.mp (show z ∈ (Kx.key a.1, V.ref b) :: refsD l qs from hz) with rfl | hz
            · simp
            · rw [List.map_cons]; exact List.mem_cons_of_mem _ (ih hz)
      exact this hz
    obtain ⟨w, hw, ew⟩ := List.mem_map.mp this
    have : z.1 ≠ Kx.key k := fun ez => hn.1 (by rw [e]; exact List.mem_map.mpr ⟨w, hw, Kx.inj (ew.trans ez)⟩)
    simpa using this
  | x :: r, q :: qs, j + 1, y, hl, hn, h => by
    have h2 : r[j]? = some (k, y) := by simpa using h
    rw [List.map_cons, List.nodup_cons] at hn
    have ne : x.1 ≠ k := fun z => hn.1 (by rw [z]; exact List.mem_map.mpr ⟨(k, y), List.mem_of_getElem? h2, rfl⟩)
    have ne2 : ¬ Kx.key x.1 = Kx.key k := fun z => ne (Kx.inj z)
    have ih := dropK_refs (l := r) (qs := qs) (by simpa using hl) hn.2 h2
    show dropK ((Kx.key x.1, V.ref q) :: refsD r qs) (Kx.key k) = (Kx.key x.1, V.ref q) :: refsD (r.eraseIdx j) (qs.eraseIdx j)
    unfold dropK at ih ⊢
    rw [List.filter_cons_of_pos (by simpa using ne2), ih]
theorem zip_erase {α γ : Type} : ∀ {l : List α} {m : List γ} {j : Nat}, l.length = m.length → (l.zip m).eraseIdx j = (l.eraseIdx j).zip (m.eraseIdx j)
  | [], [], _, _ => rfl
  | x :: l, y :: m, 0, _ => rfl
  | x :: l, y :: m, j + 1, h => by
    show (x, y) :: (l.zip m).eraseIdx j = (x, y) :: (l.eraseIdx j).zip (m.eraseIdx j)
    rw [zip_erase (by simpa using h)]
  | [], _ :: _, _, h => by simp at h
  | _ :: _, [], _, h => by simp at h
/-- d.pop(k), an own thing -/
theorem k_pop1E (h : Sep H (dictE E a kvs :: M)) {y : β} (hk : dget kvs k = some y) (q : ∀ p H', Sep H' (E p y :: dictE E a (ddrop kvs k) :: M) → Q (.ref p) H') : pop1K2 a Q (kV (Kx.key k)) H := by
  obtain ⟨ps, hl, h⟩ := dictE_X h
  obtain ⟨j, hj⟩ := dget_idx hk
  obtain ⟨p, hp, e⟩ := refs_get hl.1 hl.2 hj
  refine ⟨refsD kvs ps, Kx.key k, .ref p, dictX_cell h, rfl, e, q p _ ?_⟩
  have h2 : Sep H (dictXH id E a ps kvs j :: E p y :: M) := (outX h hj hp).perm (List.Perm.swap _ _ _)
  have h3 := Sep.star1 h2
  have h4 := h3.put (i := 0) (a := a) (o := .dK (refsD kvs ps)) (o' := .dK (dropK (refsD kvs ps) (Kx.key k))) rfl rfl rfl
  have ed : ddrop kvs k = kvs.eraseIdx j := drop_map (fun z => z) hl.2 hj
  have lj : j < kvs.length := (List.getElem?_eq_some_iff.mp hj).1
  have er := dropK_refs hl.1 hl.2 hj
  rw [er] at h4 ⊢
  rw [ed]
  refine Sep.perm (Sep.exI (ps.eraseIdx j) (Sep.andI ⟨by rw [List.length_eraseIdx, List.length_eraseIdx, hl.1], ?_⟩ (Sep.unstar1 ?_)) : Sep _ (dictE E a (kvs.eraseIdx j) :: E p y :: M)) (List.Perm.swap _ _ _)
  · rw [← erase_map]
    exact hl.2.sublist (List.eraseIdx_sublist ..)
  · have ez : (ps.eraseIdx j).zip ((kvs.eraseIdx j).map (·.2)) = (ps.zip (kvs.map (·.2))).eraseIdx j := by
      rw [← erase_map, zip_erase (by rw [List.length_map]; exact hl.1)]
    rw [ez]
    exact h4
theorem k_newE' (h : Sep H (dictE E a kvs :: E p y :: M)) (hk : dhas kvs k = false) (hz : kvs.length < sizeLine) {P : Hp → Prop} (q : ∀ H', Sep H' (dictE E a (kvs ++ [(k, y)]) :: M) → P H') : rSetD (.ref a) (kV (Kx.key k)) (.ref p) H P :=
  k_newE h (fun hm => by
    obtain ⟨z, hz, e⟩ := List.mem_map.mp hm
    unfold dhas dget at hk
    rw [Option.isSome_map] at hk
    have : (kvs.find? fun kv => decide (kv.1 = k)).isSome = true := List.find?_isSome.mpr ⟨z, hz, by simpa using e⟩
    rw [this] at hk; cases hk) hz q
theorem newE0 {p : Addr} (hp : H p = none) (hS : Sep H M) : Sep (upd H p (.dK [])) (dictE E p ([] : List (κ × β)) :: M) :=
  Sep.exI [] (Sep.andI ⟨rfl, List.nodup_nil⟩ (Sep.unstar1 (L := [cell p (.dK [])]) (hS.new (o := .dK []) hp rfl)))
theorem k_dnewE (hS : Sep H M) (q : ∀ p H', Sep H' (dictE E p ([] : List (κ × β)) :: M) → Q (.ref p) H') : tDNewK σ H Q := fun p hp => q p _ (newE0 hp hS)
end
section
variable {β : Type} [Im G β] {H : Hp} {L L' : List (Asn G)} {Q : VK} {a b : Addr} {i : Nat} {xs : List (Kt × β)} {k : Kt}
theorem imDT.drop : ∀ {ps : List (List Key × V)} {qs : List (Kt × β)} (k : Kt), imDT (G := G) H ps qs → imDT (G := G) H (dropK ps k.ks) (ddrop qs k)
  | [], [], _, _ => True.intro
  | p :: ps, q :: qs, k, ⟨⟨e1, e2⟩, h⟩ => by
    have ih := imDT.drop k h
    unfold dropK ddrop at ih ⊢
    rw [List.filter_cons, List.filter_cons]
    by_cases c : q.1 = k
    · have c1 : p.1 = k.ks := by rw [e1, c]
      simp only [c, c1, ne_eq, not_true_eq_false, decide_false, Bool.false_eq_true, if_false]
      exact ih
    · have c1 : ¬ p.1 = k.ks := fun z => c (Kt.inj (e1.symm.trans z))
      simp only [c, c1, ne_eq, not_false_eq_true, decide_true, if_true]
      exact ⟨⟨e1, e2⟩, ih⟩
  | [], _ :: _, _, h => h.elim
  | _ :: _, [], _, h => h.elim
end
end Ml
namespace Ml
open PySem PySem.W PySem.Calls PyProof.Rows PyProof.V PySem.Spec
end Ml
namespace Ml
open PySem PySem.Spec PyProof.Rows L2 L2.DX
end Ml
namespace Ml
open PySem PySem.Spec PyProof.Rows L2
variable {G : Gx}
section
variable {κ β : Type} [DecidableEq κ] [Kx κ] {H : Hp} {L : List (Asn G)} {σ : L2.St} {Q : VK} {td ty : TE} {k : κ} {a : Addr} {i : Nat} {kvs : List (κ × β)} {E : Addr → β → Asn G}
theorem sat_front {A : Asn G} (h : Sep H L) (e : L[i]? = some A) : ∃ M, Sep H (A :: M) := ⟨_, h.perm (pull_perm e)⟩
theorem isD_Ei (h : Sep H L) (e : L[i]? = some (dictE E a kvs)) : IsD H a := by
  obtain ⟨M, h⟩ := sat_front h e
  exact isD_E h
theorem wp_dgetX {ρ β : Type} {kvs : List (κ × β)} {q : ρ → Prop} {e : Exc → Prop} {f : β → R ρ} (h : R.wp ((dgetR kvs k).bind f) q e) : ∃ y, dget kvs k = some y ∧ R.wp (f y) q e := by
  unfold dgetR at h
  cases c : dget kvs k with
  | none => rw [c] at h; exact h.elim
  | some y => rw [c] at h; exact ⟨y, rfl, h⟩
end
end Ml
namespace Ml
open PySem PySem.Spec PyProof.Rows L2
variable {G : Gx} {H : Hp} {L L' : List (Asn G)}
def fldaugK (K : PySem.W.Frag) (tv : TE) (rd : V → V → Hp → VK → Prop) (f : Str) (D : Ends) (σ : L2.St) : VK := fun x H1 => ∃ a C dx fs v, x = .ref a ∧ H1 a = some (.ins C dx fs) ∧ Cls K C ∧ NoAttr K C f ∧ fs.lookup f = some v ∧
  tv σ H1 fun y H2 => rd v y H2 fun z H3 => ∃ dx' fs', H3 a = some (.ins C dx' fs') ∧ fs'.length < 1000 ∧ D.nx σ (upd H3 a (.ins C dx' (putF f z fs')))
theorem c_fldaug {K : PySem.W.Frag} {ta tv : TE} {rd : V → V → Hp → VK → Prop} {f : Str} {D : Ends} {σ : L2.St} (h : ta σ H (fldaugK K tv rd f D σ)) : sFldAug K ta tv rd f D σ H := h
theorem k_fldaug2 {a C dx : Addr} {i : Nat} {fs fs' : List (Str × V)} {f : Str} {z : V} {D : Ends} {σ : L2.St} (hS : Sep H L) (e : L[i]? = some (cell a (.ins C dx fs))) (hl : fs.length < 1000) (np : per G (.ins C dx fs') = false) (ef : putF f z fs = fs')
    (k : ∀ H', Sep H' (L.set i (cell a (.ins C dx fs'))) → D.nx σ H') : ∃ dx' fs'', H a = some (.ins C dx' fs'') ∧ fs''.length < 1000 ∧ D.nx σ (upd H a (.ins C dx' (putF f z fs''))) := by
  refine ⟨dx, fs, hS.getCell e, hl, ?_⟩
  rw [ef]
  exact k _ (hS.put e np rfl)
end Ml
namespace Ml
open PySem PySem.Spec PyProof.Rows L2
end Ml
namespace Ml
open PySem PySem.Spec PyProof.Rows L2
variable {G : Gx}
theorem m1 {X : Cx} {o : Expr} {m : Str} {apos : Pos} {e : Expr} {cpos : Pos} (base : attributeBase o m X.env (eval o X.env) = eval o X.env := by rfl)
  (few : ((backTo cpos (starEach [e] X.env)).all (fun x => !x.1) && (backToKw cpos (keywordEach [] X.env)).all (fun x => x.1.isSome)
    && decide (([e] : List Expr).length + ([] : List Keyword).length + (if ([] : List Keyword).isEmpty then 0 else 1) < 30)) = true := by rfl)
  (line : (apos.endLine == cpos.line) = true := by rfl) (trees : backTo cpos (starEach [e] X.env) = [(false, eval e X.env)] := by rfl) : M1 X o m apos e cpos := ⟨base, few, line, trees⟩
end Ml
namespace Ml
open PySem PySem.Spec PyProof.Rows L2
end Ml
namespace Ml
open PySem PySem.Spec PyProof.Rows L2
end Ml
namespace Ml
open PySem PySem.Spec PyProof.Rows L2
end Ml
namespace Ml
open PySem PySem.Spec PyProof.Rows L2
structure Opq where
variable {G : Gx} {H : Hp}
instance imOpq : Im G Opq := ⟨fun _ _ _ => True, fun _ _ => trivial⟩
end Ml
namespace L2
open PySem PySem.Spec PyProof.Rows Ml
end L2
namespace Ml
open PySem PySem.Spec PyProof.Rows L2
end Ml
namespace Ml
open PySem PySem.Spec PyProof.Rows L2
end Ml
namespace Ml
open PySem PySem.Spec PyProof.Rows L2
end Ml
namespace Ml
open PySem PySem.Spec PyProof.Rows L2
end Ml
namespace Ml
open PySem PySem.Spec PyProof.Rows L2
section
variable {G : Gx} {κ β : Type} [DecidableEq κ] [Kx κ] {H : Hp} {M : List (Asn G)} {a : Addr} {kvs : List (κ × β)} {k : κ} {E : Addr → β → Asn G} {Q : VK}
theorem newX_sep {ps : List Addr} {p : Addr} {y : β} (hl : ps.length = kvs.length ∧ (kvs.map (·.1)).Nodup) (hk : ¬ k ∈ kvs.map (·.1)) (h : Sep H ((cell a (.dK (refsD kvs ps)) :: elemsE E (ps.zip (kvs.map (·.2)))) ++ (E p y :: M))) :
    ((ps ++ [p]).length = (kvs ++ [(k, y)]).length ∧ ((kvs ++ [(k, y)]).map (·.1)).Nodup) ∧ Sep (upd H a (.dK (putK (refsD kvs ps) (Kx.key k) (.ref p)))) (dictX id E a (ps ++ [p]) (kvs ++ [(k, y)]) :: M) := by
  have h2 := h.put (i := 0) (a := a) (o := .dK (refsD kvs ps)) (o' := .dK (putK (refsD kvs ps) (Kx.key k) (.ref p))) rfl rfl rfl
  refine ⟨⟨by rw [List.length_append, List.length_append, hl.1]; rfl, ?_⟩, Sep.unstar1 ?_⟩
  · rw [List.map_append, List.nodup_append]
    refine ⟨hl.2, by simp, fun x hx z hz => ?_⟩
    rw [List.map_singleton, List.mem_singleton] at hz
    intro e
    have hz : z = k := hz
    exact hk (by rw [← hz, ← e]; exact hx)
  · have e1 : elemsE E ((ps ++ [p]).zip ((kvs ++ [(k, y)]).map (·.2))) = elemsE E (ps.zip (kvs.map (·.2))) ++ [E p y] := by
      unfold elemsE
      rw [List.map_append, List.zip_append (by rw [List.length_map]; exact hl.1), List.map_append]
      rfl
    rw [e1, ← refs_new (y := y) hl.1 hk]
    have : ((cell a (.dK (putK (refsD kvs ps) (Kx.key k) (.ref p))) :: elemsE E (ps.zip (kvs.map (·.2)))) ++ (E p y :: M)) = ((cell a (.dK (putK (refsD kvs ps) (Kx.key k) (.ref p))) :: (elemsE E (ps.zip (kvs.map (·.2))) ++ [E p y])) ++ M) := by simp
    show Sep _ ((cell a (.dK (putK (refsD kvs ps) (Kx.key k) (.ref p))) :: (elemsE E (ps.zip (kvs.map (·.2))) ++ [E p y])) ++ M)
    rw [← this]
    exact h2
theorem k_setdE3 {p0 : Addr} {z : β} (h : Sep H (dictE E a kvs :: E p0 z :: M)) (hz : kvs.length < sizeLine)
    (q : ∀ ps p j H', (ps.length = (setE kvs k z).length ∧ ((setE kvs k z).map (·.1)).Nodup) → (setE kvs k z)[j]? = some (k, (dget kvs k).getD z) → ps[j]? = some p → Sep H' (E p ((dget kvs k).getD z) :: dictXH id E a ps (setE kvs k z) j :: M) → Q (.ref p) H') :
    setdK3 a (kV (Kx.key k)) Q (.ref p0) H := by
  obtain ⟨ps, hl, h⟩ := dictE_X h
  refine ⟨refsD kvs ps, Kx.key k, dictX_cell h, rfl, by rw [refs_len hl.1]; exact hz, fun v hv => ?_, fun hv => ?_⟩
  · cases e : dget kvs k with
    | none => rw [refs_none hl.1 e] at hv; cases hv
    | some y =>
      obtain ⟨j, hj⟩ := dget_idx e
      have eE : setE kvs k z = kvs := by unfold setE dhas; rw [e]; rfl
      obtain ⟨p, hp, e2⟩ := refs_get hl.1 hl.2 hj
      rw [e2] at hv
      cases hv
      rw [e, eE] at q
      exact q ps p j H hl hj hp (outX (Sep.tail (h.perm (List.Perm.swap _ _ _))) hj hp)
  · cases e : dget kvs k with
    | some y =>
      exfalso
      obtain ⟨j, hj⟩ := dget_idx e
      obtain ⟨p, hp, e2⟩ := refs_get hl.1 hl.2 hj
      rw [e2] at hv; cases hv
    | none =>
      have eE : setE kvs k z = kvs ++ [(k, z)] := by unfold setE dhas; rw [e]; rfl
      obtain ⟨hl2, h2⟩ := newX_sep (k := k) hl (dhas_no e) (Sep.star1 h)
      have hj : (kvs ++ [(k, z)])[kvs.length]? = some (k, z) := by simp
      have hp : (ps ++ [p0])[kvs.length]? = some p0 := by rw [← hl.1]; simp
      rw [e, eE] at q
      exact q (ps ++ [p0]) p0 kvs.length _ hl2 hj hp (outX h2 hj hp)
end
end Ml
namespace Ml
open PySem PySem.Spec PyProof.Rows L2
end Ml
namespace Ml
open PySem PySem.Spec PyProof.Rows L2
theorem map_same {κ : Type} [DecidableEq κ] {k : κ} {v : V} : ∀ {ks : List (κ × V)}, (ks.map (·.1)).Nodup → valV ks k = some v → ks.map (fun kv => if kv.1 = k then (kv.1, v) else kv) = ks
  | [], _, _ => rfl
  | p :: r, nd, h => by
    rw [List.map_cons, List.nodup_cons] at nd
    rw [List.map_cons]
    by_cases e : p.1 = k
    · rw [valV_pos e] at h
      have hv : p.2 = v := Option.some.inj h
      have hr : r.map (fun kv => if kv.1 = k then (kv.1, v) else kv) = r := by
        refine (List.map_congr_left fun q hq => ?_).trans (List.map_id r)
        have : ¬ q.1 = k := fun z => nd.1 (by rw [e, ← z]; exact List.mem_map.mpr ⟨q, hq, rfl⟩)
        rw [if_neg this]; rfl
      rw [if_pos e, hr, ← hv]
    · rw [valV_neg e] at h
      rw [if_neg e, map_same nd.2 h]
theorem putK_same {κ : Type} [DecidableEq κ] {k : κ} {v : V} {ks : List (κ × V)} (nd : (ks.map (·.1)).Nodup) (h : valV ks k = some v) : putK ks k v = ks := by
  unfold putK
  rw [if_pos (by rw [valV_any, h]; rfl), map_same nd h]
theorem upd_id {H : Hp} {a : Addr} {o : HO} (h : H a = some o) : upd H a o = H := by
  funext b
  by_cases e : b = a
  · subst e; rw [upd_same, h]
  · simp [upd, e]
section
variable {G : Gx} {κ α : Type} [DecidableEq κ] [Kx κ] [Im G α] {H : Hp} {M : List (Asn G)} {a b : Addr} {kvs : List (κ × List α)} {k : κ} {td ty tv : TE} {σ : L2.St} {D : Ends}
theorem k_daugE {y ys : List α} (h : Sep H (dictE lstA a kvs :: lstA b ys :: M)) (hd : Ev td σ H (.ref a)) (hy : Ev ty σ H (kV (Kx.key k))) (hv : Ev tv σ H (.ref b)) (hk : dget kvs k = some y) (hz : kvs.length < sizeLine) (hs : y.length + ys.length ≤ sizeLine)
    (q : ∀ H', Sep H' (dictE lstA a (dput kvs k (y ++ ys)) :: lstA b ys :: M) → D.nx σ H') : sDAug td ty tv rExt2 D σ H := by
  obtain ⟨ps, hl, h⟩ := dictE_X h
  obtain ⟨j, hj⟩ := dget_idx hk
  obtain ⟨p, hp, e⟩ := refs_get hl.1 hl.2 hj
  have hc := dictX_cell h
  have h1 := outX h hj hp
  obtain ⟨vs, hvs, m1⟩ := h1.lst (i := 0) rfl
  obtain ⟨ws, hws, m2⟩ := h1.lst (i := 2) rfl
  refine hd _ (hy _ ⟨a, .ref p, rfl, .inl ⟨_, Kx.key k, .inl hc, rfl, e.symm⟩, hv _ ⟨p, b, vs, ws, rfl, rfl, hvs, hws, by rw [m1.len, m2.len]; exact hs, ?_⟩⟩)
  have h2 : Sep (upd H p (.lst (vs ++ ws))) (lstA p (y ++ ys) :: dictXH id lstA a ps kvs j :: lstA b ys :: M) := h1.putL (i := 0) (ys := y ++ ys) rfl (m1.app m2)
  have hc2 : upd H p (.lst (vs ++ ws)) a = some (.dK (refsD kvs ps)) := (Sep.star1 (h2.perm (List.Perm.swap _ _ _))).getCell (i := 0) rfl
  have nd : ((refsD kvs ps).map (·.1)).Nodup := by
    rw [refs_keys hl.1]
    have : kvs.map (fun q => (Kx.key q.1 : Key)) = (kvs.map (·.1)).map Kx.key := by rw [List.map_map]; rfl
    rw [this]
    exact List.pairwise_map.mpr (hl.2.imp fun ne e => ne (Kx.inj e))
  refine ⟨_, .inl ⟨refsD kvs ps, Kx.key k, hc2, rfl, by rw [refs_len hl.1]; exact hz, rfl⟩, ?_⟩
  rw [putK_same nd e, upd_id hc2]
  exact q _ (unfocDE hl hj hp h2)
end
end Ml
namespace Ml
open PySem PySem.Spec PyProof.Rows L2
end Ml
namespace L2
open PySem PySem.Spec PyProof.Rows
end L2
namespace Ml
open PySem PySem.Spec PyProof.Rows L2
end Ml
namespace Ml
open PySem PySem.Spec PyProof.Rows L2
theorem lenD_at {G : Gx} {κ β : Type} [DecidableEq κ] [Kx κ] [Im G β] {H : Hp} {L : List (Asn G)} {i : Nat} {a : Addr} {xs : List (κ × β)} (hS : Sep H L) (e : L[i]? = some (dictA a xs)) : ∃ ps : List (Key × V), H a = some (.dK ps) ∧ ps.length = xs.length := by
  obtain ⟨ps, hp, m⟩ := hS.dict e
  exact ⟨ps, hp, m.len⟩
end Ml
namespace Ml
open PySem PySem.Spec PyProof.Rows L2
section
variable {G : Gx} {κ β : Type} [DecidableEq κ] [Kx κ] {H : Hp} {M : List (Asn G)} {a : Addr} {kvs : List (κ × β)} {k : κ} {E : Addr → β → Asn G} {Q : VK}
theorem k_get2E {p0 : Addr} {z : β} (h : Sep H (dictE E a kvs :: E p0 z :: M))
    (q : ∀ p (R : Asn G), (∀ H' M', Sep H' (E p ((dget kvs k).getD z) :: R :: M') → Sep H' (dictE E a kvs :: M')) → Sep H (E p ((dget kvs k).getD z) :: R :: M) → Q (.ref p) H) : get2K3 a (kV (Kx.key k)) Q (.ref p0) H := by
  obtain ⟨ps, hl, hx⟩ := dictE_X h
  have hc := dictX_cell hx
  cases e : dget kvs k with
  | none =>
    refine ⟨none, .inl ⟨_, Kx.key k, .inl hc, rfl, (refs_none hl.1 e).symm⟩, ?_⟩
    rw [e] at q
    exact q p0 (dictE E a kvs) (fun H' M' hs => Sep.tail hs) (h.perm (List.Perm.swap _ _ _))
  | some y =>
    obtain ⟨j, hj⟩ := dget_idx e
    obtain ⟨p, hp, e2⟩ := refs_get hl.1 hl.2 hj
    refine ⟨some (.ref p), .inl ⟨_, Kx.key k, .inl hc, rfl, e2.symm⟩, ?_⟩
    rw [e] at q
    have h1 : Sep H (E p y :: (dictXH id E a ps kvs j :: E p0 z :: M)) := outX hx hj hp
    refine q p (star [dictXH id E a ps kvs j, E p0 z]) (fun H' M' hs => ?_) ?_
    · have h2 : Sep H' (star [dictXH id E a ps kvs j, E p0 z] :: (E p y :: M')) := hs.perm (List.Perm.swap _ _ _)
      have h3 := Sep.star1 h2
      have h4 : Sep H' (E p y :: dictXH id E a ps kvs j :: (E p0 z :: M')) := h3.perm (by
        show (dictXH id E a ps kvs j :: E p0 z :: E p y :: M').Perm _
        exact ((List.Perm.swap _ _ _).cons _).trans (List.Perm.swap _ _ _))
      exact Sep.tail ((unfocDE0 hl hj hp h4).perm (List.Perm.swap _ _ _))
    · have h5 : Sep H ([dictXH id E a ps kvs j, E p0 z] ++ (E p y :: M)) := h1.perm (by
        show (E p y :: dictXH id E a ps kvs j :: E p0 z :: M).Perm (dictXH id E a ps kvs j :: E p0 z :: E p y :: M)
        exact (List.Perm.swap _ _ _).trans ((List.Perm.swap _ _ _).cons _))
      exact (Sep.unstar1 h5).perm (List.Perm.swap _ _ _)
end
end Ml
namespace Ml
open PySem PySem.Spec PyProof.Rows L2
end Ml
namespace L2
open PySem PySem.Spec PyProof.Rows
/-- a def's promise where no repr is under way -/
structure FnG (P : Program) (w : World) (K : PySem.W.Frag) (mg : Str → Option Value) (base : Heap) (CX : CXT) (k : Nat) (f : Addr) (fd : FuncData) (ps : List Str) (sp : Sp) : Prop where
  len : ∀ vs H Q E, sp vs H Q E → vs.length = ps.length
  run : ∀ (A : Around) (outer : List Env) (s : Shared) (H : Hp) (args : Args) (us : List Value) (vs : List V) (Q : VK) (E : XK), A.guards = some [] → Room k A → Env0 P w K mg base A outer s H → BindsTo s fd args (ps.zip us) → Vals vs us → sp vs H Q E →
    codeAny (model P w) A (.call (.ref f) args) (CR CX outer P w H s Q E) s
theorem FnG.imp {P : Program} {w : World} {K : PySem.W.Frag} {mg : Str → Option Value} {base : Heap} {CX : CXT} {k : Nat} {f : Addr} {fd : FuncData} {ps : List Str} {sp sp' : Sp} (F : FnG P w K mg base CX k f fd ps sp)
    (h : ∀ vs H Q E, sp' vs H Q E → sp vs H Q E) : FnG P w K mg base CX k f fd ps sp' :=
  ⟨fun vs H Q E q => F.len vs H Q E (h _ _ _ _ q), fun A outer s H args us vs Q E hg hr he hb hv hs => F.run A outer s H args us vs Q E hg hr he hb hv (h _ _ _ _ hs)⟩
end L2
namespace Ml
open PySem PySem.Spec PyProof.Rows L2
end Ml
namespace L2
open PySem PySem.Spec PyProof.Rows
section
variable {X : Cx}
def rRemD (K : PySem.W.Frag) : V → List V → Hp → VK → Prop := fun x xs H Q => ∃ (l : Addr) (ys : List V) (y : V) (d : PyData) (ds : List PyData) (j : Nat), x = .ref l ∧ xs = [y] ∧ H l = some (.lst ys) ∧ DpAll K H ys ds ∧ Dp K H y d ∧
  SeqAt.shaped (.list ds) = true ∧ SeqAt.shaped d = true ∧ SeqAt.dataPlace ds d = some j ∧ Q .non (upd H l (.lst (ys.eraseIdx j)))
theorem vals_erase : ∀ {xs : List V} {us : List Value} (j : Nat), Vals xs us → Vals (xs.eraseIdx j) (us.eraseIdx j)
  | [], _, j, r => by cases r; exact .nil
  | x :: xs, _, 0, r => by cases r with | cons a b => exact b
  | x :: xs, _, j + 1, r => by cases r with | cons a b => exact .cons a (vals_erase j b)
theorem mt_removeD (K : PySem.W.Frag) (hu : X.A.units + 65 < cLine) (hK : X.K = K := by rfl) : MtM X "list.remove" (rRemD K) := by
  subst hK
  intro pins s σ H x xs v us Q I rx rxs h
  obtain ⟨l, ys, y, d, ds, j, rfl, rfl, hH, ha, hy, sl, sd, hp, q⟩ := h
  cases rx
  obtain ⟨u, rfl, ru⟩ := rxs.one
  obtain ⟨z, its, n, r, hl, e⟩ := I.lstM hH
  obtain ⟨bs, r1⟩ := Dp.reads I d y u hy ru
  obtain ⟨as, h4⟩ := Dp.readsAll I ds _ its ha r
  have hxs : PyData.canLayAll0 ds = true := SeqAt.canLay_of_shaped sl
  have hroom : X.A.units + 1 + min (PyData.depthAll ds) d.depth < cLine := room_in_shaped sd hu
  have hrl := r.length
  refine PySem.SeqAt.remove_list_data ⟨_, e, rfl, n, rfl⟩ h4 r1 (PyData.plainAll_of_canLay0 _ hxs) (PyData.plain_of_canLay0 _ (SeqAt.canLay_of_shaped sd)) hroom hp (by rw [List.size_toArray]; omega) ?_
  refine ⟨.non, _, I.lset (its' := its.eraseIdx j) (t' := s.toks) hH e ?_ (vals_erase j r) ?_, rfl, q⟩
  · show its.toArray.eraseIdxIfInBounds j = (its.eraseIdx j).toArray
    rw [List.eraseIdxIfInBounds_toArray]
  · have := List.length_eraseIdx_le ys j
    omega
end
end L2
namespace Ml
open PySem PySem.Spec PyProof.Rows L2
section
variable {G : Gx} {α : Type} [Im G α] [DecidableEq α] [Lay α] [Pd G α] {H : Hp} {L L' : List (Asn G)} {i : Nat} {a : Addr} {Q : VK} {v : V}
def remP (xs : List α) (x : α) : List α := xs.eraseIdx (xs.findIdx fun y => decide (y = x))
theorem imL_erase : ∀ {vs : List V} {xs : List α} (j : Nat), imL (G := G) H vs xs → imL (G := G) H (vs.eraseIdx j) (xs.eraseIdx j)
  | [], [], _, _ => True.intro
  | v :: vs, x :: xs, 0, h => h.2
  | v :: vs, x :: xs, j + 1, h => ⟨h.1, imL_erase j h.2⟩
  | [], _ :: _, _, h => h.elim
  | _ :: _, [], _, h => h.elim
theorem place_is {xs : List α} {x : α} (hx : x ∈ xs) : SeqAt.dataPlace (xs.map (Pd.pd G)) (Pd.pd G x) = some (xs.findIdx fun y => decide (y = x)) := by
  unfold SeqAt.dataPlace
  rw [List.findIdx?_map]
  have e : (fun y => PyData.eqv y (Pd.pd G x)) ∘ Pd.pd G = fun y => decide (y = x) := funext fun y => Pd.eqv y x
  rw [e]
  have hl : xs.findIdx (fun y => decide (y = x)) < xs.length := List.findIdx_lt_length_of_exists ⟨x, hx, by simp⟩
  rw [List.findIdx?_eq_some_iff_getElem]
  refine ⟨hl, List.findIdx_getElem (w := hl), fun j hj => ?_⟩
  exact Bool.eq_false_iff.mp (List.not_of_lt_findIdx hj)
theorem k_removeP {xs : List α} {x : α} (hS : Sep H L) (e : L[i]? = some (lstA a xs)) (hv : Dp G.K H v (Pd.pd G x)) (l1 : Lay.lay xs = true) (l2 : Lay.lay x = true) (d : Pd.dep G α ≤ 63) (hx : x ∈ xs) (e2 : L.set i (lstA a (remP xs x)) = L') (q : ∀ H', Sep H' L' → Q .non H') : rRemD G.K (.ref a) [v] H Q := by
  obtain ⟨vs, h, m⟩ := hS.lst e
  refine ⟨a, vs, v, _, _, _, rfl, rfl, h, dpAll m, hv, shapedP (α := List α) (G := G) l1 (Nat.succ_le_succ d), shapedP l2 (by omega), place_is hx, ?_⟩
  subst e2
  exact q _ (hS.putL e (imL_erase _ m))
end
section
variable {G : Gx} {H : Hp} {L : List (Asn G)} {Q : VK} {v : V} {σ : L2.St} {ta : TE}
def kitB2 (T U1 U2 : String) : Option Bool := match kitB T U1 with
  | some true => some true
  | some false => kitB T U2
  | none => none
theorem kit2 {K : PySem.W.Frag} {T U1 U2 : String} {b : Bool} (h : kitB2 T U1 U2 = some b) : PySem.W.kitAny K (.type T) [.type U1, .type U2] = some b := by
  unfold kitB2 at h
  cases c : kitB T U1 with
  | none => rw [c] at h; cases h
  | some b1 =>
    rw [c] at h
    cases b1 with
    | true =>
      have hb : b = true := by simpa using h.symm
      exact kitAny_cons (kit_ty c) (fun z => by cases z) fun _ => hb
    | false =>
      have h : kitB T U2 = some b := h
      refine kitAny_cons (kit_ty c) (fun _ => ?_) fun z => by cases z
      cases b with
      | true => exact kitAny_cons (kit_ty h) (fun z => by cases z) fun _ => rfl
      | false => exact kitAny_cons (kit_ty h) (fun _ => kitAny_nil) fun z => by cases z
theorem k_isiT {T U1 U2 : String} {b : Bool} (hS : Sep H L) (ha : Ev ta σ H v) (ty : ∀ H', Sep H' L → TyX G.K H' v (.type T)) (e : kitB2 T U1 U2 = some b) (q : ∀ H', Sep H' L → Q (.bl b) H') :
    tCB (rIsiT G.K) (tCons ta (tCons (tTup (tCons (tC (.ty U1)) (tCons (tC (.ty U2)) tNil))) tNil)) σ H Q := by
  refine ha _ ?_
  refine ⟨by show 2 ≤ sizeLine; decide, fun p hp => ?_⟩
  have hS2 : Sep (upd H p (.tup [.ty U1, .ty U2])) L := hS.more (same_new hp)
  exact ⟨v, p, [.ty U1, .ty U2], .type T, [.type U1, .type U2], b, rfl, upd_same .., .cons (.ty _) (.cons (.ty _) .nil), ty _ hS2, kit2 e, q _ hS2⟩
end
end Ml
namespace Ml
open PySem PySem.Spec PyProof.Rows L2
theorem isiTK {X : Cx} (K : PySem.W.Frag) (hK : X.K = K := by rfl) : CallR X (.builtin "isinstance") (rIsiT K) := by subst hK; exact call_isiT
end Ml
namespace Ml
open PySem PySem.Spec PyProof.Rows L2
end Ml
namespace Ml
open PySem PySem.Spec PyProof.Rows L2
theorem niDK {X : Cx} (K : PySem.W.Frag) (hu : X.A.units + 65 < cLine) (hK : X.K = K := by rfl) : OpR X (compareOp .NotIn) (rNotInD K) := by subst hK; exact op_notInD hu
section
variable {G : Gx} {α : Type} [Im G α] [DecidableEq α] [Lay α] [Pd G α] {H : Hp} {v w : V} {x : α} {xs : List α} {ta tb : TE} {σ : L2.St}
def memD {α : Type} [DecidableEq α] (x : α) (xs : List α) : Bool := decide (x ∈ xs)
theorem any_is : (xs.map (Pd.pd G)).any (fun z => PyData.eqv z (Pd.pd G x)) = memD x xs := by
  unfold memD
  rw [List.any_map, Bool.eq_iff_iff, List.any_eq_true, decide_eq_true_eq]
  constructor
  · rintro ⟨y, hy, e⟩
    have e : PyData.eqv (Pd.pd G y) (Pd.pd G x) = true := e
    rw [Pd.eqv, decide_eq_true_eq] at e
    rw [← e]; exact hy
  · intro h
    refine ⟨x, h, ?_⟩
    show PyData.eqv (Pd.pd G x) (Pd.pd G x) = true
    rw [Pd.eqv]; exact decide_eq_true rfl
theorem ev_niP (ha : Ev ta σ H v) (hb : Ev tb σ H w) (d1 : Dp G.K H v (Pd.pd G x)) (d2 : Dp G.K H w (Pd.pd G xs)) (l1 : Lay.lay x = true) (l2 : Lay.lay xs = true) (d : Pd.dep G α ≤ 63) : Ev (tOp (rNotInD G.K) ta tb) σ H (.bl (!memD x xs)) :=
  ev_op ha hb fun Q q => ⟨_, _, d1, d2, shapedP l1 (by omega), shapedP (α := List α) (G := G) l2 (Nat.succ_le_succ d), by rw [any_is]; exact q⟩
end
end Ml
namespace Ml
open PySem PySem.Spec PyProof.Rows L2
def rDictP (K : PySem.W.Frag) : List V → Hp → VK → Prop := fun xs H Q => ∃ (a : Addr) (ps : List Addr) (kvs : List (Key × V)), xs = [.ref a] ∧ SqL K H a (ps.map V.ref) ∧ Paired (fun p kv => SqT K H p [kV kv.1, kv.2]) ps kvs ∧
    ∀ p, H p = none → Q (.ref p) (upd H p (.dK (mergeK [] kvs)))
theorem dictPK {X : Cx} (K : PySem.W.Frag) (hc : X.calm = true) (hK : X.K = K := by rfl) : CallR X (.type "dict") (rDictP K) := by subst hK; exact call_dictP hc
section
variable {G : Gx} {β : Type} [Im G β] {H : Hp} {L : List (Asn G)} {i : Nat} {a : Addr} {xs : List (Str × β)} {Q : VK}
theorem pairs_at : ∀ {vs : List V} {xs : List (Str × β)}, imL (G := G) H vs xs → ∃ (ps : List Addr) (kvs : List (Key × V)), vs = ps.map V.ref ∧ Paired (fun p kv => SqT G.K H p [kV kv.1, kv.2]) ps kvs ∧ imD (G := G) H kvs xs
  | [], [], _ => ⟨[], [], rfl, .nil, True.intro⟩
  | v :: vs, x :: xs, h => by
    obtain ⟨ps, kvs, e, p, m⟩ := pairs_at h.2
    obtain ⟨ad, u1, u2, rfl, g, i1, i2⟩ := h.1
    have i1 : u1 = .str x.1 := i1
    subst i1
    exact ⟨ad :: ps, (Kx.key x.1, u2) :: kvs, by rw [e]; rfl, .cons (SqT.of g) p, ⟨rfl, i2⟩, m⟩
  | [], _ :: _, h => h.elim
  | _ :: _, [], h => h.elim
theorem k_dictP (hS : Sep H L) (e : L[i]? = some (lstA a xs)) (k : ∀ p H', Sep H' (dictA p (mergeD [] xs) :: L) → Q (.ref p) H') : rDictP G.K [.ref a] H Q := by
  obtain ⟨vs, s, m⟩ := hS.sq e
  obtain ⟨ps, kvs, rfl, pr, md⟩ := pairs_at m
  refine ⟨a, ps, kvs, rfl, s, pr, fun p hp => k p _ ?_⟩
  have h1 := hS.newD (κ := Str) (β := β) hp
  have md2 : imD (G := G) (upd H p (.dK [])) (mergeK [] kvs) (mergeD [] xs) := (md.merge (as := []) (bs := []) True.intro).st (.of_same (same_new hp))
  have h2 := h1.putD (i := 0) rfl md2
  rw [upd_upd] at h2
  exact h2
end
end Ml
namespace Ml
open PySem PySem.Spec PyProof.Rows L2
section
variable {G : Gx} {α : Type} [Im G α] [DecidableEq α] [Lay α] [Pd G α] {H : Hp} {L : List (Asn G)} {Q : VK}
theorem im_pairs : ∀ {vs : List V} {ks : List α}, imL (G := G) H vs ks → ∃ ps : List (V × α), ps.map (·.1) = vs ∧ ps.map (·.2) = ks ∧ ∀ p, p ∈ ps → Im.im G H p.1 p.2
  | [], [], _ => ⟨[], rfl, rfl, fun _ h => by cases h⟩
  | v :: vs, k :: ks, h => by
    obtain ⟨ps, e1, e2, h3⟩ := im_pairs h.2
    exact ⟨(v, k) :: ps, by rw [List.map_cons, e1], by rw [List.map_cons, e2], fun p hp => by
      rcases List.mem_cons.mp hp with e | e
      · rw [e]; exact h.1
      · exact h3 p e⟩
  | [], _ :: _, h => h.elim
  | _ :: _, [], h => h.elim
theorem pairs_im : ∀ {ps : List (V × α)}, (∀ p, p ∈ ps → Im.im G H p.1 p.2) → imL (G := G) H (ps.map (·.1)) (ps.map (·.2))
  | [], _ => True.intro
  | p :: ps, h => ⟨h p List.mem_cons_self, pairs_im fun q hq => h q (List.mem_cons_of_mem _ hq)⟩
theorem k_sortG {a : Addr} {ks : List α} (f : α → PyData) (hf : ∀ x : α, Pd.pd G x = f x) (al : ∀ x y : α, PySem.W.alike (f x) (f y) = true) (sr : (∀ x : α, ∃ y r, f x = .tuple (y :: r)) ∨ ∀ x : α, f x ≠ .none ∧ ∀ xs, f x ≠ .tuple xs) (dp : ∀ x : α, (f x).depth ≤ 8)
    (hS : Sep H L) (hq : ∃ vs, SqL G.K H a vs ∧ imL (G := G) H vs ks) (hl : ks.length ≤ sizeLine) (k : ∀ p H', Sep H' (lstA p (ks.mergeSort (PySem.W.dataLe false f)) :: L) → Q (.ref p) H') : rSortDt G.K [.ref a] H Q := by
  obtain ⟨vs, h, m⟩ := hq
  obtain ⟨ps, e1, e2, h3⟩ := im_pairs m
  subst e1; subst e2
  have hd : ∀ x, x ∈ (ps.map fun p => (p.1, f p.2)).map (·.2) → ∃ q : α, x = f q := fun x hx => by
    rw [List.map_map] at hx
    obtain ⟨q, hq, rfl⟩ := List.mem_map.mp hx
    exact ⟨q.2, rfl⟩
  refine ⟨a, ps.map fun p => (p.1, f p.2), rfl, by rw [List.map_map]; exact h, fun p hp => ?_, fun x hx y hy => ?_, ?_, by rw [List.length_map]; rw [List.length_map] at hl; exact hl, fun p hp => ?_, fun l hl0 => ?_⟩
  · obtain ⟨q, hq, rfl⟩ := List.mem_map.mp hp
    have := Pd.dp (h3 q hq)
    rw [hf] at this
    exact this
  · obtain ⟨q, rfl⟩ := hd x hx
    obtain ⟨r, rfl⟩ := hd y hy
    exact al q r
  · rcases sr with sr | sr
    · exact .inl fun x hx => by
        obtain ⟨q, rfl⟩ := hd x hx
        exact sr q
    · exact .inr fun x hx => by
        obtain ⟨q, rfl⟩ := hd x hx
        exact sr q
  · obtain ⟨q, hq, rfl⟩ := List.mem_map.mp hp
    exact dp q.2
  · refine k l _ (hS.newL hl0 ?_)
    have e1 : (ps.map fun p => (p.1, f p.2)).mergeSort (PySem.W.dataLe false (·.2)) = (ps.mergeSort fun x y => PySem.W.dataLe false f x.2 y.2).map fun p => (p.1, f p.2) :=
      (List.map_mergeSort (f := fun p : V × α => (p.1, f p.2)) fun x _ y _ => rfl).symm
    have e2 : (ps.map (·.2)).mergeSort (PySem.W.dataLe false f) = (ps.mergeSort fun x y => PySem.W.dataLe false f x.2 y.2).map (·.2) := (List.map_mergeSort (f := fun p : V × α => p.2) fun x _ y _ => rfl).symm
    rw [e1, e2, List.map_map]
    exact pairs_im fun p hp => h3 p ((List.mergeSort_perm ps _).mem_iff.mp hp)
end
end Ml
namespace Ml
open PySem PySem.Spec PyProof.Rows L2
end Ml
namespace Ml
open PySem PySem.Spec PyProof.Rows L2
end Ml
namespace Ml
open PySem PySem.Spec PyProof.Rows L2
end Ml
namespace Ml
open PySem PySem.Spec PyProof.Rows L2
end Ml
namespace Ml
open PySem PySem.Spec PyProof.Rows L2
end Ml
namespace Ml
open PySem PySem.Spec PyProof.Rows L2
end Ml
namespace L2
open PySem PySem.Spec PyProof.Rows
end L2
namespace Ml
open PySem PySem.Spec PyProof.Rows L2
end Ml
namespace L2
open PySem PySem.Spec PyProof.Rows
end L2
namespace Ml
open PySem PySem.Spec PyProof.Rows L2
end Ml
namespace Ml
open PySem PySem.Spec PyProof.Rows L2
end Ml
namespace Ml
open PySem L2
end Ml
namespace L2
open PySem PySem.Spec PyProof.Rows L2.DX
end L2
namespace Ml
open PySem PySem.Spec PyProof.Rows L2
variable {G : Gx}
abbrev Kn := Str × Int
def ksN (k : Kn) : List Key := [Sum.inr k.1, Sum.inl k.2]
theorem knInj {a b : Kn} (h : ksN a = ksN b) : a = b := by
  obtain ⟨x, i⟩ := a
  obtain ⟨y, j⟩ := b
  unfold ksN at h
  simp only [List.cons.injEq, and_true] at h
  rw [Sum.inr.inj h.1, Sum.inl.inj h.2]
section
variable {β : Type} [Im G β]
def imDN (H : Hp) : List (List Key × V) → List (Kn × β) → Prop
  | [], [] => True
  | p :: ps, q :: qs => (p.1 = (ksN q.1) ∧ Im.im G H p.2 q.2 ∧ ∃ b, H b = some (.tup ((ksN q.1).map kV))) ∧ imDN H ps qs
  | _, _ => False
variable {H H' : Hp}
theorem imDN.st : ∀ {ps : List (List Key × V)} {qs : List (Kn × β)}, imDN (G := G) H ps qs → Stab G H H' → imDN (G := G) H' ps qs
  | [], [], _, _ => True.intro
  | _ :: _, _ :: _, h, s => ⟨⟨h.1.1, Im.st h.1.2.1 s, by obtain ⟨b, e⟩ := h.1.2.2; exact ⟨b, s.1 b _ e rfl⟩⟩, imDN.st h.2 s⟩
  | [], _ :: _, h, _ => h
  | _ :: _, [], h, _ => h
theorem imDN.len : ∀ {ps : List (List Key × V)} {qs : List (Kn × β)}, imDN (G := G) H ps qs → ps.length = qs.length
  | [], [], _ => rfl
  | _ :: _, _ :: _, h => by rw [List.length_cons, List.length_cons, imDN.len h.2]
  | [], _ :: _, h => h.elim
  | _ :: _, [], h => h.elim
theorem kn_dec (a b : Kn) : decide ((ksN a) = (ksN b)) = decide (a = b) := by
  by_cases h : a = b
  · subst h; simp
  · have : ¬ (ksN a) = (ksN b) := fun e => h (knInj e)
    simp [h, this]
theorem imDN.val : ∀ {ps : List (List Key × V)} {qs : List (Kn × β)} (k : Kn), imDN (G := G) H ps qs → (∀ y, dget qs k = some y → ∃ v, valV ps (ksN k) = some v ∧ Im.im G H v y) ∧ (dget qs k = none → valV ps (ksN k) = none)
  | [], [], _, _ => ⟨fun y e => (by cases (show (none : Option β) = some y from e)), fun _ => rfl⟩
  | p :: ps, q :: qs, k, ⟨⟨e1, e2, _⟩, h⟩ => by
    have ih := imDN.val k h
    by_cases c : q.1 = k
    · have c1 : p.1 = (ksN k) := by rw [e1, c]
      have d : dget (q :: qs) k = some q.2 := by simp [dget, List.find?_cons, c]
      rw [d, valV_pos c1]
      exact ⟨fun y e => ⟨p.2, rfl, by cases e; exact e2⟩, fun e => by cases e⟩
    · have c1 : ¬ p.1 = (ksN k) := fun z => c (knInj (e1.symm.trans z))
      have d : dget (q :: qs) k = dget qs k := by simp [dget, List.find?_cons, c]
      rw [d, valV_neg c1]
      exact ih
  | [], _ :: _, _, h => h.elim
  | _ :: _, [], _, h => h.elim
theorem imDN.any : ∀ {ps : List (List Key × V)} {qs : List (Kn × β)} (k : Kn), imDN (G := G) H ps qs → (ps.any fun kv => decide (kv.1 = (ksN k))) = qs.any fun kv => decide (kv.1 = k)
  | [], [], _, _ => rfl
  | p :: ps, q :: qs, k, ⟨⟨e1, _⟩, h⟩ => by
    rw [List.any_cons, List.any_cons, imDN.any k h, e1, kn_dec]
  | [], _ :: _, _, h => h.elim
  | _ :: _, [], _, h => h.elim
theorem imDN.app : ∀ {ps rs : List (List Key × V)} {qs ts : List (Kn × β)}, imDN (G := G) H ps qs → imDN (G := G) H rs ts → imDN (G := G) H (ps ++ rs) (qs ++ ts)
  | [], _, [], _, _, h => h
  | _ :: _, _, _ :: _, _, h, k => ⟨h.1, imDN.app h.2 k⟩
  | [], _, _ :: _, _, h, _ => h.elim
  | _ :: _, _, [], _, h, _ => h.elim
theorem imDN.rep : ∀ {ps : List (List Key × V)} {qs : List (Kn × β)} {k : Kn} {v : V} {y : β}, imDN (G := G) H ps qs → Im.im G H v y →
    imDN (G := G) H (ps.map fun kv => if kv.1 = (ksN k) then (kv.1, v) else kv) (qs.map fun kv => if kv.1 = k then (kv.1, y) else kv)
  | [], [], _, _, _, _, _ => True.intro
  | p :: ps, q :: qs, k, v, y, ⟨⟨e1, e2, e3⟩, h⟩, hv => by
    refine ⟨?_, imDN.rep h hv⟩
    dsimp only
    by_cases c : q.1 = k
    · have c1 : p.1 = (ksN k) := by rw [e1, c]
      rw [if_pos c, if_pos c1]; exact ⟨e1, hv, e3⟩
    · have c1 : ¬ p.1 = (ksN k) := fun z => c (knInj (e1.symm.trans z))
      rw [if_neg c, if_neg c1]; exact ⟨e1, e2, e3⟩
  | [], _ :: _, _, _, _, h, _ => h.elim
  | _ :: _, [], _, _, _, h, _ => h.elim
theorem imDN.put {ps : List (List Key × V)} {qs : List (Kn × β)} {k : Kn} {v : V} {y : β} (h : imDN (G := G) H ps qs) (hv : Im.im G H v y) (hb : ∃ b, H b = some (.tup ((ksN k).map kV))) : imDN (G := G) H (putK ps (ksN k) v) (dput qs k y) := by
  unfold putK dput
  rw [h.any k]
  split
  · exact h.rep hv
  · exact h.app (rs := [((ksN k), v)]) (ts := [(k, y)]) ⟨⟨rfl, hv, hb⟩, True.intro⟩
theorem imDN.at : ∀ {ps : List (List Key × V)} {qs : List (Kn × β)} {j : Nat} {k : List Key} {v : V} {x : Kn}, imDN (G := G) H ps qs → ps[j]? = some (k, v) → (qs.map (·.1))[j]? = some x → k = (ksN x)
  | p :: _, q :: _, 0, k, v, x, h, e1, e2 => by
    have e1 : p = (k, v) := by simpa using e1
    have e2 : q.1 = x := by simpa using e2
    have := h.1.1
    rw [e1, e2] at this
    exact this
  | _ :: ps, _ :: qs, j + 1, k, v, x, h, e1, e2 => imDN.at (ps := ps) (qs := qs) (j := j) h.2 (by simpa using e1) (by simpa using e2)
  | [], _, _, _, _, _, _, e1, _ => by simp at e1
  | _ :: _, [], _, _, _, _, h, _, _ => h.elim
variable {L L' : List (Asn G)} {σ : L2.St} {Q : VK} {te td ty tx : TE} {k : Kn} {a b : Addr} {xs : List (Kn × β)} {i : Nat}
end
end Ml
namespace Ml
open PySem PySem.Spec PyProof.Rows L2
end Ml
namespace L2
open PySem PySem.Spec PyProof.Rows L2.DX PySem.Calls
end L2
namespace Ml
open PySem PySem.Spec PyProof.Rows L2
end Ml
namespace Ml
open PySem L2
end Ml
namespace PySem.SeqAt
open AutoSeq1 (wpAny_loadPart')
open MeetsSeq MeetsSeq2 MeetsSeq3 SeqRoads2
end PySem.SeqAt
namespace L2
open PySem PySem.Spec PyProof.Rows
open PySem.SeqAt (EqIn EqAt)
end L2
namespace Ml
open PySem PySem.Spec PyProof.Rows L2
end Ml
namespace L2
open PySem PySem.Spec PyProof.Rows L2.DX PySem.Calls
section
variable {X : Cx}
def rSortedSB (K : PySem.W.Frag) : List V → Hp → VK → Prop := fun vs H Q => ∃ (a : Addr) (xs : List Str), vs = [V.ref a] ∧ SqL K H a (xs.map V.str) ∧ xs.length ≤ sizeLine ∧
  ∀ (ys : List Str) (p : Addr), ys.Perm xs → sortedS ys = true → H p = none → Q (.ref p) (upd H p (.lst (ys.map V.str)))
theorem cr_sortedSB : CallR X (.builtin "sorted") (rSortedSB X.K) := by
  intro pins s σ H vs us Q I r h
  obtain ⟨a, xs, rfl, hs, big, q⟩ := h
  obtain ⟨its, rv, hl, _⟩ := I.list hs
  rw [Vals.ref1 r]
  have ln := rv.length
  rw [List.length_map] at ln
  refine PyProof.Rows.sorted_strsAny hl.isList rv.strs (by rw [← ln]; exact big) fun out ys g1 g2 g3 => ?_
  obtain ⟨ep, at_⟩ := PyProof.Rows.sortedAll_at s.heap its out
  have few : (ys.map V.str).length ≤ sizeLine := by rw [List.length_map, g2.length_eq]; exact big
  exact ⟨.ref _, upd H (s.heap.objs.size + 1) (.lst (ys.map V.str)), I.laid (t' := s.toks) (fun _ _ => PyProof.Rows.sortedAll_old) (Nat.le_succ _) ⟨few, out.toList, ep, vals_of_strs g1, at_⟩, rfl, q ys _ g2 g3 (I.hok.fresh (Nat.le_succ _))⟩
def rSortDB : List V → Hp → VK → Prop := fun xs H Q => ∃ (a : Addr) (kvs : List (Key × V)) (ks : List Str), xs = [.ref a] ∧ Rd H a (.dK kvs) ∧ kvs.map (·.1) = ks.map Sum.inr ∧ ks.length ≤ sizeLine ∧
    ∀ ys p, ys.Perm ks → sortedS ys = true → H p = none → Q (.ref p) (upd H p (.lst (ys.map V.str)))
theorem cr_sortDB (hc : X.calm = true) : CallR X (.builtin "sorted") rSortDB := by
  intro pins s σ H xs us Q I r h
  obtain ⟨a, kvs, ks, rfl, hd, hks, big, q⟩ := h
  rw [Vals.ref1 r]
  obtain ⟨z, lo, vs, rel, dd⟩ := dk_rd I.hok hd
  obtain ⟨ep, hat⟩ := dd.dictAt
  have hk : vs.map (·.1) = ks.map Sum.inr := rel.keys.symm.trans hks
  have ln : vs.length = ks.length := by simpa using congrArg List.length hk
  refine Calls.call_function_entry PyProof.Rows.kind_sorted PyProof.Rows.plain_sorted PyProof.Rows.entry_sorted (PyProof.Rows.args_sorted1 _) ?_
  unfold Builtin.«sorted»
  refine wpAny_bind (m := checkCount "sorted" 1 1 _) (wpAny_pure ?_)
  refine wpAny_bind (PySem.W.kdu_collect (A := X.A.in1) (PySem.W.kdl_dict (knd := mixKind X.prog X.w) (kvs := vs) (ep := ep) lo) (I.ok.hd hc) hat (by rw [ln]; exact big) fun h' tk acc kp hacc => ?_)
  have al : acc.toList.length = ks.length := by rw [Array.length_toList, hacc.1, ln]
  have tx : StrsAre acc.toList ks := strs_at al fun j v e => by
    obtain ⟨k, x, e1, e2⟩ := hacc.2 j v (by rw [← Array.getElem?_toList]; exact e)
    have e3 : (ks.map (Sum.inr : Str → Key))[j]? = some k := by rw [← hk, List.getElem?_map, e1]; all_goals rfl
    rw [List.getElem?_map] at e3
    cases e4 : ks[j]? with
    | none => rw [e4] at e3; cases e3
    | some y =>
      rw [e4] at e3
      cases Option.some.inj e3
      obtain ⟨t, ev⟩ := Value.isStrOf_shape (x := y) (v := v) e2
      exact ⟨y, t, rfl, ev⟩
  have I1 : Inv X pins σ H { s with heap := h', toks := tk } := I.kept kp
  refine wpAny_bind (wpAny_newList ?_ (by rw [al]; exact big))
  have hoL : (h'.push (seqObj "list" acc.toList.toArray 0)).get? h'.objs.size = some (seqObj "list" acc.toList.toArray 0) := Heap.get?_push_size _ rfl
  show wpAny _ _ _ _ _ { s with heap := h'.push (seqObj "list" acc.toList.toArray 0), toks := tk }
  refine wpAny_bind (wpAny_holding (wpAny_call_entry PyProof.Rows.slot_list_sort ⟨_, hoL, rfl⟩ PyProof.Rows.entry_list_sort
    (PyProof.Rows.list_sort_treeKAny PyProof.Rows.strKind_oneLt (s := { s with heap := h'.push (seqObj "list" acc.toList.toArray 0), toks := tk }) hoL tx.keysOf (fun v₁ v₂ rest e => PyProof.Rows.keyKind_strs (by rw [← e]; exact tx)) (by rw [al]; exact big) fun st' hp hs => ⟨_, rfl, ?_⟩)
    (PyProof.Rows.args_list_sort _)))
  obtain ⟨ys, g1, g2, g3⟩ := PyProof.Rows.sorted_out_str tx hp hs
  obtain ⟨e', he'⟩ := PyProof.Rows.sortedHeap_at (vs := acc.toList) (out := (arrOf st').map (·.2)) hoL
  have few : (ys.map V.str).length ≤ sizeLine := by rw [List.length_map, g2.length_eq]; exact big
  refine wpAny_pure ⟨_, rfl, .ref h'.objs.size, upd H h'.objs.size (.lst (ys.map V.str)), I1.laid (t' := tk) (fun b u e => ?_) (Nat.le_refl _)
    (show ObjOk X.prog X.w _ _ _ (.lst (ys.map V.str)) from ⟨few, ((arrOf st').map (·.2)).toList, e', vals_of_strs g1, by rw [Array.toArray_toList]; exact he'⟩), rfl, q ys _ g2 g3 (I1.hok.fresh (Nat.le_refl _))⟩
  have hb : b < h'.objs.size := Heap.lt_size e
  rw [PyProof.Rows.sortedHeap_old (Nat.ne_of_lt hb) (by rw [size_push']; exact Nat.lt_succ_of_lt hb)]
  exact Heap.get?_push_of_some _ e
end
end L2
namespace Ml
open PySem PySem.Spec PyProof.Rows L2
theorem sortedSBK {X : Cx} (K : PySem.W.Frag) (hK : X.K = K := by rfl) : CallR X (.builtin "sorted") (rSortedSB K) := by subst hK; exact cr_sortedSB
section
variable {G : Gx} {β : Type} {H : Hp} {L : List (Asn G)} {Q : VK} {a : Addr} {i : Nat}
theorem k_sortedB {xs : List Str} (hS : Sep H L) (hq : SqL G.K H a (xs.map (Fv.enc G))) (few : xs.length ≤ sizeLine) (k : ∀ p H', Sep H' (lstA p (sortT xs) :: L) → Q (.ref p) H') : rSortedSB G.K [.ref a] H Q :=
  ⟨a, xs, rfl, hq, few, fun ys p pm up hp => by rw [sortT_of pm (sorted_leT up)]; exact k p _ (hS.newL hp (imL_strs _))⟩
theorem k_sortRdB {ks : List (Key × V)} {ss : List Str} (hS : Sep H L) (hc : Rd H a (.dK ks)) (e : ks.map (·.1) = ss.map Sum.inr) (h : ss.length ≤ sizeLine) (k : ∀ p H', Sep H' (lstA p (sortT ss) :: L) → Q (.ref p) H') : rSortDB [.ref a] H Q :=
  ⟨a, ks, ss, rfl, hc, e, h, fun ys p pm srt hp => k p _ (hS.newL hp (imL.flat.mpr (by rw [sortT_of pm (sorted_leT srt)]; rfl)))⟩
theorem k_sortDAB [Im G β] {xs : List (Str × β)} (hS : Sep H L) (e : L[i]? = some (dictA a xs)) (h : xs.length ≤ sizeLine) (k : ∀ p H', Sep H' (lstA p (sortT (xs.map (·.1))) :: L) → Q (.ref p) H') : rSortDB [.ref a] H Q := by
  obtain ⟨ps, hc, m⟩ := hS.dict e
  exact k_sortRdB hS (.inl hc) (by rw [m.keys, List.map_map]; rfl) (by rw [List.length_map]; exact h) k
end
end Ml
namespace Ml
open PySem PySem.Spec PyProof.Rows L2
def pdLS (x : List Str) : PyData := .list (x.map .str)
def sortLS (xs : List (List Str)) : List (List Str) := xs.mergeSort (PySem.W.dataLe false pdLS)
theorem sortLS_perm (xs : List (List Str)) : (sortLS xs).Perm xs := List.mergeSort_perm xs _
theorem depth_strs : ∀ xs : List Str, PyData.depthAll (xs.map PyData.str) = 0
  | [] => rfl
  | x :: xs => by
    rw [List.map_cons]
    simp only [PyData.depthAll, PyData.depth, depth_strs xs, Nat.max_self]
theorem k_sortLS {G : Gx} {H : Hp} {L : List (Asn G)} {Q : VK} {a : Addr} {ks : List (List Str)} (hS : Sep H L) (hq : ∃ vs, SqL G.K H a vs ∧ imL (G := G) H vs ks) (hl : ks.length ≤ sizeLine) (k : ∀ p H', Sep H' (lstA p (sortLS ks) :: L) → Q (.ref p) H') : rSortDt G.K [.ref a] H Q :=
  k_sortG pdLS (fun _ => rfl) (fun x y => by unfold pdLS; simp only [PySem.W.alike]; exact alike_strs x y) (.inr fun x => ⟨(fun e => by cases e), (fun xs e => by cases e)⟩) (fun x => by unfold pdLS; simp only [PyData.depth, depth_strs]; decide) hS hq hl k
end Ml
namespace L2
open PySem PySem.Spec PyProof.Rows Ml
def stepPick {α : Type} (xs : List α) (l : Option Int) (i : Int) : List α :=
  (sliceRange (sliceBounds l none (some i) xs.length).1 (sliceBounds l none (some i) xs.length).2.1 (sliceBounds l none (some i) xs.length).2.2).filterMap (xs[·]?)
def tStepX (K : PySem.W.Frag) (te : TE) (tl : TO) (ts : TE) : TE := fun σ H Q => te σ H fun x H1 => tl σ H1 fun l H2 => ts σ H2 fun y H3 => ∃ a xs i, x = .ref a ∧ y = .int i ∧ SqL K H3 a xs ∧ i ≠ 0 ∧ ∀ p, H3 p = none → Q (.ref p) (upd H3 p (.lst (stepPick xs l i)))
theorem vals_get {xs : List V} {us : List Value} (r : Vals xs us) (j : Nat) : (xs[j]? = none ∧ us[j]? = none) ∨ ∃ x u, xs[j]? = some x ∧ us[j]? = some u ∧ RelV x u := by
  induction r generalizing j with
  | nil => exact .inl ⟨by simp, by simp⟩
  | @cons x u xs us h t ih =>
    cases j with
    | zero => exact .inr ⟨x, u, by simp, by simp, h⟩
    | succ j =>
      rcases ih j with ⟨a, b⟩ | ⟨y, v, a, b, c⟩
      · exact .inl ⟨by simpa using a, by simpa using b⟩
      · exact .inr ⟨y, v, by simpa using a, by simpa using b, c⟩
theorem vals_pick {xs : List V} {us : List Value} (r : Vals xs us) : ∀ js : List Nat, Vals (js.filterMap (xs[·]?)) (js.filterMap (us[·]?))
  | [] => .nil
  | j :: js => by
    rcases vals_get r j with ⟨a, b⟩ | ⟨x, u, a, b, c⟩
    · rw [List.filterMap_cons, List.filterMap_cons, a, b]; exact vals_pick r js
    · rw [List.filterMap_cons, List.filterMap_cons, a, b]; exact .cons c (vals_pick r js)
section
variable {X : Cx}
theorem pe_stepX {e e2 : Expr} {lo : Option Expr} {te ts : TE} {tl : TO} {p3 pos : Pos} (K : PySem.W.Frag) (he : PE X e te) (hl : PO X lo tl) (h2 : PE X e2 ts) (hK : X.K = K := by rfl) : PE X (.Subscript e (.Slice lo none (some e2) p3) pos) (tStepX K te tl ts) := by
  subst hK
  refine ⟨fun pins s σ H Q I h => ?_⟩
  refine Subscript_ (thn (he.run pins s σ H _ I h) fun v s1 ⟨x, H1, I1, r1, q1⟩ => ?_)
  refine wpAny_Slice (thn (hl.run pins s1 σ H1 _ I1 q1) fun vl s2 ⟨l, H2, I2, pl, q2⟩ => ?_)
  refine thn (po_none.run pins s2 σ H2 (fun o H3 => o = none ∧ H3 = H2) I2 ⟨rfl, rfl⟩) fun vu s3 ⟨u, H3, I3, pu, eu, e3⟩ => ?_
  subst eu e3
  rw [evalPart_some]
  refine thn (h2.run pins s3 σ H3 _ I3 q2) fun vs s4 ⟨y, H4, I4, ry, q4⟩ => ?_
  obtain ⟨a, xs, i, rfl, rfl, hx, hi, q⟩ := q4
  cases r1
  obtain ⟨tk, rfl⟩ := ry
  have I5 : Inv X pins σ H4 { s4 with heap := s4.heap.push { cls := .type "slice", data := .fields #[vl, vu, .int i tk] } } := I4.kept (t' := s4.toks) fun b ob q => Heap.get?_push_of_some _ q
  obtain ⟨its, r, ht, hz⟩ := I5.list hx
  have ln := r.length
  show wpAny (model X.prog X.w) X.A (subscriptTail e (.Slice lo none (some e2) p3) (.ref a) (.ref s4.heap.objs.size)) (EP X pins σ Q) X.xe { s4 with heap := s4.heap.push { cls := .type "slice", data := .fields #[vl, vu, .int i tk] } }
  refine tail_any (ops := [.ref a, .ref s4.heap.objs.size]) ht.isList.typeIs (PySem.slot_list_getitem.lookup) ?_ (by with_unfolding_all rfl)
  refine wpAny_getItem_list_slice ht.isList (Heap.IsSliceOf.new _ vl vu (.int i tk)) pl pu (.int i tk) (fun z => hi (Option.some.inj z)) ?_ (by rw [List.size_toArray]; omega)
  have ep : slicePick its.toArray l none (some i) = (stepPick its l i).toArray := by
    unfold slicePick stepPick
    simp only [List.size_toArray, List.getElem?_toArray]
  have rp : Vals (stepPick xs l i) (stepPick its l i) := by
    unfold stepPick
    rw [ln]
    exact vals_pick r _
  have sz := slicePick_size_le its.toArray l none (some i)
  rw [ep, List.size_toArray, List.size_toArray] at sz
  rw [ep]
  refine ⟨.ref _, _, I5.laid (t' := s4.toks) (o := .lst (stepPick xs l i)) (fun b ob q => Heap.get?_push_of_some _ q) (Nat.le_refl _) ?_, rfl, q _ (I5.hok.fresh (Nat.le_refl _))⟩
  exact ⟨by rw [rp.length]; omega, _, 0, rp, Heap.get?_push_size _ rfl⟩
end
end L2
namespace Ml
open PySem PySem.Spec PyProof.Rows L2
variable {G : Gx} {σ : L2.St} {H : Hp} {L : List (Asn G)} {Q : VK} {te ts : TE} {tl : TO}
def stepX1 (K : PySem.W.Frag) (tl : TO) (ts : TE) (σ : L2.St) (Q : VK) : VK := fun x H1 => tl σ H1 fun l H2 => ts σ H2 fun y H3 => ∃ a xs i, x = .ref a ∧ y = .int i ∧ SqL K H3 a xs ∧ i ≠ 0 ∧ ∀ p, H3 p = none → Q (.ref p) (upd H3 p (.lst (stepPick xs l i)))
theorem c_stepX {K : PySem.W.Frag} (h : te σ H (stepX1 K tl ts σ Q)) : tStepX K te tl ts σ H Q := h
theorem imL_pick {α : Type} [Im G α] {vs : List V} {xs : List α} (m : imL (G := G) H vs xs) : ∀ js : List Nat, imL (G := G) H (js.filterMap (vs[·]?)) (js.filterMap (xs[·]?))
  | [] => True.intro
  | j :: js => by
    rw [List.filterMap_cons, List.filterMap_cons]
    cases c : xs[j]? with
    | none =>
      have : vs[j]? = none := by
        rw [List.getElem?_eq_none_iff] at c ⊢
        rw [m.len]; exact c
      rw [this]
      exact imL_pick m js
    | some x =>
      obtain ⟨v, hv, hm⟩ := m.get c
      rw [hv]
      exact ⟨hm, imL_pick m js⟩
theorem k_stepX {α : Type} [Im G α] {a : Addr} {xs : List α} {l : Option Int} {i : Int} (hS : Sep H L) (hq : ∃ vs, SqL G.K H a vs ∧ imL (G := G) H vs xs) (hl : Eo tl σ H l) (hs : Ev ts σ H (.int i)) (hi : i ≠ 0) (k : ∀ p H', Sep H' (lstA p (stepPick xs l i) :: L) → Q (.ref p) H') : stepX1 G.K tl ts σ Q (.ref a) H := by
  obtain ⟨vs, h, m⟩ := hq
  refine hl _ (hs _ ⟨a, vs, i, rfl, rfl, h, hi, fun p hp => k p _ (hS.newL hp ?_)⟩)
  unfold stepPick
  rw [m.len]
  exact imL_pick m _
end Ml
namespace Ml
open PySem PySem.Spec PyProof.Rows L2
section
variable {G : Gx} {α : Type} [Im G α] {H : Hp} {L M : List (Asn G)} {p a : Addr} {i : Nat} {xs ys : List α}
def ordA (p a : Addr) (xs ys : List α) : Asn G := exA fun (b : Bool) => if b = true then andA (p = a ∧ xs = ys) (lstA a xs) else star [lstA p ys, lstA a xs]
theorem ord_same (h : Sep H (lstA a xs :: M)) : Sep H (ordA a a xs xs :: M) := Sep.exI true (Sep.andI ⟨rfl, rfl⟩ h)
theorem ord_new (h : Sep H (lstA p ys :: lstA a xs :: M)) : Sep H (ordA p a xs ys :: M) := Sep.exI false (Sep.unstar1 (L := [lstA p ys, lstA a xs]) h)
theorem ord_out (h : Sep H (ordA p a xs ys :: M)) : (p = a ∧ xs = ys ∧ Sep H (lstA a xs :: M)) ∨ Sep H (lstA p ys :: lstA a xs :: M) := by
  obtain ⟨b, h⟩ := Sep.ex h
  cases b with
  | true =>
    obtain ⟨e, h⟩ := Sep.and h
    exact .inl ⟨e.1, e.2, h⟩
  | false => exact .inr (Sep.star1 (L := [lstA p ys, lstA a xs]) h)
theorem ord_drop (h : Sep H (ordA p a xs ys :: M)) : Sep H (lstA a xs :: M) := by
  rcases ord_out h with ⟨_, _, h⟩ | h
  · exact h
  · exact h.tail
theorem ord_sq (h : Sep H L) (e : L[i]? = some (ordA p a xs ys)) : ∃ vs, SqL G.K H p vs ∧ imL (G := G) H vs ys := by
  rcases ord_out (h.perm (pull_perm e)) with ⟨rfl, rfl, h⟩ | h
  · exact h.sq (i := 0) rfl
  · exact h.sq (i := 0) rfl
end
end Ml
namespace Lw
open PySem PySem.Spec PyProof.Rows L2 Ml
def top (i : Nat) : Stmt := PySem.Challenge.pw_mailroom_k23_great_threads.main.body.getD i (.Pass ⟨0, 0, 0, 0⟩)
abbrev s_Threads___init__ : Stmt := inClass (top 4) 0
abbrev s_Threads_pile : Stmt := inClass (top 4) 1
abbrev s_Threads_put_together : Stmt := inClass (top 4) 2
abbrev s_Threads_hang : Stmt := inClass (top 4) 3
abbrev s_Threads_sure : Stmt := inClass (top 4) 4
abbrev s_Threads_add : Stmt := inClass (top 4) 5
abbrev s_Threads_take_out : Stmt := inClass (top 4) 6
abbrev s_Threads_names : Stmt := inClass (top 4) 7
abbrev s_Threads_thread : Stmt := inClass (top 4) 8
abbrev s_Threads_threads : Stmt := inClass (top 4) 9
abbrev s_Threads_answers_to : Stmt := inClass (top 4) 10
abbrev s_Threads_depth : Stmt := inClass (top 4) 11
abbrev s_law_draws : Stmt := top 6
abbrev s_law_name_by : Stmt := top 7
abbrev s_law_is_list : Stmt := top 8
abbrev s_law_rows : Stmt := top 9
abbrev s_law_order : Stmt := top 10
abbrev s_law_joined : Stmt := top 11
abbrev s_law_deep : Stmt := top 12
abbrev s_law_stands : Stmt := top 13
abbrev s_law : Stmt := top 14
def asM : List Addr := ([3, 24, 37, 132, 2, 23, 36, 131, 53, 60, 67, 74, 81, 89, 96, 103, 108, 115, 122, 129, 143, 150, 155, 160, 167, 172, 179, 184, 191, 15, 22, 28, 35, 47, 49, 50, 54, 56, 57, 61] : List Addr) ++ ([63, 64, 68, 70, 71, 75, 77, 78, 82, 83, 85, 86, 90, 92, 93, 97, 99, 100, 104, 109, 111, 112, 116, 118, 119, 123, 125, 126, 130, 137, 139, 140, 144, 146, 147, 151, 156, 161, 163, 164] : List Addr) ++ ([168, 173, 175, 176, 180, 185, 187, 188, 25, 52, 59, 66, 73, 80, 88, 95, 102, 107, 114, 121, 128, 133, 134, 142, 149, 154, 159, 166, 171, 178, 183, 190] : List Addr)
theorem fxM {l : List Bool} (h : l.all id = true) (i : Nat) {b : Bool} (e : l[i]? = some b) : b = true := List.all_eq_true.mp h b (List.mem_of_getElem? e)
def fb0 (K : PySem.W.Frag) : List Bool := [
  decide (PySem.W.nsIn K mainGlobals "MailError" = some (some (.ref 24))),
  decide (PySem.W.nsIn K mainGlobals "NoName" = some (some (.ref 37))),
  decide (PySem.W.nsIn K mainGlobals "Threads" = some (some (.ref 132))),
  decide (PySem.W.findIn K (.ref 132) "__init__" = some (some (.ref 53))),
  decide (PySem.W.isFn K (.ref 53) = true),
  decide (PySem.W.makesIn K 132 = true),
  decide (PySem.W.keepIn K (.ref 132) = true),
  decide (PySem.W.findIn K (.ref 132) "pile" = some (some (.ref 60))),
  decide (PySem.W.isFn K (.ref 60) = true),
  decide (PySem.W.findIn K (.ref 132) "put_together" = some (some (.ref 67))),
  decide (PySem.W.isFn K (.ref 67) = true),
  decide (PySem.W.findIn K (.ref 132) "hang" = some (some (.ref 74))),
  decide (PySem.W.isFn K (.ref 74) = true),
  decide (PySem.W.findIn K (.ref 132) "sure" = some (some (.ref 81))),
  decide (PySem.W.isFn K (.ref 81) = true),
  decide (PySem.W.findIn K (.ref 132) "add" = some (some (.ref 89))),
  decide (PySem.W.isFn K (.ref 89) = true),
  decide (PySem.W.findIn K (.ref 132) "take_out" = some (some (.ref 96))),
  decide (PySem.W.isFn K (.ref 96) = true),
  decide (PySem.W.findIn K (.ref 132) "names" = some (some (.ref 103))),
  decide (PySem.W.isFn K (.ref 103) = true),
  decide (PySem.W.findIn K (.ref 132) "thread" = some (some (.ref 108))),
  decide (PySem.W.isFn K (.ref 108) = true),
  decide (PySem.W.findIn K (.ref 132) "threads" = some (some (.ref 115))),
  decide (PySem.W.isFn K (.ref 115) = true),
  decide (PySem.W.findIn K (.ref 132) "answers_to" = some (some (.ref 122))),
  decide (PySem.W.isFn K (.ref 122) = true),
  decide (PySem.W.findIn K (.ref 132) "depth" = some (some (.ref 129))),
  decide (PySem.W.isFn K (.ref 129) = true),
  decide (PySem.W.nsIn K mainGlobals "_law_draws" = some (some (.ref 143))),
  decide (PySem.W.nsIn K mainGlobals "_law_name_by" = some (some (.ref 150))),
  decide (PySem.W.nsIn K mainGlobals "_law_is_list" = some (some (.ref 155))),
  decide (PySem.W.nsIn K mainGlobals "_law_rows" = some (some (.ref 160))),
  decide (PySem.W.nsIn K mainGlobals "_law_order" = some (some (.ref 167))),
  decide (PySem.W.nsIn K mainGlobals "_law_joined" = some (some (.ref 172))),
  decide (PySem.W.nsIn K mainGlobals "_law_deep" = some (some (.ref 179))),
  decide (PySem.W.nsIn K mainGlobals "_law_stands" = some (some (.ref 184))),
  decide (PySem.W.nsIn K mainGlobals "law" = some (some (.ref 191))),
  decide (PySem.W.excIn K 37 [.type "ValueError", .type "Exception", .type "BaseException", .type "object"] "ValueError.__new__" = true),
  decide (PySem.W.keepIn K (.ref 37) = true)]
def fb1 (K : PySem.W.Frag) : List Bool := [
  decide (PySem.W.subIn K (.ref 37) (.type "BaseException") = some true),
  decide (PySem.W.typeIn K (.ref 37) = some (.type "type")),
  decide (PySem.W.plainGet K 132 Str.empty = true),
  decide (PySem.W.hasDictIn K 132 = true),
  decide (PySem.W.plainOver K 132 = true),
  decide (PySem.W.findIn K (.ref 132) "__setattr__" = some (some (.builtin "object.__setattr__"))),
  decide (PySem.W.findIn K (.ref 132) "goes_to" = some none),
  decide (PySem.W.findIn K (.ref 132) "pile_of" = some none),
  decide (PySem.W.findIn K (.ref 132) "piles" = some none),
  decide (PySem.W.findIn K (.ref 132) "comes_from" = some none),
  decide (PySem.W.findIn K (.ref 132) "made" = some none),
  decide (PySem.W.nsIn K mainGlobals "all" = some none),
  decide (PySem.W.nsIn K mainGlobals "dict" = some none),
  decide (PySem.W.nsIn K mainGlobals "int" = some none),
  decide (PySem.W.nsIn K mainGlobals "isinstance" = some none),
  decide (PySem.W.nsIn K mainGlobals "len" = some none),
  decide (PySem.W.nsIn K mainGlobals "list" = some none),
  decide (PySem.W.nsIn K mainGlobals "max" = some none),
  decide (PySem.W.nsIn K mainGlobals "min" = some none),
  decide (PySem.W.nsIn K mainGlobals "range" = some none),
  decide (PySem.W.nsIn K mainGlobals "sorted" = some none),
  decide (PySem.W.nsIn K mainGlobals "str" = some none)]
def dfn0 : He5.DefA := ⟨fun _ => 53, "__init__", "Threads.__init__", defArgs s_Threads___init__, defBody s_Threads___init__, defScope s_Threads___init__, [], []⟩
def dfn1 : He5.DefA := ⟨fun _ => 60, "pile", "Threads.pile", defArgs s_Threads_pile, defBody s_Threads_pile, defScope s_Threads_pile, [], []⟩
def dfn2 : He5.DefA := ⟨fun _ => 67, "put_together", "Threads.put_together", defArgs s_Threads_put_together, defBody s_Threads_put_together, defScope s_Threads_put_together, [], []⟩
def dfn3 : He5.DefA := ⟨fun _ => 74, "hang", "Threads.hang", defArgs s_Threads_hang, defBody s_Threads_hang, defScope s_Threads_hang, [], []⟩
def dfn4 : He5.DefA := ⟨fun _ => 81, "sure", "Threads.sure", defArgs s_Threads_sure, defBody s_Threads_sure, defScope s_Threads_sure, [], []⟩
def dfn5 : He5.DefA := ⟨fun _ => 89, "add", "Threads.add", defArgs s_Threads_add, defBody s_Threads_add, defScope s_Threads_add, [.str ("" : Str)], []⟩
def dfn6 : He5.DefA := ⟨fun _ => 96, "take_out", "Threads.take_out", defArgs s_Threads_take_out, defBody s_Threads_take_out, defScope s_Threads_take_out, [], []⟩
def dfn7 : He5.DefA := ⟨fun _ => 103, "names", "Threads.names", defArgs s_Threads_names, defBody s_Threads_names, defScope s_Threads_names, [], []⟩
def dfn8 : He5.DefA := ⟨fun _ => 108, "thread", "Threads.thread", defArgs s_Threads_thread, defBody s_Threads_thread, defScope s_Threads_thread, [], []⟩
def dfn9 : He5.DefA := ⟨fun _ => 115, "threads", "Threads.threads", defArgs s_Threads_threads, defBody s_Threads_threads, defScope s_Threads_threads, [], []⟩
def dfn10 : He5.DefA := ⟨fun _ => 122, "answers_to", "Threads.answers_to", defArgs s_Threads_answers_to, defBody s_Threads_answers_to, defScope s_Threads_answers_to, [], []⟩
def dfn11 : He5.DefA := ⟨fun _ => 129, "depth", "Threads.depth", defArgs s_Threads_depth, defBody s_Threads_depth, defScope s_Threads_depth, [], []⟩
def dfn12 : He5.DefA := ⟨fun _ => 143, "_law_draws", "_law_draws", defArgs s_law_draws, defBody s_law_draws, defScope s_law_draws, [], []⟩
def dfn13 : He5.DefA := ⟨fun _ => 150, "_law_name_by", "_law_name_by", defArgs s_law_name_by, defBody s_law_name_by, defScope s_law_name_by, [], []⟩
def dfn14 : He5.DefA := ⟨fun _ => 155, "_law_is_list", "_law_is_list", defArgs s_law_is_list, defBody s_law_is_list, defScope s_law_is_list, [], []⟩
def dfn15 : He5.DefA := ⟨fun _ => 160, "_law_rows", "_law_rows", defArgs s_law_rows, defBody s_law_rows, defScope s_law_rows, [], []⟩
def dfn16 : He5.DefA := ⟨fun _ => 167, "_law_order", "_law_order", defArgs s_law_order, defBody s_law_order, defScope s_law_order, [], []⟩
def dfn17 : He5.DefA := ⟨fun _ => 172, "_law_joined", "_law_joined", defArgs s_law_joined, defBody s_law_joined, defScope s_law_joined, [], []⟩
def dfn18 : He5.DefA := ⟨fun _ => 179, "_law_deep", "_law_deep", defArgs s_law_deep, defBody s_law_deep, defScope s_law_deep, [], []⟩
def dfn19 : He5.DefA := ⟨fun _ => 184, "_law_stands", "_law_stands", defArgs s_law_stands, defBody s_law_stands, defScope s_law_stands, [], []⟩
def dfn20 : He5.DefA := ⟨fun _ => 191, "law", "law", defArgs s_law, defBody s_law, defScope s_law, [], []⟩
def dfns0 : List He5.DefA := [dfn0, dfn1, dfn2, dfn3, dfn4, dfn5, dfn6, dfn7, dfn8, dfn9, dfn10, dfn11, dfn12, dfn13, dfn14, dfn15, dfn16, dfn17, dfn18, dfn19, dfn20]
def factsK (K : PySem.W.Frag) : Bool := (fb0 K).all id && (fb1 K).all id
def obsD (ds : List He5.DefA) (K : PySem.W.Frag) : Bool × List He.FnW := (ds.all fun d => d.ok K, ds.map fun d => He5.fnA K (d.at_ K))
def valD (ds : List He5.DefA) : Bool × List He.FnW := (true, ds.map He5.DefA.val)
abbrev ObT : Type := Bool × (Bool × List He.FnW)
def obsK (K : PySem.W.Frag) : ObT := (factsK K, obsD dfns0 K)
def valK : ObT := (true, valD dfns0)
def hookM : PySem.W.Hook where
  α := ObT
  obs := fun s => obsK (He.frG s.heap.get? asM)
  val := fun _ => valK
  says := fun _ h => ∃ K : PySem.W.Frag, K.In h ∧ obsK K = valK
  of := fun _ _ e => ⟨_, He.frG_in, e⟩
  keeps := fun _ _ _ ⟨K, hK, c⟩ k => ⟨K, PySem.W.Frag.In.keeps hK k, c⟩
def obM (s : PySem.W.SharedT) : ObT := obsK (He.frG (HandSHeadRun.getT s) asM)
theorem obM_eq (s : PySem.W.SharedT) : obM s = hookM.obs s.abs := by
  have e : HandSHeadRun.getT s = s.abs.heap.get? := funext (HandSHeadRun.getT_eq s)
  show obsK (He.frG (HandSHeadRun.getT s) asM) = obsK (He.frG s.abs.heap.get? asM)
  rw [e]
theorem defM {K : PySem.W.Frag} {ds : List He5.DefA} (c : obsD ds K = valD ds) (i : Nat) {d : He5.DefA} (h : ds[i]? = some d) : ∃ fd, FunD K d.name d.qual d.params d.body d.scope (d.dvs K) (d.kws K) (d.at_ K) fd := by
  have c2 : (ds.all fun d => d.ok K) = true := congrArg (fun z : Bool × List He.FnW => z.1) c
  have e : ds.map (fun d => He5.fnA K (d.at_ K)) = ds.map He5.DefA.val := congrArg (fun z : Bool × List He.FnW => z.2) c
  have e2 : (ds.map fun d => He5.fnA K (d.at_ K))[i]? = (ds.map He5.DefA.val)[i]? := by rw [e]
  rw [List.getElem?_map, List.getElem?_map, h] at e2
  exact He5.DefA.funD (Option.some.inj e2) (List.all_eq_true.mp c2 d (List.mem_of_getElem? h))
def namesM : List PySem.Str := (["__name__", "MailError", "NoName", "Threads", "_law_draws", "_law_name_by", "_law_is_list", "_law_rows", "_law_order", "_law_joined", "_law_deep", "_law_stands"] : List PySem.Str)
abbrev rowM : PySem.W.OpenRow := PySem.W.OpenLaw.row PySem.Challenge.rw_mailroom_k23_great_threads
open PySem.W PySem.Calls HandSHeadRun in
noncomputable abbrev endM (w : World) (os : OsState) : Option PySem.W.SharedT := HandSHeadRun.endF (HandSHeadRun.stepQ (HandSHeadRun.denQ HandSHeadRun.tabQ) rowM.prog w) 40000 rowM.prog w os
open PySem PySem.W PySem.Calls PyProof.Rows HandSHeadRun in
noncomputable abbrev seenM (w : World) (s : SharedT) := (looksF rowM.prog (boot_heap w.params) s.abs, HandSHeadRun.seenQ (view rowM.prog [14]) namesM (importedModules rowM.prog.main.body) (fun s => xlAt (view rowM.prog [14]) [] s && recOk rowM.toRowW.records s) s.abs)
theorem rc_pair {S α β : Type} {o : Option S} {f : S → α} {g : S → β} {a : α} {b : β} (h : o.map f = some a) (k : o.map g = some b) : o.map (fun s => (f s, g s)) = some (a, b) := by
  cases o with
  | none => cases h
  | some s =>
    cases h; cases k; rfl
theorem rc_top {S α β γ : Type} {o : Option S} {f : S → α × β} {g : S → γ} {a : α} {b : β} {c : γ} (h : o.map f = some (a, b)) (k : o.map g = some c) : o.map (fun s => ((f s).1, (f s).2, g s)) = some (a, b, c) := by
  cases o with
  | none => cases h
  | some s =>
    have h : f s = (a, b) := Option.some.inj h
    have k : g s = c := Option.some.inj k
    show some ((f s).1, (f s).2, g s) = _
    rw [h, k]
theorem run00 (w : World) : ∀ os : OsState, (endM w os).map (fun s => (seenM w s, factsK (He.frG (HandSHeadRun.getT s) asM))) = some ((true, PySem.W.openGood (PySem.W.view rowM.prog [14]) namesM), true) := by
  intro os
  kernel_rfl
theorem rc_l {S α β : Type} {o : Option S} {f : S → α} {g : S → β} {a : α} {b : β} (h : o.map (fun s => (f s, g s)) = some (a, b)) : o.map f = some a ∧ o.map g = some b := by
  cases o with
  | none => cases h
  | some s =>
    have h : (f s, g s) = (a, b) := Option.some.inj h
    exact ⟨congrArg (fun z : α × β => some z.1) h, congrArg (fun z : α × β => some z.2) h⟩
theorem run0 (w : World) (os : OsState) : (endM w os).map (seenM w) = some (true, PySem.W.openGood (PySem.W.view rowM.prog [14]) namesM) := (rc_l (run00 w os)).1
theorem runF (w : World) (os : OsState) : (endM w os).map (fun s => factsK (He.frG (HandSHeadRun.getT s) asM)) = some true := (rc_l (run00 w os)).2
theorem runD0 (w : World) : ∀ os : OsState, (endM w os).map (fun s => obsD dfns0 (He.frG (HandSHeadRun.getT s) asM)) = some (valD dfns0) := by
  intro os
  kernel_rfl
theorem runM (w : World) : HandSHeadRun.RunEq rowM (PySem.W.view rowM.prog [14]) hookM obM 40000 namesM w := by
  intro os
  have hs := run0 w os
  have hF := runF w os
  have h0 := runD0 w os
  revert hs hF h0
  show _ → _ → _ → (endM w os).map (fun s => ((seenM w s).1, (seenM w s).2, obM s)) = some (true, PySem.W.openGood (PySem.W.view rowM.prog [14]) namesM, valK)
  generalize endM w os = o
  intro hs hF h0
  exact rc_top hs (rc_pair hF (h0))
end Lw
namespace Lw
open PySem L2 Ml
structure Threads where
  goes_to : (List (Str × Str))
  pile_of : (List (Str × Int))
  piles : (List (Int × (List Str)))
  comes_from : (List (Str × (List (Str × Bool))))
  made : Int
def m_Threads___init__  : R Threads :=
R.ok ((⟨([] : (List (Str × Str))), ([] : (List (Str × Int))), ([] : (List (Int × (List Str)))), ([] : (List (Str × (List (Str × Bool))))), 0⟩ : Threads))
def m_Threads_pile (v_self : Threads) (v_name : Str) : R (Int × Threads) :=
(if (!dhas v_self.pile_of v_name) = true then (
R.need (v_self.pile_of.length < sizeLine) <|
R.need (v_self.piles.length < sizeLine) <|
R.need (dhas v_self.piles (v_self.made + 1) = false) <|
R.ok (dput v_self.pile_of v_name (v_self.made + 1), v_self.piles ++ [(v_self.made + 1, [v_name])], v_self.made + 1)) else (
R.ok (v_self.pile_of, v_self.piles, v_self.made))).bind fun (s6 : (List (Str × Int)) × (List (Int × (List Str))) × Int) =>
(dgetR s6.1 v_name).bind fun y11 =>
R.ok ((y11, (⟨v_self.goes_to, s6.1, s6.2.1, v_self.comes_from, s6.2.2⟩ : Threads)))
def m_Threads_put_together (v_self : Threads) (v_one : Int) (v_other : Int) : R Threads :=
if (decide (v_one = v_other)) = true then (
R.ok (v_self)) else (
(dgetR v_self.piles v_one).bind fun x7 =>
(dgetR v_self.piles v_other).bind fun x15 =>
(if (decide ((x7.length : Int) < (x15.length : Int))) = true then (
R.ok (v_other, v_one)) else (
R.ok (v_one, v_other))).bind fun (s23 : Int × Int) =>
(dgetR v_self.piles s23.2).bind fun y24 =>
(forR (fun (s26 : (List (Str × Int))) (x27 : Str) =>
R.need (s26.length < sizeLine) <|
R.ok (dput s26 x27 s23.1)) (y24) (v_self.pile_of)).bind fun (s26 : (List (Str × Int))) =>
(dgetR (ddrop v_self.piles s23.2) s23.1).bind fun y31 =>
R.need ((ddrop v_self.piles s23.2).length < sizeLine) <|
R.need (y31.length + y24.length ≤ sizeLine) <|
R.ok ((⟨v_self.goes_to, s26, dput (ddrop v_self.piles s23.2) s23.1 (y31 ++ y24), v_self.comes_from, v_self.made⟩ : Threads)))
def m_Threads_hang (v_self : Threads) (v_name : Str) : R Threads :=
(m_Threads_pile v_self v_name).bind fun r6 =>
(dgetR r6.2.goes_to v_name).bind fun y12 =>
(if (!decide (y12 = ("" : Str))) = true then (
(dgetR r6.2.goes_to v_name).bind fun y22 =>
(m_Threads_pile r6.2 y22).bind fun r26 =>
(m_Threads_put_together r26.2 r6.1 r26.1).bind fun r32 =>
R.ok (r32)) else (
R.ok (r6.2))).bind fun (s16 : Threads) =>
R.ok (s16)
def m_Threads_sure (v_self : Threads) (v_name : Str) : R Unit :=
if (!dhas v_self.goes_to v_name) = true then (
R.need ((v_name).length ≤ sizeLine) <|
R.need ((Str.empty ++ v_name).length ≤ sizeLine) <|
R.need (((Str.empty ++ v_name) ++ (" isn't there" : Str)).length ≤ sizeLine) <|
.exc ⟨1, 0⟩) else (
R.ok (()))
def m_Threads_add (v_self : Threads) (v_name : Str) (v_answers : Str) : R Threads :=
if (dhas v_self.goes_to v_name) = true then (
R.need ((v_name).length ≤ sizeLine) <|
R.need ((Str.empty ++ v_name).length ≤ sizeLine) <|
R.need (((Str.empty ++ v_name) ++ (" is there" : Str)).length ≤ sizeLine) <|
.exc ⟨1, 0⟩) else (
R.need (v_self.goes_to.length < sizeLine) <|
R.need (v_self.comes_from.length < sizeLine) <|
R.need (((dget v_self.comes_from v_answers).getD ([] : (List (Str × Bool)))).length < sizeLine) <|
(R.noexc (m_Threads_hang (⟨dput v_self.goes_to v_name v_answers, v_self.pile_of, v_self.piles, dput (setE v_self.comes_from v_answers ([] : (List (Str × Bool)))) v_answers (dput ((dget v_self.comes_from v_answers).getD ([] : (List (Str × Bool)))) v_name true), v_self.made⟩ : Threads) v_name)).bind fun r21 =>
R.ok (r21))
def m_Threads_take_out (v_self : Threads) (v_name : Str) : R Threads :=
(m_Threads_sure v_self v_name).bind fun r6 =>
(dgetR v_self.goes_to v_name).bind fun y12 =>
(dgetR v_self.comes_from y12).bind fun x14 =>
(dgetR x14 v_name).bind fun y22 =>
(dgetR (dput v_self.comes_from y12 (ddrop x14 v_name)) y12).bind fun x24 =>
(if (decide ((x24.length : Int) = 0)) = true then (
(dgetR (dput v_self.comes_from y12 (ddrop x14 v_name)) y12).bind fun y36 =>
R.ok (ddrop (dput v_self.comes_from y12 (ddrop x14 v_name)) y12)) else (
R.ok (dput v_self.comes_from y12 (ddrop x14 v_name)))).bind fun (s35 : (List (Str × (List (Str × Bool))))) =>
(dgetR v_self.pile_of v_name).bind fun y38 =>
(dgetR v_self.piles y38).bind fun y42 =>
(forR (fun (s44 : (List (Str × Int))) (x45 : Str) =>
(dgetR s44 x45).bind fun y48 =>
R.ok (ddrop s44 x45)) (y42) (v_self.pile_of)).bind fun (s44 : (List (Str × Int))) =>
(forR (fun (s50 : Threads) (x51 : Str) =>
(if (dhas s50.goes_to x51) = true then (
(R.noexc (m_Threads_hang s50 x51)).bind fun r65 =>
R.ok (r65)) else (
R.ok (s50))).bind fun (s59 : Threads) =>
R.ok (s59)) (y42) ((⟨ddrop v_self.goes_to v_name, s44, ddrop v_self.piles y38, s35, v_self.made⟩ : Threads))).bind fun (s50 : Threads) =>
R.ok (s50)
def m_Threads_names (v_self : Threads) : R ((List Str)) :=
R.need (v_self.goes_to.length ≤ sizeLine) <|
R.ok (sortT (v_self.goes_to.map (·.1)))
def m_Threads_thread (v_self : Threads) (v_name : Str) : R ((List Str)) :=
(m_Threads_sure v_self v_name).bind fun r6 =>
(dgetR v_self.pile_of v_name).bind fun y12 =>
(dgetR v_self.piles y12).bind fun x16 =>
R.need ((x16).length ≤ sizeLine) <|
(compR (fun (_ : Unit) (x26 : Str) =>
if (dhas v_self.goes_to x26) = true then (
R.ok ((), some (x26))) else R.ok ((), none)) (x16) ()).bind fun (t30 : Unit × List Str) =>
R.need (t30.2.length ≤ sizeLine) <|
R.ok (sortT t30.2)
def m_Threads_threads (v_self : Threads) : R ((List (List Str))) :=
R.need (v_self.goes_to.length ≤ sizeLine) <|
(forF (ρ := ((List (List Str)))) (fun (s10 : (List (List Str)) × (List (Int × Bool))) (x11 : Str) =>
(dgetR v_self.pile_of x11).bind fun y20 =>
if (dhas s10.2 y20) = true then (
R.ok (.go (s10.1, s10.2))) else (
(dgetR v_self.pile_of x11).bind fun y25 =>
R.need (s10.2.length < sizeLine) <|
(m_Threads_thread v_self x11).bind fun r30 =>
R.need (s10.1.length < sizeLine) <|
R.ok (.go (s10.1 ++ [r30], dput s10.2 y25 true)))) (sortT (v_self.goes_to.map (·.1))) (([] : (List (List Str))), ([] : (List (Int × Bool))))).bind (contF (fun (s10 : (List (List Str)) × (List (Int × Bool))) =>
R.ok (s10.1)) (fun o44 => .ok o44))
def m_Threads_answers_to (v_self : Threads) (v_name : Str) : R ((List Str)) :=
R.need (((dget v_self.comes_from v_name).getD ([] : (List (Str × Bool)))).length ≤ sizeLine) <|
R.ok (sortT (((dget v_self.comes_from v_name).getD ([] : (List (Str × Bool)))).map (·.1)))
def m_Threads_depth (v_self : Threads) (v_name : Str) : R Int :=
(m_Threads_sure v_self v_name).bind fun r6 =>
(R.ok (mergeD [] ([(v_name, true)] : (List (Str × Bool))) : (List (Str × Bool)))).bind fun y13 =>
(dgetR v_self.goes_to v_name).bind fun y14 =>
(whileN 100 (fun (s18 : (List (Str × Bool)) × Str) => (dhas v_self.goes_to s18.2) && (!dhas s18.1 s18.2)) (fun (s18 : (List (Str × Bool)) × Str) =>
R.need (s18.1.length < sizeLine) <|
(dgetR v_self.goes_to s18.2).bind fun y20 =>
R.ok (dput s18.1 s18.2 true, y20)) (y13, y14)).bind fun (s18 : (List (Str × Bool)) × Str) =>
R.ok ((s18.1.length : Int) - 1)
def m_law_draws (v_law_script : Script) (v_law_many : Int) : R ((List Int)) :=
R.need (-(2 ^ 62) ≤ v_law_many ∧ v_law_many < 2 ^ 62) <|
(forR (fun (s3 : (List Int) × Int) (x4 : Int) =>
(if (decide (0 < (v_law_script.ns.length : Int))) = true then (
R.need ((0 : Int) < (v_law_script.ns.length : Int)) <|
(idxR v_law_script.ns (x4 % (v_law_script.ns.length : Int))).bind fun x10 =>
R.ok (x10)) else (
R.ok (0))).bind fun (s8 : Int) =>
(R.ok (((((s3.2 * 48271) + s8) + x4) + 1) % 2147483647 : Int)).bind fun y11 =>
R.need (mulOk (y11) (y11)) <|
R.need (s3.1.length < sizeLine) <|
R.ok (s3.1 ++ [(y11 * y11) % 2147483629], y11)) (rngL 0 (v_law_many).toNat) (([] : (List Int)), 7)).bind fun (s3 : (List Int) × Int) =>
R.ok (s3.1)
def m_law_name_by (v_law_shape : Int) (v_law_k : Int) : R Str :=
if (decide ((v_law_shape % 4) = 0)) = true then (
(idxR (("abcdefghijklmnopqrstuvwxyz0123456789" : Str)).cps.toList (((v_law_shape / 4) + (v_law_k / 20)) % 36)).bind fun c2 =>
R.need ((sg (c2)).length * (1 + (v_law_k % 20) : Int).toNat ≤ sizeLine ∧ -(2 ^ 62) ≤ (1 + (v_law_k % 20) : Int) ∧ (1 + (v_law_k % 20) : Int) < 2 ^ 62) <|
R.ok (repS (sg (c2)) (1 + (v_law_k % 20) : Int).toNat)) else (
(R.ok ((v_law_shape / 4) % 18 : Int)).bind fun y4 =>
R.need ((0 : Int) < (19 - y4)) <|
R.need (-(2 ^ 62) ≤ ((y4 + 2) + ((v_law_shape / 72) % (19 - y4))) ∧ ((y4 + 2) + ((v_law_shape / 72) % (19 - y4))) < 2 ^ 62) <|
(forR (fun (s7 : Str) (x8 : Int) =>
(if (decide (x8 = y4)) = true then (
(idxR (("abcdefghijklmnopqrstuvwxyz0123456789" : Str)).cps.toList (((v_law_shape / 1368) + (v_law_k / 36)) % 36)).bind fun c12 =>
R.need ((s7).length + (sg (c12)).length ≤ sizeLine) <|
(R.ok (s7 ++ (sg (c12)) : Str)).bind fun y14 =>
R.ok (y14)) else (
(if (decide (x8 = (y4 + 1))) = true then (
(idxR (("abcdefghijklmnopqrstuvwxyz0123456789" : Str)).cps.toList (((v_law_shape / 49248) + v_law_k) % 36)).bind fun c16 =>
R.need ((s7).length + (sg (c16)).length ≤ sizeLine) <|
(R.ok (s7 ++ (sg (c16)) : Str)).bind fun y18 =>
R.ok (y18)) else (
R.need (mulOk (x8) (1 + (v_law_shape % 7))) <|
(idxR (("abcdefghijklmnopqrstuvwxyz0123456789" : Str)).cps.toList (((v_law_shape / 3) + (x8 * (1 + (v_law_shape % 7)))) % 36)).bind fun c20 =>
R.need ((s7).length + (sg (c20)).length ≤ sizeLine) <|
(R.ok (s7 ++ (sg (c20)) : Str)).bind fun y22 =>
R.ok (y22))).bind fun (s15 : Str) =>
R.ok (s15))).bind fun (s11 : Str) =>
R.ok (s11)) (rngL 0 ((y4 + 2) + ((v_law_shape / 72) % (19 - y4))).toNat) (("" : Str))).bind fun (s7 : Str) =>
R.ok (s7))
def m_law_is_list (v_law_found : (List Str)) (v_law_due : (List Str)) : R Bool :=
R.need (Lay.lay (v_law_found : (List Str)) = true) <|
R.need (Lay.lay (v_law_due : (List Str)) = true) <|
if (!decide ((v_law_found : (List Str)) = v_law_due)) = true then (
R.ok (false)) else (
R.need ((v_law_found).length ≤ sizeLine) <|
(compR (fun (_ : Unit) (x6 : Str) =>
R.ok ((), some (true))) (v_law_found) ()).bind fun (t9 : Unit × List Bool) =>
R.ok (t9.2.all id))
def m_law_is_list_IL (v_law_found : (List (List Str))) (v_law_due : (List (List Str))) : R Bool :=
R.need (Lay.lay (v_law_found : (List (List Str))) = true) <|
R.need (Lay.lay (v_law_due : (List (List Str))) = true) <|
if (!decide ((v_law_found : (List (List Str))) = v_law_due)) = true then (
R.ok (false)) else (
R.need ((v_law_found).length ≤ sizeLine) <|
(compR (fun (_ : Unit) (x6 : (List Str)) =>
R.ok ((), some (true))) (v_law_found) ()).bind fun (t11 : Unit × List Bool) =>
R.ok (t11.2.all id))
def m_law_is_list_P (v_law_found : (List Str)) (v_law_due : (List Str)) : R Bool :=
R.need (Lay.lay (v_law_found : (List Str)) = true) <|
R.need (Lay.lay (v_law_due : (List Str)) = true) <|
if (!decide ((v_law_found : (List Str)) = v_law_due)) = true then (
R.ok (false)) else (
R.need ((v_law_found).length ≤ sizeLine) <|
(compR (fun (_ : Unit) (x6 : Str) =>
R.ok ((), some (true))) (v_law_found) ()).bind fun (t9 : Unit × List Bool) =>
R.ok (t9.2.all id))
def m_law_rows (v_law_draws_here : (List Int)) (v_law_many : Int) : R ((List (Str × Str))) :=
R.need (-(2 ^ 62) ≤ v_law_many ∧ v_law_many < 2 ^ 62) <|
R.need ((rngL 0 (v_law_many).toNat).length ≤ sizeLine) <|
(compR (fun (_ : Unit) (x4 : Int) =>
(idxR v_law_draws_here (0)).bind fun x7 =>
(m_law_name_by x7 x4).bind fun r8 =>
R.ok ((), some (r8))) (rngL 0 (v_law_many).toNat) ()).bind fun (t9 : Unit × List Str) =>
(idxR v_law_draws_here (2)).bind fun x10 =>
(R.ok (1 + (x10 % 7) : Int)).bind fun y11 =>
R.need (-(2 ^ 62) ≤ v_law_many ∧ v_law_many < 2 ^ 62) <|
(forR (fun (s14 : (List (Str × Str))) (x15 : Int) =>
(idxR t9.2 (if ((x15 + 1) - (2 * (x15 % 2))) < (v_law_many - 1) then (x15 + 1) - (2 * (x15 % 2)) else v_law_many - 1)).bind fun x20 =>
(idxR t9.2 (if (x15 - 1) > 0 then x15 - 1 else 0)).bind fun x21 =>
(idxR t9.2 (0)).bind fun x22 =>
(idxR t9.2 (0)).bind fun x23 =>
R.need ((x23).length ≤ sizeLine) <|
R.need ((("zz" : Str)).length + (cutS x23 none (some (18))).length ≤ sizeLine) <|
R.need ((0 : Int) < v_law_many) <|
(idxR t9.2 ((x15 + y11) % v_law_many)).bind fun x27 =>
(R.ok ([x21, x22, ("zz" : Str) ++ (cutS x23 none (some (18))), x27, x20, ("" : Str)] : (List Str))).bind fun y29 =>
(idxR t9.2 (x15)).bind fun x30 =>
(idxR v_law_draws_here (3)).bind fun x31 =>
(idxR v_law_draws_here (4)).bind fun x32 =>
(idxR ([x31 % 5, x32 % 6]) (if (decide ((x15 % 5) = 3)) = true then 1 else 0)).bind fun x34 =>
(idxR y29 (x34)).bind fun x35 =>
R.need (s14.length < sizeLine) <|
R.ok (s14 ++ [(x30, x35)])) (rngL 0 (v_law_many).toNat) (([] : (List (Str × Str))))).bind fun (s14 : (List (Str × Str))) =>
R.ok (s14)
def m_law_order (v_law_rows_here : (List (Str × Str))) (v_law_draw : Int) : R ((List (Str × Str))) :=
if (decide ((v_law_draw % 3) = 0)) = true then (
R.ok (v_law_rows_here)) else (
if (decide ((v_law_draw % 3) = 1)) = true then (
R.ok (v_law_rows_here.reverse)) else (
R.need ((stepPick v_law_rows_here none 2).length + (stepPick v_law_rows_here (some 1) 2).length ≤ sizeLine) <|
R.ok ((stepPick v_law_rows_here none 2) ++ (stepPick v_law_rows_here (some 1) 2))))
def m_law_joined (v_law_rows_here : (List (Str × Str))) : R ((List (List Str))) :=
(forR (fun (s2 : (List (List (List Str)))) (x3 : (Str × Str)) =>
R.need (-(2 ^ 62) ≤ (if (!decide (x3.2 = ("" : Str))) = true then 1 else 0 : Int) ∧ (if (!decide (x3.2 = ("" : Str))) = true then 1 else 0 : Int) < 2 ^ 62) <|
R.need (([x3.2]).length * (if (!decide (x3.2 = ("" : Str))) = true then 1 else 0 : Int).toNat ≤ sizeLine) <|
R.need (([x3.1]).length + (repL ([x3.2]) (if (!decide (x3.2 = ("" : Str))) = true then 1 else 0 : Int).toNat).length ≤ sizeLine) <|
(R.ok (([x3.1]) ++ (repL ([x3.2]) (if (!decide (x3.2 = ("" : Str))) = true then 1 else 0 : Int).toNat) : (List Str))).bind fun y26 =>
R.need ((s2).length ≤ sizeLine) <|
(compR (fun (_ : Unit) (x29 : (List (List Str))) =>
R.need ((y26).length ≤ sizeLine) <|
(compR (fun (_ : Unit) (x36 : Str) =>
(idxR x29 (1)).bind fun x39 =>
if (decide (x36 ∈ x39)) = true then (
R.ok ((), some (x36))) else R.ok ((), none)) (y26) ()).bind fun (t48 : Unit × List Str) =>
R.need (Lay.lay (t48.2 : (List Str)) = true) <|
R.need (Lay.lay (([] : (List Str)) : (List Str)) = true) <|
if (!decide ((t48.2 : (List Str)) = ([] : (List Str)))) = true then (
R.ok ((), some (x29))) else R.ok ((), none)) (s2) ()).bind fun (t53 : Unit × List (List (List Str))) =>
(forR (fun (s60 : (List (List Str))) (x61 : (List (List Str))) =>
(idxR s60 (0)).bind fun x69 =>
(idxR x61 (0)).bind fun x78 =>
R.need (x69.length + x78.length ≤ sizeLine) <|
(idxR s60 (1)).bind fun x90 =>
(idxR x61 (1)).bind fun x99 =>
R.need (x90.length + x99.length ≤ sizeLine) <|
R.ok ([x69 ++ x78, x90 ++ x99])) (t53.2) ([[x3.1], y26])).bind fun (s60 : (List (List Str))) =>
R.need ((s2).length ≤ sizeLine) <|
(compR (fun (_ : Unit) (x115 : (List (List Str))) =>
R.need (Lay.lay (x115 : (List (List Str))) = true) <|
R.need (Lay.lay (t53.2 : (List (List (List Str)))) = true) <|
if (!memD (x115 : (List (List Str))) t53.2) = true then (
R.ok ((), some (x115))) else R.ok ((), none)) (s2) ()).bind fun (t123 : Unit × List (List (List Str))) =>
R.need (t123.2.length + ([s60]).length ≤ sizeLine) <|
(R.ok (t123.2 ++ ([s60]) : (List (List (List Str))))).bind fun y127 =>
R.ok (y127)) (v_law_rows_here) (([] : (List (List (List Str)))))).bind fun (s2 : (List (List (List Str)))) =>
R.need ((s2).length ≤ sizeLine) <|
(compR (fun (_ : Unit) (x130 : (List (List Str))) =>
(idxR x130 (0)).bind fun x135 =>
R.need (x135.length ≤ sizeLine) <|
R.ok ((), some (sortT x135))) (s2) ()).bind fun (t147 : Unit × List (List Str)) =>
R.need (t147.2.length ≤ sizeLine) <|
R.ok (sortLS t147.2)
def m_law_deep (v_law_rows_here : (List (Str × Str))) (v_law_name : Str) : R Int :=
(R.ok (mergeD [] v_law_rows_here : (List (Str × Str)))).bind fun y2 =>
(R.ok ([v_law_name] : (List Str))).bind fun y4 =>
(whileT 100 (fun (s5 : (List Str)) =>
(idxR s5 (-1)).bind fun x6 =>
(dgetR y2 x6).bind fun y7 =>
(if (dhas y2 y7) = true then (
(idxR s5 (-1)).bind fun x12 =>
(dgetR y2 x12).bind fun y13 =>
R.ok (!decide (y13 ∈ s5))) else R.ok false).bind fun b11 =>
R.ok (b11)) (fun (s5 : (List Str)) =>
(idxR s5 (-1)).bind fun x17 =>
(dgetR y2 x17).bind fun y18 =>
R.need (s5.length < sizeLine) <|
R.ok (s5 ++ [y18])) (y4)).bind fun (s5 : (List Str)) =>
R.ok ((s5.length : Int) - 1)
def m_law_stands (v_law_threads : Threads) (v_law_rows_here : (List (Str × Str))) (v_law_draw : Int) : R Bool :=
(m_law_joined v_law_rows_here).bind fun r1 =>
R.need ((0 : Int) < (v_law_rows_here.length : Int)) <|
(idxR v_law_rows_here (v_law_draw % (v_law_rows_here.length : Int))).bind fun x4 =>
R.need ((r1).length ≤ sizeLine) <|
(compR (fun (_ : Unit) (x19 : (List Str)) =>
if (decide (x4.1 ∈ x19)) = true then (
R.ok ((), some (x19))) else R.ok ((), none)) (r1) ()).bind fun (t25 : Unit × List (List Str)) =>
(idxR t25.2 (0)).bind fun x26 =>
(if (decide (((v_law_draw / 100) % 2) = 0)) = true then (
(m_Threads_threads v_law_threads).bind fun r38 =>
(m_law_is_list_IL r38 r1).bind fun r40 =>
R.ok (!r40)) else R.ok false).bind fun b35 =>
if b35 = true then (
R.ok (false)) else (
(m_Threads_thread v_law_threads x4.1).bind fun r44 =>
(m_law_is_list_P r44 x26).bind fun r46 =>
(if (!r46) = true then R.ok true else (
(m_Threads_depth v_law_threads x4.1).bind fun r50 =>
(m_law_deep v_law_rows_here x4.1).bind fun r51 =>
R.ok (!decide (r50 = r51)))).bind fun b47 =>
if b47 = true then (
R.ok (false)) else (
R.need ((v_law_rows_here).length ≤ sizeLine) <|
(compR (fun (_ : Unit) (x55 : (Str × Str)) =>
if (decide (x55.2 = x4.1)) = true then (
R.ok ((), some (x55.1))) else R.ok ((), none)) (v_law_rows_here) ()).bind fun (t71 : Unit × List Str) =>
R.need (t71.2.length ≤ sizeLine) <|
(R.ok (sortT t71.2 : (List Str))).bind fun y74 =>
(m_Threads_answers_to v_law_threads x4.1).bind fun r77 =>
(m_law_is_list r77 y74).bind fun r79 =>
(if r79 = true then (
(m_Threads_threads v_law_threads).bind fun r83 =>
(m_law_is_list_IL r83 r1).bind fun r85 =>
R.ok (r85)) else R.ok false).bind fun b80 =>
R.ok (b80)))
def m_law (v_law_script : Script) : R Bool :=
(m_law_draws v_law_script 20).bind fun r1 =>
(idxR r1 (1)).bind fun x3 =>
(R.ok (10 + (x3 % 15) : Int)).bind fun y4 =>
(idxR r1 (18)).bind fun x5 =>
(if (decide ((x5 % 8) = 1)) = true then (
(idxR r1 (1)).bind fun x7 =>
(R.ok (40 + (x7 % 25) : Int)).bind fun y8 =>
R.ok (y8)) else (
R.ok (y4))).bind fun (s6 : Int) =>
(m_law_rows r1 s6).bind fun r9 =>
(m_Threads___init__ ).bind fun r13 =>
(idxR r1 (5)).bind fun x14 =>
(m_law_order r9 x14).bind fun r15 =>
(forR (fun (s17 : Threads) (x18 : (Str × Str)) =>
(m_Threads_add s17 x18.1 x18.2).bind fun r31 =>
R.ok (r31)) (r15) (r13)).bind fun (s17 : Threads) =>
(idxR r1 (6)).bind fun x32 =>
(m_law_stands s17 r9 x32).bind fun r33 =>
if (!r33) = true then (
R.ok (false)) else (
(idxR r9 (0)).bind fun x35 =>
(idxR r1 (7)).bind fun x44 =>
R.need (-(2 ^ 62) ≤ (1 + (x44 % 3)) ∧ (1 + (x44 % 3)) < 2 ^ 62) <|
(forF (ρ := Bool) (fun (s46 : (List (Str × Str)) × Threads × (Str × Str)) (x47 : Int) =>
(idxR r1 (8 + x47)).bind fun x54 =>
R.need ((0 : Int) < (s46.1.length : Int)) <|
(idxR s46.1 (x54 % (s46.1.length : Int))).bind fun x56 =>
R.need (Lay.lay (s46.1 : (List (Str × Str))) = true) <|
R.need (Lay.lay (x56 : (Str × Str)) = true) <|
R.need (x56 ∈ s46.1) <|
(m_Threads_take_out s46.2.1 x56.1).bind fun r75 =>
(idxR r1 (12 + x47)).bind fun x76 =>
(m_law_stands r75 (remP s46.1 x56) x76).bind fun r77 =>
if (!r77) = true then (
R.ok (.out (false))) else (
R.ok (.go (remP s46.1 x56, r75, x56)))) (rngL 0 (1 + (x44 % 3)).toNat) (r9, s17, x35)).bind (contF (fun (s46 : (List (Str × Str)) × Threads × (Str × Str)) =>
(idxR r1 (16)).bind fun x79 =>
R.need ((0 : Int) < (s46.1.length : Int)) <|
(idxR s46.1 (x79 % (s46.1.length : Int))).bind fun x81 =>
R.need (s46.1.length < sizeLine) <|
(m_Threads_add s46.2.1 s46.2.2.1 x81.1).bind fun r109 =>
(idxR r1 (17)).bind fun x110 =>
(m_law_stands r109 (s46.1 ++ [(s46.2.2.1, x81.1)]) x110).bind fun r111 =>
R.ok (r111)) (fun o112 => .ok o112)))
end Lw
namespace Lw
open PySem L2 Ml
theorem alph_len : ("abcdefghijklmnopqrstuvwxyz0123456789" : Str).cps.toList.length = 36 := by decide +kernel
def wsg (c : Nat) : Bool := (97 ≤ c && c ≤ 122) || (48 ≤ c && c ≤ 57)
theorem wsg_lt {c : Nat} (h : wsg c = true) : c < 128 := by
  unfold wsg at h
  simp at h
  omega
theorem alph_wsg : ∀ c, c ∈ ("abcdefghijklmnopqrstuvwxyz0123456789" : Str).cps.toList → wsg c = true := by
  have : ("abcdefghijklmnopqrstuvwxyz0123456789" : Str).cps.toList.all wsg = true := by decide +kernel
  exact fun c hc => List.all_eq_true.mp this c hc
/-- word signs alone -/
def Wsg (x : Str) : Prop := ∀ c, c ∈ x.cps.toList → wsg c = true
theorem Wsg.asc {x : Str} (h : Wsg x) : Asc x := fun c hc => wsg_lt (h c hc)
theorem Wsg.app {a b : Str} (ha : Wsg a) (hb : Wsg b) : Wsg (a ++ b) := fun c hc => by
  rw [tl_app] at hc
  rcases List.mem_append.mp hc with h | h
  · exact ha c h
  · exact hb c h
theorem Wsg.sg {c : Nat} (h : wsg c = true) : Wsg (sg c) := fun d hd => by
  have : d = c := by simpa [Ml.sg] using hd
  rw [this]; exact h
theorem Wsg.lit {x : Str} (h : x.cps.toList.all wsg = true) : Wsg x := fun c hc => List.all_eq_true.mp h c hc
theorem asc_empty : Asc ("" : Str) := Asc.lit (by decide +kernel)
def isWord (s : Str) : Bool := (decide (1 ≤ s.length) && decide (s.length ≤ 20)) && s.cps.toList.all wsg
theorem isWord_iff {s : Str} : isWord s = true ↔ Wsg s ∧ 1 ≤ s.length ∧ s.length ≤ 20 := by
  unfold isWord
  simp only [Bool.and_eq_true, decide_eq_true_eq, List.all_eq_true]
  exact ⟨fun ⟨⟨a, b⟩, c⟩ => ⟨c, a, b⟩, fun ⟨c, a, b⟩ => ⟨⟨a, b⟩, c⟩⟩
section
variable {κ β : Type} [DecidableEq κ]
theorem dget_nil (k : κ) : dget ([] : List (κ × β)) k = none := rfl
theorem dget_cons (p : κ × β) (d : List (κ × β)) (k : κ) : dget (p :: d) k = if p.1 = k then some p.2 else dget d k := by
  unfold dget
  by_cases h : p.1 = k
  · rw [List.find?_cons_of_pos (by simpa using h), if_pos h]; rfl
  · rw [List.find?_cons_of_neg (by simpa using h), if_neg h]
theorem dget_none {d : List (κ × β)} {k : κ} : dget d k = none ↔ ¬ k ∈ d.map (·.1) := by
  induction d with
  | nil => simp [dget_nil]
  | cons p d ih =>
    rw [dget_cons, List.map_cons, List.mem_cons]
    by_cases h : p.1 = k
    · rw [if_pos h]; simp [h]
    · rw [if_neg h, ih]
      exact ⟨fun q z => z.elim (fun e => h e.symm) q, fun q z => q (.inr z)⟩
theorem dhas_iff {d : List (κ × β)} {k : κ} : dhas d k = true ↔ k ∈ d.map (·.1) := by
  unfold dhas
  cases c : dget d k with
  | none => simp [dget_none.mp c]
  | some y =>
    refine ⟨fun _ => Classical.byContradiction fun h => ?_, fun _ => rfl⟩
    rw [dget_none.mpr h] at c; cases c
theorem dhas_false {d : List (κ × β)} {k : κ} : dhas d k = false ↔ ¬ k ∈ d.map (·.1) := by
  rw [← dhas_iff]; simp
theorem dget_app (d e : List (κ × β)) (k : κ) : dget (d ++ e) k = (dget d k).or (dget e k) := by
  induction d with
  | nil => rfl
  | cons p d ih =>
    rw [List.cons_append, dget_cons, dget_cons, ih]
    by_cases h : p.1 = k
    · rw [if_pos h, if_pos h]; rfl
    · rw [if_neg h, if_neg h]
theorem dany_iff {d : List (κ × β)} {k : κ} : (d.any fun kv => decide (kv.1 = k)) = dhas d k := by
  rw [Bool.eq_iff_iff, dhas_iff, List.any_eq_true]
  simp only [decide_eq_true_eq, List.mem_map]
theorem dput_eq (d : List (κ × β)) (k : κ) (v : β) : dput d k v = if dhas d k = true then d.map (fun kv => if kv.1 = k then (kv.1, v) else kv) else d ++ [(k, v)] := by
  unfold dput
  rw [dany_iff]
theorem dget_put (d : List (κ × β)) (k k' : κ) (v : β) : dget (dput d k v) k' = if k = k' then some v else dget d k' := by
  rw [dput_eq]
  by_cases h : dhas d k = true
  · rw [if_pos h]
    have gen : ∀ e : List (κ × β), dget (e.map fun kv => if kv.1 = k then (kv.1, v) else kv) k' = if k = k' ∧ dhas e k = true then some v else dget e k' := by
      intro e
      induction e with
      | nil => simp [dget_nil, dhas]
      | cons p e ih =>
        rw [List.map_cons, dget_cons, dget_cons, ih]
        have hc : dhas (p :: e) k = (decide (p.1 = k) || dhas e k) := by
          unfold dhas; rw [dget_cons]
          by_cases q : p.1 = k <;> simp [q]
        rw [hc]
        by_cases q : p.1 = k
        · simp only [q, if_true, decide_true, Bool.true_or, and_true]
          by_cases z : k = k' <;> simp [z]
        · simp only [q, if_false, decide_false, Bool.false_or]
          by_cases z : p.1 = k'
          · have : ¬ k = k' := fun e => q (z.trans e.symm)
            simp [z, this]
          · simp [z]
    rw [gen]
    by_cases z : k = k'
    · subst z; rw [if_pos ⟨rfl, h⟩, if_pos rfl]
    · rw [if_neg fun q => z q.1, if_neg z]
  · rw [if_neg h, dget_app, dget_cons, dget_nil]
    by_cases z : k = k'
    · subst z
      have : dget d k = none := by
        cases c : dget d k with
        | none => rfl
        | some y => exact absurd (by unfold dhas; rw [c]; rfl) h
      rw [this, if_pos rfl]; rfl
    · rw [if_neg z, if_neg z, Option.or_none]
theorem dget_drop (d : List (κ × β)) (k k' : κ) : dget (ddrop d k) k' = if k = k' then none else dget d k' := by
  unfold ddrop
  induction d with
  | nil => simp [dget_nil]
  | cons p d ih =>
    by_cases h : p.1 = k
    · rw [List.filter_cons_of_neg (by simp [h]), ih, dget_cons]
      by_cases z : k = k'
      · simp [z]
      · rw [if_neg z, if_neg z, if_neg (fun e => z (h.symm.trans e))]
    · rw [List.filter_cons_of_pos (by simpa using h), dget_cons, ih, dget_cons]
      by_cases z : p.1 = k'
      · have : ¬ k = k' := fun e => h (z.trans e.symm)
        simp [z, this]
      · simp [z]
theorem keys_dput (d : List (κ × β)) (k : κ) (v : β) : (dput d k v).map (·.1) = if dhas d k = true then d.map (·.1) else d.map (·.1) ++ [k] := by
  rw [dput_eq]
  by_cases h : dhas d k = true
  · rw [if_pos h, if_pos h, List.map_map]
    refine List.map_congr_left fun p _ => ?_
    show (if p.1 = k then (p.1, v) else p).1 = p.1
    split <;> rfl
  · rw [if_neg h, if_neg h, List.map_append]; rfl
theorem keys_ddrop (d : List (κ × β)) (k : κ) : (ddrop d k).map (·.1) = (d.map (·.1)).filter fun x => decide (x ≠ k) := by
  unfold ddrop
  rw [List.filter_map]; rfl
theorem nodup_dput {d : List (κ × β)} (h : (d.map (·.1)).Nodup) (k : κ) (v : β) : ((dput d k v).map (·.1)).Nodup := by
  rw [keys_dput]
  by_cases c : dhas d k = true
  · rw [if_pos c]; exact h
  · rw [if_neg c, List.nodup_append]
    have c' : ¬ k ∈ d.map (·.1) := fun z => c (dhas_iff.mpr z)
    exact ⟨h, by simp, fun x hx y hy e => c' (by rw [List.mem_singleton] at hy; subst hy; subst e; exact hx)⟩
theorem nodup_ddrop {d : List (κ × β)} (h : (d.map (·.1)).Nodup) (k : κ) : ((ddrop d k).map (·.1)).Nodup := by
  rw [keys_ddrop]; exact h.filter _
theorem mem_kput {d : List (κ × β)} {k x : κ} {v : β} : x ∈ (dput d k v).map (·.1) ↔ x = k ∨ x ∈ d.map (·.1) := by
  rw [keys_dput]
  by_cases c : dhas d k = true
  · rw [if_pos c]
    exact ⟨.inr, fun h => h.elim (fun e => by rw [e]; exact dhas_iff.mp c) id⟩
  · rw [if_neg c, List.mem_append, List.mem_singleton]
    exact Or.comm
theorem len_dput (d : List (κ × β)) (k : κ) (v : β) : (dput d k v).length ≤ d.length + 1 := by
  rw [dput_eq]; split
  · rw [List.length_map]; omega
  · simp
theorem len_ddrop (d : List (κ × β)) (k : κ) : (ddrop d k).length ≤ d.length := List.length_filter_le ..
theorem dget_mem {d : List (κ × β)} {k : κ} {v : β} (h : dget d k = some v) : (k, v) ∈ d := by
  induction d with
  | nil => cases h
  | cons p d ih =>
    rw [dget_cons] at h
    by_cases c : p.1 = k
    · rw [if_pos c] at h; cases h; subst c; simp
    · rw [if_neg c] at h; exact List.mem_cons_of_mem _ (ih h)
theorem dget_of_mem {d : List (κ × β)} (n : (d.map (·.1)).Nodup) {k : κ} {v : β} (h : (k, v) ∈ d) : dget d k = some v := by
  induction d with
  | nil => cases h
  | cons p d ih =>
    rw [List.map_cons, List.nodup_cons] at n
    rw [dget_cons]
    rcases List.mem_cons.mp h with rfl | h
    · rw [if_pos rfl]
    · have : ¬ p.1 = k := fun e => n.1 (by rw [e]; exact List.mem_map.mpr ⟨(k, v), h, rfl⟩)
      rw [if_neg this]; exact ih n.2 h
theorem dgetR_ok {d : List (κ × β)} {k : κ} {v : β} (h : dget d k = some v) : dgetR d k = .ok v := by unfold dgetR; rw [h]
theorem dget_split {d : List (κ × β)} (n : (d.map (·.1)).Nodup) {k : κ} {v : β} (h : dget d k = some v) : ∃ a b, d = a ++ (k, v) :: b ∧ ddrop d k = a ++ b ∧ ∀ w, dput d k w = a ++ (k, w) :: b := by
  induction d with
  | nil => cases h
  | cons p d ih =>
    rw [List.map_cons, List.nodup_cons] at n
    rw [dget_cons] at h
    by_cases c : p.1 = k
    · rw [if_pos c] at h
      cases h
      have nk : ¬ k ∈ d.map (·.1) := by rw [← c]; exact n.1
      have e1 : ∀ e : List (κ × β), ¬ k ∈ e.map (·.1) → e.filter (fun kv => decide (kv.1 ≠ k)) = e := fun e he => List.filter_eq_self.mpr fun z hz => by
        have : z.1 ≠ k := fun q => he (by rw [← q]; exact List.mem_map.mpr ⟨z, hz, rfl⟩)
        simpa using this
      refine ⟨[], d, by rw [← c]; rfl, ?_, fun w => ?_⟩
      · show (p :: d).filter _ = d
        rw [List.filter_cons_of_neg (by simp [c])]
        exact e1 d nk
      · rw [dput_eq, if_pos (dhas_iff.mpr (by simp [c])), List.map_cons, if_pos c]
        show (p.1, w) :: _ = (k, w) :: d
        rw [c]
        congr 1
        refine (List.map_congr_left (g := id) fun z hz => ?_).trans (List.map_id d)
        have : ¬ z.1 = k := fun q => nk (by rw [← q]; exact List.mem_map.mpr ⟨z, hz, rfl⟩)
        rw [if_neg this]; rfl
    · rw [if_neg c] at h
      obtain ⟨a, b, h1, h2, h3⟩ := ih n.2 h
      refine ⟨p :: a, b, by rw [h1]; rfl, ?_, fun w => ?_⟩
      · show (p :: d).filter _ = p :: (a ++ b)
        rw [List.filter_cons_of_pos (by simpa using c)]
        exact congrArg (p :: ·) h2
      · have hd : dhas d k = true := by unfold dhas; rw [h]; rfl
        have e3 := h3 w
        rw [dput_eq, if_pos hd] at e3
        rw [dput_eq, if_pos (dhas_iff.mpr (by rw [List.map_cons]; exact List.mem_cons_of_mem _ (dhas_iff.mp hd))), List.map_cons, if_neg c, e3]; rfl
end
theorem nodup_lenG {α : Type} [DecidableEq α] : ∀ {xs ys : List α}, xs.Nodup → (∀ x, x ∈ xs → x ∈ ys) → xs.length ≤ ys.length
  | [], _, _, _ => Nat.zero_le _
  | x :: r, ys, d, m => by
    rw [List.nodup_cons] at d
    have hx : x ∈ ys := m x (by simp)
    have ih := nodup_lenG (xs := r) (ys := ys.erase x) d.2 fun y hy => (List.mem_erase_of_ne fun e => d.1 (by rw [← e]; exact hy)).mpr (m y (by simp [hy]))
    rw [List.length_erase_of_mem hx] at ih
    have : 0 < ys.length := List.length_pos_of_mem hx
    rw [List.length_cons]; omega
theorem rng_pre {n : Nat} {pre q : List Int} {x : Int} (e : rngL 0 n = pre ++ x :: q) : x = (pre.length : Int) ∧ pre.length < n := by
  have h1 : pre.length < (rngL 0 n).length := pre_lt e
  rw [rngL_len] at h1
  refine ⟨?_, h1⟩
  have h2 : (rngL 0 n)[pre.length]? = some x := by rw [e]; simp
  unfold rngL at h2
  rw [List.getElem?_map, List.getElem?_range h1] at h2
  simp at h2
  omega
theorem dhas_get {κ β : Type} [DecidableEq κ] {d : List (κ × β)} {k : κ} (h : dhas d k = true) : ∃ v, dget d k = some v := by
  unfold dhas at h
  exact Option.isSome_iff_exists.mp h
theorem strs_lay {l : List Str} (h : ∀ x, x ∈ l → Asc x) : (Lay.lay l : Bool) = true := List.all_eq_true.mpr fun x hx => (h x hx).lay
theorem draws_ok (s : Script) {n : Int} (hn : 0 ≤ n ∧ n ≤ 400) : Ok (m_law_draws s n) fun r => (r.length : Int) = n ∧ ∀ x, x ∈ r → 0 ≤ x ∧ x < 2147483629 := by
  unfold m_law_draws
  refine .need (by omega) ?_
  refine .forI (fun pre (s : List Int × Int) => s.1.length = pre.length ∧ (∀ x, x ∈ s.1 → 0 ≤ x ∧ x < 2147483629)) ⟨rfl, by simp⟩ ?_ ?_
  · rintro p x q ⟨l, m⟩ ep ⟨hl, hx⟩
    have hp := pre_lt ep
    rw [rngL_len] at hp
    refine .bind (Q := fun _ => True) (.ite (fun c => ?_) fun _ => .ret trivial) fun c _ => .lets ?_
    · have c := of_decide_eq_true c
      exact .need c (.idx (Int.emod_nonneg _ (by omega)) (Int.emod_lt_of_pos _ c) fun _ _ _ => .ret trivial)
    dsimp only
    have hy0 : 0 ≤ (((m * 48271 + c) + x) + 1) % 2147483647 := Int.emod_nonneg _ (by decide)
    have hy1 : (((m * 48271 + c) + x) + 1) % 2147483647 < 2147483647 := Int.emod_lt_of_pos _ (by decide)
    generalize (((m * 48271 + c) + x) + 1) % 2147483647 = y at *
    have hl' : l.length = p.length := hl
    refine .need (show mulOk y y from .inl ⟨by omega, by omega⟩) (.need (lt_line (m := 1000) (by omega) (by decide)) (.ret ⟨by simp [hl'], fun z hz => ?_⟩))
    rcases List.mem_append.mp hz with h | h
    · exact hx z h
    · rw [List.mem_singleton.mp h]
      exact ⟨Int.emod_nonneg _ (by decide), Int.emod_lt_of_pos _ (by decide)⟩
  · rintro ⟨l, m⟩ ⟨hl, hx⟩
    exact .ret ⟨by rw [hl, rngL_len]; omega, hx⟩
/-- the sign of a number -/
def sgn (i : Int) : Nat := (("abcdefghijklmnopqrstuvwxyz0123456789" : Str).cps.toList).getD (i % 36).toNat 0
theorem sgn_at {ρ : Type} {P : ρ → Prop} {i : Int} {f : Nat → R ρ} (k : wsg (sgn i) = true → Ok (f (sgn i)) P) : Ok ((idxR ("abcdefghijklmnopqrstuvwxyz0123456789" : Str).cps.toList (i % 36)).bind f) P :=
  .idx (Int.emod_nonneg _ (by decide)) (by rw [alph_len]; exact Int.emod_lt_of_pos _ (by decide)) fun c m e => by
    have : sgn i = c := by unfold sgn; rw [List.getD_eq_getElem?_getD, e]; rfl
    rw [this] at k
    exact k (alph_wsg c m)
theorem sgn_inj {i : Int} {c : Nat} {n : Int} (h : sgn i = c) (hn : (List.range 36).all (fun j => decide ((("abcdefghijklmnopqrstuvwxyz0123456789" : Str).cps.toList).getD j 0 = c → (j : Int) = n)) = true) : i % 36 = n := by
  have h0 : 0 ≤ i % 36 := Int.emod_nonneg _ (by decide)
  have h1 : i % 36 < 36 := Int.emod_lt_of_pos _ (by decide)
  have := of_decide_eq_true (List.all_eq_true.mp hn (i % 36).toNat (List.mem_range.mpr (by omega))) h
  omega
/-- a name of the laws of threads -/
structure Nm (z : Str) : Prop where
  w : isWord z = true
  no : z ≠ ("zother" : Str)
  nf : z ≠ ("zfresh" : Str)
theorem Nm.asc {z : Str} (h : Nm z) : Asc z := Wsg.asc (isWord_iff.mp h.w).1
theorem Nm.len {z : Str} (h : Nm z) : 1 ≤ z.length ∧ z.length ≤ 20 := (isWord_iff.mp h.w).2
theorem Nm.ne {z : Str} (h : Nm z) : z ≠ ("" : Str) := fun e => by
  have := h.len
  rw [e] at this
  have e0 : ("" : Str).length = 0 := by decide
  omega
theorem zo_tl : ("zother" : Str).cps.toList = [122, 111, 116, 104, 101, 114] := by decide +kernel
theorem zf_tl : ("zfresh" : Str).cps.toList = [122, 102, 114, 101, 115, 104] := by decide +kernel
theorem rep_tl1 (c : Nat) (n : Nat) : (repS (sg c) n).cps.toList = List.replicate n c := by
  rw [rep_tl, show (sg c).cps.toList = [c] from rfl]
  induction n with
  | zero => rfl
  | succ m ih => rw [List.replicate_succ, List.flatten_cons, ih]; rfl
def KN (m pl : Int) (c : Nat) (q : Int) (e d : Nat) (z : Str) : Prop := (m = 0 → (z.length : Int) = 1 + q ∧ z.cps.toList[0]? = some e) ∧ (m ≠ 0 → z.cps.toList[(pl + 1).toNat]? = some c ∧ z.cps.toList[pl.toNat]? = some d)
theorem nameBy_full {b k : Int} (hb : 0 ≤ b ∧ b < 2147483647) (hk : 0 ≤ k ∧ k < 64) : Ok (m_law_name_by b k) fun z => Nm z ∧ KN (b % 4) (b / 4 % 18) (sgn (b / 49248 + k)) (k % 20) (sgn (b / 4 + k / 20)) (sgn (b / 1368 + k / 36)) z := by
  unfold m_law_name_by
  refine .ite (fun c4 => ?_) fun c4 => ?_
  · refine sgn_at fun hc => ?_
    have h0 : 0 ≤ k % 20 := Int.emod_nonneg _ (by decide)
    have h1 : k % 20 < 20 := Int.emod_lt_of_pos _ (by decide)
    generalize k % 20 = m at *
    have hl : (repS (sg (sgn (b / 4 + k / 20))) (1 + m : Int).toNat).cps.toList = List.replicate (1 + m : Int).toNat (sgn (b / 4 + k / 20)) := rep_tl1 _ _
    generalize repS (sg (sgn (b / 4 + k / 20))) (1 + m : Int).toNat = z at *
    generalize sgn (b / 4 + k / 20) = c at *
    have hz : z.length = (1 + m : Int).toNat := by rw [len_tl, hl, List.length_replicate]
    refine .need ⟨?_, by omega, by omega⟩ (.ret ⟨⟨isWord_iff.mpr ⟨fun d hd => ?_, by omega, by omega⟩, fun e => ?_, fun e => ?_⟩, fun _ => ⟨by omega, by rw [hl, List.getElem?_replicate, if_pos (by omega)]⟩, fun z => absurd (of_decide_eq_true c4) z⟩)
    · have : (sg c).length = 1 := len_sg c
      rw [this]; exact le_line (by omega)
    · rw [hl] at hd; rw [(List.mem_replicate.mp hd).2]; exact hc
    · rw [e, zo_tl] at hl
      have h1 : (122 : Nat) = c := (List.mem_replicate.mp (show (122 : Nat) ∈ List.replicate (1 + m : Int).toNat c by rw [← hl]; simp)).2
      have h2 : (111 : Nat) = c := (List.mem_replicate.mp (show (111 : Nat) ∈ List.replicate (1 + m : Int).toNat c by rw [← hl]; simp)).2
      omega
    · rw [e, zf_tl] at hl
      have h1 : (122 : Nat) = c := (List.mem_replicate.mp (show (122 : Nat) ∈ List.replicate (1 + m : Int).toNat c by rw [← hl]; simp)).2
      have h2 : (102 : Nat) = c := (List.mem_replicate.mp (show (102 : Nat) ∈ List.replicate (1 + m : Int).toNat c by rw [← hl]; simp)).2
      omega
  · refine .lets ?_
    have h0 : 0 ≤ b / 4 % 18 := Int.emod_nonneg _ (by decide)
    have h1 : b / 4 % 18 < 18 := Int.emod_lt_of_pos _ (by decide)
    generalize b / 4 % 18 = pl at *
    refine .need (by omega) ?_
    have g0 : 0 ≤ b / 72 % (19 - pl) := Int.emod_nonneg _ (by omega)
    have g1 : b / 72 % (19 - pl) < 19 - pl := Int.emod_lt_of_pos _ (by omega)
    generalize b / 72 % (19 - pl) = q at *
    have d0 : 0 ≤ b % 7 := Int.emod_nonneg _ (by decide)
    have d1 : b % 7 < 7 := Int.emod_lt_of_pos _ (by decide)
    generalize b % 7 = d at *
    refine .need (by omega) ?_
    refine .forI (fun pre (s : Str) => (Wsg s ∧ s.cps.toList.length = pre.length ∧ ∀ t : Nat, t < pre.length → (t : Int) ≠ pl → (t : Int) ≠ pl + 1 → s.cps.toList[t]? = some (sgn (b / 3 + (t : Int) * (1 + d)))) ∧ (((pl + 1).toNat < pre.length → s.cps.toList[(pl + 1).toNat]? = some (sgn (b / 49248 + k))) ∧ (pl.toNat < pre.length → s.cps.toList[pl.toNat]? = some (sgn (b / 1368 + k / 36))))) ⟨⟨Wsg.lit (by decide +kernel), rfl, fun t ht => absurd ht (by simp)⟩, ⟨fun ht => absurd ht (by simp), fun ht => absurd ht (by simp)⟩⟩ ?_ ?_
    · rintro p x r s ep ⟨⟨hs, hl, ht⟩, hkey, hkey2⟩
      have hp := pre_lt ep
      rw [rngL_len] at hp
      have hx : x = (p.length : Int) := by exact (rng_pre ep).1
      have hl2 : s.length = p.length := by rw [len_tl, hl]
      have app1 : ∀ {c : Nat}, wsg c = true → ((p.length : Int) ≠ pl → (p.length : Int) ≠ pl + 1 → c = sgn (b / 3 + (p.length : Int) * (1 + d))) → ((p.length : Int) = pl + 1 → c = sgn (b / 49248 + k)) → ((p.length : Int) = pl → c = sgn (b / 1368 + k / 36)) → Ok (R.need ((s).length + (sg (c)).length ≤ sizeLine) <| (R.ok (s ++ (sg (c)) : Str)).bind fun y19 => R.ok (y19)) (fun s : Str => (Wsg s ∧ s.cps.toList.length = (p ++ [x]).length ∧ ∀ t : Nat, t < (p ++ [x]).length → (t : Int) ≠ pl → (t : Int) ≠ pl + 1 → s.cps.toList[t]? = some (sgn (b / 3 + (t : Int) * (1 + d)))) ∧ (((pl + 1).toNat < (p ++ [x]).length → s.cps.toList[(pl + 1).toNat]? = some (sgn (b / 49248 + k))) ∧ (pl.toNat < (p ++ [x]).length → s.cps.toList[pl.toNat]? = some (sgn (b / 1368 + k / 36))))) := fun {c} hc hcc hcd hce =>
        .need (le_line (by rw [len_sg]; omega)) (.lets (.ret ⟨⟨hs.app (Wsg.sg hc), by rw [tl_app, List.length_append, hl, List.length_append]; rfl, fun t h1 h2 h3 => by
          rw [tl_app]
          rw [List.length_append] at h1
          by_cases e : t < p.length
          · rw [List.getElem?_append_left (by omega)]; exact ht t e h2 h3
          · have e : t = p.length := by have : [x].length = 1 := rfl; omega
            subst e
            rw [List.getElem?_append_right (by omega), hl, Nat.sub_self, ← hcc h2 h3]; rfl⟩, fun h1 => by
          rw [tl_app]
          rw [List.length_append] at h1
          by_cases e : (pl + 1).toNat < p.length
          · rw [List.getElem?_append_left (by omega)]; exact hkey e
          · have e : (pl + 1).toNat = p.length := by have : [x].length = 1 := rfl; omega
            rw [List.getElem?_append_right (by omega), hl, e, Nat.sub_self, ← hcd (by omega)]; rfl, fun h1 => by
          rw [tl_app]
          rw [List.length_append] at h1
          by_cases e : pl.toNat < p.length
          · rw [List.getElem?_append_left (by omega)]; exact hkey2 e
          · have e : pl.toNat = p.length := by have : [x].length = 1 := rfl; omega
            rw [List.getElem?_append_right (by omega), hl, e, Nat.sub_self, ← hce (by omega)]; rfl⟩))
      refine .bind (Q := fun s : Str => (Wsg s ∧ s.cps.toList.length = (p ++ [x]).length ∧ ∀ t : Nat, t < (p ++ [x]).length → (t : Int) ≠ pl → (t : Int) ≠ pl + 1 → s.cps.toList[t]? = some (sgn (b / 3 + (t : Int) * (1 + d)))) ∧ (((pl + 1).toNat < (p ++ [x]).length → s.cps.toList[(pl + 1).toNat]? = some (sgn (b / 49248 + k))) ∧ (pl.toNat < (p ++ [x]).length → s.cps.toList[pl.toNat]? = some (sgn (b / 1368 + k / 36))))) (.ite (fun c => ?_) fun c1 => ?_) fun s hs => .ret hs
      · exact sgn_at fun hc => app1 hc (fun h => absurd (by rw [← hx]; exact of_decide_eq_true c) h) (fun h => by have := of_decide_eq_true c; omega) fun _ => rfl
      · refine .bind (Q := fun s : Str => (Wsg s ∧ s.cps.toList.length = (p ++ [x]).length ∧ ∀ t : Nat, t < (p ++ [x]).length → (t : Int) ≠ pl → (t : Int) ≠ pl + 1 → s.cps.toList[t]? = some (sgn (b / 3 + (t : Int) * (1 + d)))) ∧ (((pl + 1).toNat < (p ++ [x]).length → s.cps.toList[(pl + 1).toNat]? = some (sgn (b / 49248 + k))) ∧ (pl.toNat < (p ++ [x]).length → s.cps.toList[pl.toNat]? = some (sgn (b / 1368 + k / 36))))) (.ite (fun c => ?_) fun c2 => ?_) fun s hs => .ret hs
        · exact sgn_at fun hc => app1 hc (fun _ h => absurd (by rw [← hx]; exact of_decide_eq_true c) h) (fun _ => rfl) fun h => by have := of_decide_eq_true c; omega
        · refine .need (show mulOk x (1 + d) from .inl ⟨by omega, by omega⟩) (sgn_at fun hc => app1 hc (fun _ _ => by rw [hx]) (fun h => absurd (decide_eq_true (by rw [hx]; exact h)) c2) fun h => absurd (decide_eq_true (by rw [hx]; exact h)) c1)
    · rintro s ⟨⟨hs, hl, ht⟩, hkey, hkey2⟩
      rw [rngL_len] at hl ht hkey hkey2
      have hsl : s.length = (pl + 2 + q).toNat := by rw [len_tl, hl]
      refine .ret ⟨⟨isWord_iff.mpr ⟨hs, by omega, by omega⟩, fun e => ?_, fun e => ?_⟩, fun z => absurd (decide_eq_true z) c4, fun _ => ⟨hkey (by omega), hkey2 (by omega)⟩⟩
      · rw [e, zo_tl] at hl ht
        have hl : 6 = (pl + 2 + q).toNat := hl
        by_cases c : pl ≤ 1
        · have a3 := ht 3 (by omega) (by omega) (by omega)
          have a4 := ht 4 (by omega) (by omega) (by omega)
          have b3 := sgn_inj (n := 7) (Option.some.inj a3).symm (by decide +kernel)
          have b4 := sgn_inj (n := 4) (Option.some.inj a4).symm (by decide +kernel)
          omega
        · have a3 := ht 0 (by omega) (by omega) (by omega)
          have a4 := ht 1 (by omega) (by omega) (by omega)
          have b3 := sgn_inj (n := 25) (Option.some.inj a3).symm (by decide +kernel)
          have b4 := sgn_inj (n := 14) (Option.some.inj a4).symm (by decide +kernel)
          omega
      · rw [e, zf_tl] at hl ht
        have hl : 6 = (pl + 2 + q).toNat := hl
        by_cases c : pl ≤ 1
        · have a3 := ht 3 (by omega) (by omega) (by omega)
          have a4 := ht 4 (by omega) (by omega) (by omega)
          have b3 := sgn_inj (n := 4) (Option.some.inj a3).symm (by decide +kernel)
          have b4 := sgn_inj (n := 18) (Option.some.inj a4).symm (by decide +kernel)
          omega
        · have a3 := ht 0 (by omega) (by omega) (by omega)
          have a4 := ht 1 (by omega) (by omega) (by omega)
          have b3 := sgn_inj (n := 25) (Option.some.inj a3).symm (by decide +kernel)
          have b4 := sgn_inj (n := 5) (Option.some.inj a4).symm (by decide +kernel)
          omega
/-- the name of a number -/
def nameF (b k : Int) : Str := match m_law_name_by b k with
  | .ok z => z
  | _ => ("" : Str)
theorem nameF_ok {b k : Int} (hb : 0 ≤ b ∧ b < 2147483647) (hk : 0 ≤ k ∧ k < 64) : m_law_name_by b k = .ok (nameF b k) ∧ Nm (nameF b k) ∧ KN (b % 4) (b / 4 % 18) (sgn (b / 49248 + k)) (k % 20) (sgn (b / 4 + k / 20)) (sgn (b / 1368 + k / 36)) (nameF b k) := by
  obtain ⟨z, e, h1, h2⟩ := nameBy_full hb hk
  unfold nameF
  rw [e]; exact ⟨rfl, h1, h2⟩
theorem sgn_mod {i j : Int} (h : sgn i = sgn j) : i % 36 = j % 36 := by
  have key : ∀ a, a < 36 → ∀ b, b < 36 → (("abcdefghijklmnopqrstuvwxyz0123456789" : Str).cps.toList).getD a 0 = (("abcdefghijklmnopqrstuvwxyz0123456789" : Str).cps.toList).getD b 0 → a = b := by
    have : (List.range 36).all (fun a => (List.range 36).all fun b => decide ((("abcdefghijklmnopqrstuvwxyz0123456789" : Str).cps.toList).getD a 0 = (("abcdefghijklmnopqrstuvwxyz0123456789" : Str).cps.toList).getD b 0 → a = b)) = true := by decide +kernel
    intro a ha b hb
    exact of_decide_eq_true (List.all_eq_true.mp (List.all_eq_true.mp this a (List.mem_range.mpr ha)) b (List.mem_range.mpr hb))
  have h0 : 0 ≤ i % 36 := Int.emod_nonneg _ (by decide)
  have h1 : i % 36 < 36 := Int.emod_lt_of_pos _ (by decide)
  have h2 : 0 ≤ j % 36 := Int.emod_nonneg _ (by decide)
  have h3 : j % 36 < 36 := Int.emod_lt_of_pos _ (by decide)
  have := key (i % 36).toNat (by omega) (j % 36).toNat (by omega) h
  omega
theorem nameF_inj {b k j : Int} (hb : 0 ≤ b ∧ b < 2147483647) (hk : 0 ≤ k ∧ k < 64) (hj : 0 ≤ j ∧ j < 64) (e : nameF b k = nameF b j) : k = j := by
  obtain ⟨_, _, a1, a2⟩ := nameF_ok hb hk
  obtain ⟨_, _, b1, b2⟩ := nameF_ok hb hj
  by_cases c : b % 4 = 0
  · obtain ⟨p1, p2⟩ := a1 c
    obtain ⟨q1, q2⟩ := b1 c
    rw [e] at p1 p2
    rw [q2] at p2
    have := sgn_mod (Option.some.inj p2)
    omega
  · obtain ⟨p1, p2⟩ := a2 c
    obtain ⟨q1, q2⟩ := b2 c
    rw [e, q1] at p1
    rw [e, q2] at p2
    have := sgn_mod (Option.some.inj p1)
    have := sgn_mod (Option.some.inj p2)
    omega
theorem dput_new {κ β : Type} [DecidableEq κ] {d : List (κ × β)} {k : κ} {v : β} (h : dhas d k = false) : dput d k v = d ++ [(k, v)] := by
  rw [dput_eq, if_neg (by rw [h]; decide)]
theorem has_of {κ β : Type} [DecidableEq κ] {d : List (κ × β)} {k : κ} {v : β} (h : dget d k = some v) : dhas d k = true := by unfold dhas; rw [h]; rfl
theorem no_of {κ β : Type} [DecidableEq κ] {d : List (κ × β)} {k : κ} (h : dhas d k = false) : dget d k = none := by
  unfold dhas at h
  cases c : dget d k with
  | none => rfl
  | some y => rw [c] at h; cases h
theorem dget_last {κ β : Type} [DecidableEq κ] {d : List (κ × β)} {k : κ} {v : β} (h : dhas d k = false) : dget (d ++ [(k, v)]) k = some v := by
  rw [dget_app, no_of h, dget_cons, if_pos rfl]; rfl
theorem setE_get {κ β : Type} [DecidableEq κ] (d : List (κ × β)) (k v : κ) (z y : β) : dget (dput (setE d k z) k y) v = if k = v then some y else dget d v := by
  rw [dget_put]
  by_cases c : k = v
  · rw [if_pos c, if_pos c]
  · rw [if_neg c, if_neg c]
    unfold setE
    split
    · rfl
    · rw [dget_app, dget_cons, if_neg c, dget_nil, Option.or_none]
theorem setE_nodup {κ β : Type} [DecidableEq κ] {d : List (κ × β)} (h : (d.map (·.1)).Nodup) (k : κ) (z : β) : ((setE d k z).map (·.1)).Nodup := by
  unfold setE
  by_cases c : dhas d k = true
  · rw [if_pos c]; exact h
  · rw [if_neg c]
    have := nodup_dput h k z
    rw [dput_eq, if_neg c] at this
    exact this
abbrev Rw := List (Str × Str)
def Edg (D : Rw) (a b : Str) : Prop := ∃ r, r ∈ D ∧ r.2 ≠ ("" : Str) ∧ ((a = r.1 ∧ b = r.2) ∨ (a = r.2 ∧ b = r.1))
inductive Conn (D : Rw) : Str → Str → Prop
  | refl (n : Str) : Conn D n n
  | step {n a b : Str} : Conn D n a → Edg D a b → Conn D n b
theorem Edg.symm {D : Rw} {a b : Str} (h : Edg D a b) : Edg D b a := by
  obtain ⟨r, h1, h2, h3⟩ := h
  exact ⟨r, h1, h2, h3.elim (fun ⟨x, y⟩ => .inr ⟨y, x⟩) fun ⟨x, y⟩ => .inl ⟨y, x⟩⟩
theorem Edg.mono {D E : Rw} (s : ∀ r, r ∈ D → r ∈ E) {a b : Str} (h : Edg D a b) : Edg E a b := by
  obtain ⟨r, h1, h2, h3⟩ := h
  exact ⟨r, s r h1, h2, h3⟩
theorem Conn.trans {D : Rw} {a b c : Str} (h : Conn D a b) (k : Conn D b c) : Conn D a c := by
  induction k with
  | refl => exact h
  | step _ e ih => exact .step ih e
theorem Conn.symm {D : Rw} {a b : Str} (h : Conn D a b) : Conn D b a := by
  induction h with
  | refl => exact .refl _
  | step _ e ih => exact Conn.trans (.step (.refl _) e.symm) ih
theorem Conn.mono {D E : Rw} (s : ∀ r, r ∈ D → r ∈ E) {a b : Str} (h : Conn D a b) : Conn E a b := by
  induction h with
  | refl => exact .refl _
  | step _ e ih => exact .step ih (e.mono s)
/-- the piles say just what the answers of D join; X: names that are laid ahead -/
structure PW (D : Rw) (X : List Str) (T : Threads) : Prop where
  kn : (T.pile_of.map (·.1)).Nodup
  pn : (T.piles.map (·.1)).Nodup
  p2 : ∀ n i, dget T.pile_of n = some i → ∃ l, dget T.piles i = some l ∧ n ∈ l
  p3 : ∀ i l, dget T.piles i = some l → l.Nodup ∧ (∀ n, n ∈ l → dget T.pile_of n = some i) ∧ l ≠ [] ∧ i ≤ T.made
  s1 : ∀ r, r ∈ D → ∃ i, dget T.pile_of r.1 = some i ∧ (r.2 ≠ ("" : Str) → dget T.pile_of r.2 = some i)
  s2 : ∀ n m i, dget T.pile_of n = some i → dget T.pile_of m = some i → Conn D n m
  s3 : ∀ n i, dget T.pile_of n = some i → n ∈ X ∨ ∃ r, r ∈ D ∧ (n = r.1 ∨ (n = r.2 ∧ n ≠ ("" : Str)))
theorem PW.congr {D E : Rw} {X : List Str} {T : Threads} (h : PW D X T) (e : ∀ r, r ∈ D ↔ r ∈ E) : PW E X T :=
  ⟨h.kn, h.pn, h.p2, h.p3, fun r hr => h.s1 r ((e r).mpr hr), fun n m i a b => (h.s2 n m i a b).mono fun r hr => (e r).mp hr, fun n i a => (h.s3 n i a).imp id fun ⟨r, hr, q⟩ => ⟨r, (e r).mp hr, q⟩⟩
/-- how many names lie in piles -/
theorem PW.len {D : Rw} {X : List Str} {T : Threads} (h : PW D X T) : T.pile_of.length ≤ X.length + 2 * D.length := by
  have : (T.pile_of.map (·.1)).length ≤ (X ++ (D.map (·.1) ++ D.map (·.2))).length := nodup_lenG h.kn fun n hn => by
    obtain ⟨i, hi⟩ := dhas_get (dhas_iff.mpr hn)
    rcases h.s3 n i hi with q | ⟨r, hr, q | ⟨q, _⟩⟩
    · simp [q]
    · exact List.mem_append.mpr (.inr (List.mem_append.mpr (.inl (List.mem_map.mpr ⟨r, hr, q.symm⟩))))
    · exact List.mem_append.mpr (.inr (List.mem_append.mpr (.inr (List.mem_map.mpr ⟨r, hr, q.symm⟩))))
  simp only [List.length_map, List.length_append] at this
  omega
theorem PW.plen {D : Rw} {X : List Str} {T : Threads} (h : PW D X T) {i : Int} {l : List Str} (g : dget T.piles i = some l) : l.length ≤ X.length + 2 * D.length := by
  obtain ⟨a, b, _, _⟩ := h.p3 i l g
  have : l.length ≤ (T.pile_of.map (·.1)).length := nodup_lenG a fun n hn => dhas_iff.mp (has_of (b n hn))
  have := h.len
  rw [List.length_map] at *
  omega
theorem PW.many {D : Rw} {X : List Str} {T : Threads} (h : PW D X T) : T.piles.length ≤ X.length + 2 * D.length := by
  have : (T.piles.map (·.1)).length ≤ (T.pile_of.map (·.2)).length := nodup_lenG h.pn fun i hi => by
    obtain ⟨l, hl⟩ := dhas_get (dhas_iff.mpr hi)
    obtain ⟨_, b, c, _⟩ := h.p3 i l hl
    cases l with
    | nil => exact absurd rfl c
    | cons n r => exact List.mem_map.mpr ⟨(n, i), dget_mem (b n (by simp)), rfl⟩
  have := h.len
  rw [List.length_map, List.length_map] at *
  omega
theorem line9 {n : Nat} (h : n ≤ 900) : n < sizeLine := lt_line (m := 900) h (by decide)
theorem pile_ok {D : Rw} {X : List Str} {T : Threads} (h : PW D X T) (lim : X.length + 2 * D.length ≤ 800) (n : Str) : Ok (m_Threads_pile T n) fun r => r.2.goes_to = T.goes_to ∧ r.2.comes_from = T.comes_from ∧ PW D (n :: X) r.2 ∧ dget r.2.pile_of n = some r.1 ∧ ∀ m k, dget T.pile_of m = some k → dget r.2.pile_of m = some k := by
  have l1 := h.len
  have l2 := h.many
  unfold m_Threads_pile
  cases c : dhas T.pile_of n with
  | true =>
    obtain ⟨i, hi⟩ := dhas_get c
    refine .bindE (a := (T.pile_of, T.piles, T.made)) rfl (.bindE (dgetR_ok hi) (.ret ⟨rfl, rfl, ?_, hi, fun _ _ z => z⟩))
    exact ⟨h.kn, h.pn, h.p2, h.p3, h.s1, h.s2, fun m j a => (h.s3 m j a).imp (fun q => List.mem_cons_of_mem _ q) id⟩
  | false =>
    have q : dhas T.piles (T.made + 1) = false := by
      rw [dhas_false]
      intro z
      obtain ⟨l, hl⟩ := dhas_get (dhas_iff.mpr z)
      have := (h.p3 _ l hl).2.2.2
      omega
    refine .bindE (a := (T.pile_of ++ [(n, T.made + 1)], T.piles ++ [(T.made + 1, [n])], T.made + 1)) ?_ ?_
    · rw [if_pos (show (!false) = true from rfl), R.need_pos (line9 (by omega)), R.need_pos (line9 (by omega)), R.need_pos q, dput_new c]
    have g : ∀ m, dget (T.pile_of ++ [(n, T.made + 1)]) m = if n = m then some (T.made + 1) else dget T.pile_of m := fun m => by
      rw [← dput_new c, dget_put]
    have g2 : ∀ j, dget (T.piles ++ [(T.made + 1, [n])]) j = if T.made + 1 = j then some [n] else dget T.piles j := fun j => by
      rw [← dput_new q, dget_put]
    refine .bindE (dgetR_ok (v := T.made + 1) (by rw [g, if_pos rfl])) (.ret ⟨rfl, rfl, ?_, by show dget (T.pile_of ++ [(n, T.made + 1)]) n = _; rw [g, if_pos rfl], fun m k z => by
      show dget (T.pile_of ++ [(n, T.made + 1)]) m = _
      rw [g, if_neg (fun e => by rw [← e, no_of c] at z; cases z)]; exact z⟩)
    have old : ∀ m i, dget T.pile_of m = some i → m ≠ n ∧ i ≠ T.made + 1 := fun m i a => by
      refine ⟨fun e => ?_, fun e => ?_⟩
      · rw [e, no_of c] at a; cases a
      · obtain ⟨l, hl, _⟩ := h.p2 m i a
        have := (h.p3 i l hl).2.2.2
        omega
    refine ⟨?_, ?_, fun m i a => ?_, fun i l a => ?_, fun r hr => ?_, fun m k i a b => ?_, fun m i a => ?_⟩
    · show ((T.pile_of ++ [(n, T.made + 1)]).map (·.1)).Nodup
      rw [← dput_new c]; exact nodup_dput h.kn _ _
    · show ((T.piles ++ [(T.made + 1, [n])]).map (·.1)).Nodup
      rw [← dput_new q]; exact nodup_dput h.pn _ _
    · have a : dget (T.pile_of ++ [(n, T.made + 1)]) m = some i := a
      rw [g] at a
      by_cases e : n = m
      · rw [if_pos e] at a
        cases a
        exact ⟨[n], by show dget (T.piles ++ [(T.made + 1, [n])]) _ = _; rw [g2, if_pos rfl], by rw [e]; simp⟩
      · rw [if_neg e] at a
        obtain ⟨l, hl, hm⟩ := h.p2 m i a
        refine ⟨l, ?_, hm⟩
        show dget (T.piles ++ [(T.made + 1, [n])]) _ = _
        rw [g2, if_neg (fun e => (old m i a).2 e.symm)]; exact hl
    · have a : dget (T.piles ++ [(T.made + 1, [n])]) i = some l := a
      rw [g2] at a
      by_cases e : T.made + 1 = i
      · rw [if_pos e] at a
        cases a
        refine ⟨by simp, fun m hm => ?_, by simp, by show i ≤ T.made + 1; omega⟩
        show dget (T.pile_of ++ [(n, T.made + 1)]) m = _
        rw [g, if_pos (List.mem_singleton.mp hm).symm, e]
      · rw [if_neg e] at a
        obtain ⟨b1, b2, b3, b4⟩ := h.p3 i l a
        refine ⟨b1, fun m hm => ?_, b3, by show i ≤ T.made + 1; omega⟩
        show dget (T.pile_of ++ [(n, T.made + 1)]) m = _
        rw [g, if_neg (fun e => (old m i (b2 m hm)).1 e.symm)]; exact b2 m hm
    · obtain ⟨i, a, b⟩ := h.s1 r hr
      refine ⟨i, ?_, fun z => ?_⟩
      · show dget (T.pile_of ++ [(n, T.made + 1)]) r.1 = _
        rw [g, if_neg (fun e => (old _ i a).1 e.symm)]; exact a
      · show dget (T.pile_of ++ [(n, T.made + 1)]) r.2 = _
        rw [g, if_neg (fun e => (old _ i (b z)).1 e.symm)]; exact b z
    · have a : dget (T.pile_of ++ [(n, T.made + 1)]) m = some i := a
      have b : dget (T.pile_of ++ [(n, T.made + 1)]) k = some i := b
      rw [g] at a b
      by_cases e : n = m
      · rw [if_pos e] at a
        cases a
        by_cases e2 : n = k
        · rw [← e, ← e2]; exact .refl _
        · rw [if_neg e2] at b
          exact absurd rfl (old k _ b).2
      · rw [if_neg e] at a
        by_cases e2 : n = k
        · rw [if_pos e2] at b
          cases b
          exact absurd rfl (old m _ a).2
        · rw [if_neg e2] at b
          exact h.s2 m k i a b
    · have a : dget (T.pile_of ++ [(n, T.made + 1)]) m = some i := a
      rw [g] at a
      by_cases e : n = m
      · exact .inl (by rw [e]; simp)
      · rw [if_neg e] at a
        exact (h.s3 m i a).imp (fun q => List.mem_cons_of_mem _ q) id
/-- a fold of puts -/
theorem puts_ok {one : Int} : ∀ (l : List Str) (P : List (Str × Int)), P.length + l.length ≤ 900 → Ok (forR (fun (s : List (Str × Int)) (x : Str) => R.need (s.length < sizeLine) <| R.ok (dput s x one)) l P) fun P' => (∀ m, dget P' m = if m ∈ l then some one else dget P m) ∧ ((P.map (·.1)).Nodup → (P'.map (·.1)).Nodup)
  | [], P, _ => .ret ⟨fun m => by simp, id⟩
  | x :: l, P, hl => by
    rw [List.length_cons] at hl
    have := len_dput P x one
    obtain ⟨P', e, h1, h2⟩ := puts_ok (one := one) l (dput P x one) (by omega)
    refine ⟨P', ?_, fun m => ?_, fun nd => h2 (nodup_dput nd _ _)⟩
    · show (R.need _ _).bind _ = _
      rw [R.need_pos (line9 (by omega)), R.bind_ok]; exact e
    · rw [h1, dget_put]
      by_cases c : m ∈ l
      · rw [if_pos c, if_pos (by simp [c])]
      · rw [if_neg c]
        by_cases d : x = m
        · rw [if_pos d, if_pos (by simp [d])]
        · rw [if_neg d, if_neg (by simp [c]; exact fun e => d e.symm)]
theorem merge_ok {D : Rw} {X : List Str} {T : Threads} (h : PW D X T) (lim : X.length + 2 * D.length ≤ 400) {i j : Int} {li lj : List Str} (hi : dget T.piles i = some li) (hj : dget T.piles j = some lj) (ij : i ≠ j) :
    Ok ((forR (fun (s : List (Str × Int)) (x : Str) => R.need (s.length < sizeLine) <| R.ok (dput s x i)) lj T.pile_of).bind fun (s26 : List (Str × Int)) => (dgetR (ddrop T.piles j) i).bind fun y31 => R.need ((ddrop T.piles j).length < sizeLine) <| R.need (y31.length + lj.length ≤ sizeLine) <| R.ok ((⟨T.goes_to, s26, dput (ddrop T.piles j) i (y31 ++ lj), T.comes_from, T.made⟩ : Threads)))
      fun T' => T'.goes_to = T.goes_to ∧ T'.comes_from = T.comes_from ∧ ∀ n a, (dget T.pile_of n = some i ∧ dget T.pile_of a = some j ∨ dget T.pile_of n = some j ∧ dget T.pile_of a = some i) → a ≠ ("" : Str) → PW ((n, a) :: D) X T' := by
  have l1 := h.len
  have l2 := h.many
  have l3 := h.plen hi
  have l4 := h.plen hj
  obtain ⟨i1, i2, i3, i4⟩ := h.p3 i li hi
  obtain ⟨j1, j2, j3, j4⟩ := h.p3 j lj hj
  refine .bind (puts_ok lj T.pile_of (by omega)) fun P' ⟨g, nd⟩ => ?_
  have gi : dget (ddrop T.piles j) i = some li := by rw [dget_drop, if_neg (fun e => ij e.symm)]; exact hi
  have ld := len_ddrop T.piles j
  refine .bindE (dgetR_ok gi) (.need (line9 (by omega)) (.need (le_line (by omega)) (.ret ⟨rfl, rfl, fun n a hna ne => ?_⟩)))
  have g' : ∀ m, dget P' m = if dget T.pile_of m = some j then some i else dget T.pile_of m := fun m => by
    rw [g]
    by_cases c : m ∈ lj
    · rw [if_pos c, if_pos (j2 m c)]
    · rw [if_neg c]
      by_cases d : dget T.pile_of m = some j
      · obtain ⟨l, hl, hm⟩ := h.p2 m j d
        rw [hj] at hl; cases hl
        exact absurd hm c
      · rw [if_neg d]
  have g2 : ∀ k, dget (dput (ddrop T.piles j) i (li ++ lj)) k = if i = k then some (li ++ lj) else if j = k then none else dget T.piles k := fun k => by
    rw [dget_put, dget_drop]
  have up : ∀ m k, dget T.pile_of m = some k → dget P' m = some (if k = j then i else k) := fun m k q => by
    rw [g']
    by_cases c : k = j
    · rw [if_pos (by rw [q, c]), if_pos c]
    · rw [if_neg (fun e => c (by rw [q] at e; exact Option.some.inj e)), if_neg c, q]
  have dn : ∀ m k, dget P' m = some k → (dget T.pile_of m = some j ∧ k = i) ∨ (dget T.pile_of m = some k ∧ k ≠ j) := fun m k q => by
    rw [g'] at q
    by_cases c : dget T.pile_of m = some j
    · rw [if_pos c] at q; cases q; exact .inl ⟨c, rfl⟩
    · rw [if_neg c] at q
      exact .inr ⟨q, fun e => c (by rw [q, e])⟩
  have edge : Conn ((n, a) :: D) n a := .step (.refl _) ⟨(n, a), by simp, ne, .inl ⟨rfl, rfl⟩⟩
  have mono : ∀ {x y}, Conn D x y → Conn ((n, a) :: D) x y := fun c => c.mono fun r hr => List.mem_cons_of_mem _ hr
  have cross : ∀ x y, dget T.pile_of x = some i → dget T.pile_of y = some j → Conn ((n, a) :: D) x y := fun x y hx hy => by
    rcases hna with ⟨q1, q2⟩ | ⟨q1, q2⟩
    · exact ((mono (h.s2 x n i hx q1)).trans edge).trans (mono (h.s2 a y j q2 hy))
    · exact ((mono (h.s2 x a i hx q2)).trans edge.symm).trans (mono (h.s2 n y j q1 hy))
  refine ⟨nd h.kn, nodup_dput (nodup_ddrop h.pn _) _ _, fun m k q => ?_, fun k l q => ?_, fun r hr => ?_, fun x y k q1 q2 => ?_, fun m k q => ?_⟩
  · rcases dn m k q with ⟨c, rfl⟩ | ⟨c, d⟩
    · refine ⟨li ++ lj, by show dget (dput _ _ _) _ = _; rw [g2, if_pos rfl], ?_⟩
      obtain ⟨l, hl, hm⟩ := h.p2 m j c
      rw [hj] at hl; cases hl
      exact List.mem_append.mpr (.inr hm)
    · obtain ⟨l, hl, hm⟩ := h.p2 m k c
      by_cases e : i = k
      · subst e
        rw [hi] at hl; cases hl
        exact ⟨li ++ lj, by show dget (dput _ _ _) _ = _; rw [g2, if_pos rfl], List.mem_append.mpr (.inl hm)⟩
      · exact ⟨l, by show dget (dput _ _ _) _ = _; rw [g2, if_neg e, if_neg (fun z => d z.symm)]; exact hl, hm⟩
  · have q : dget (dput (ddrop T.piles j) i (li ++ lj)) k = some l := q
    rw [g2] at q
    by_cases e : i = k
    · subst e
      rw [if_pos rfl] at q; cases q
      refine ⟨?_, fun m hm => ?_, by simp [i3], i4⟩
      · rw [List.nodup_append]
        refine ⟨i1, j1, fun x hx y hy z => ?_⟩
        subst z
        exact ij (Option.some.inj ((i2 x hx).symm.trans (j2 x hy)))
      · show dget P' m = _
        rcases List.mem_append.mp hm with hm | hm
        · rw [up m i (i2 m hm), if_neg ij]
        · rw [up m j (j2 m hm), if_pos rfl]
    · rw [if_neg e] at q
      by_cases d : j = k
      · rw [if_pos d] at q; cases q
      · rw [if_neg d] at q
        obtain ⟨b1, b2, b3, b4⟩ := h.p3 k l q
        refine ⟨b1, fun m hm => ?_, b3, b4⟩
        show dget P' m = _
        rw [up m k (b2 m hm), if_neg (fun z => d z.symm)]
  · show ∃ k, dget P' r.1 = some k ∧ _
    rcases List.mem_cons.mp hr with rfl | hr
    · refine ⟨i, ?_, fun _ => ?_⟩
      · rcases hna with ⟨q1, q2⟩ | ⟨q1, q2⟩
        · rw [up n i q1, if_neg ij]
        · rw [up n j q1, if_pos rfl]
      · show dget P' a = _
        rcases hna with ⟨q1, q2⟩ | ⟨q1, q2⟩
        · rw [up a j q2, if_pos rfl]
        · rw [up a i q2, if_neg ij]
    · obtain ⟨k, b1, b2⟩ := h.s1 r hr
      exact ⟨_, up _ k b1, fun z => up _ k (b2 z)⟩
  · rcases dn x k q1 with ⟨c, rfl⟩ | ⟨c, d⟩
    · rcases dn y _ q2 with ⟨c2, _⟩ | ⟨c2, _⟩
      · exact mono (h.s2 x y j c c2)
      · exact (cross y x c2 c).symm
    · rcases dn y k q2 with ⟨c2, rfl⟩ | ⟨c2, _⟩
      · exact cross x y c c2
      · exact mono (h.s2 x y k c c2)
  · have : ∃ k0, dget T.pile_of m = some k0 := by
      rcases dn m k q with ⟨c, _⟩ | ⟨c, _⟩
      · exact ⟨_, c⟩
      · exact ⟨_, c⟩
    obtain ⟨k0, c⟩ := this
    exact (h.s3 m k0 c).imp id fun ⟨r, hr, z⟩ => ⟨r, List.mem_cons_of_mem _ hr, z⟩
theorem put_ok {D : Rw} {X : List Str} {T : Threads} (h : PW D X T) (lim : X.length + 2 * D.length ≤ 400) {n a : Str} {i j : Int} (hn : dget T.pile_of n = some i) (ha : dget T.pile_of a = some j) (ne : a ≠ ("" : Str)) :
    Ok (m_Threads_put_together T i j) fun T' => T'.goes_to = T.goes_to ∧ T'.comes_from = T.comes_from ∧ PW ((n, a) :: D) X T' := by
  unfold m_Threads_put_together
  refine .ite (fun c => ?_) fun c => ?_
  · have c : i = j := of_decide_eq_true c
    subst c
    refine .ret ⟨rfl, rfl, h.kn, h.pn, h.p2, h.p3, fun r hr => ?_, fun x y k a b => (h.s2 x y k a b).mono fun r hr => List.mem_cons_of_mem _ hr, fun m k q => (h.s3 m k q).imp id fun ⟨r, hr, z⟩ => ⟨r, List.mem_cons_of_mem _ hr, z⟩⟩
    rcases List.mem_cons.mp hr with rfl | hr
    · exact ⟨i, hn, fun _ => ha⟩
    · exact h.s1 r hr
  · have ij : i ≠ j := fun e => c (decide_eq_true e)
    obtain ⟨li, hi, _⟩ := h.p2 n i hn
    obtain ⟨lj, hj, _⟩ := h.p2 a j ha
    refine .bindE (dgetR_ok hi) (.bindE (dgetR_ok hj) ?_)
    refine .bind (Q := fun s => s = (i, j) ∨ s = (j, i)) (.ite (fun _ => .ret (.inr rfl)) fun _ => .ret (.inl rfl)) fun s hs => ?_
    rcases hs with rfl | rfl
    · refine .bindE (dgetR_ok hj) ?_
      refine Ok.mono (merge_ok h lim hi hj ij) fun T' ⟨e1, e2, e3⟩ => ⟨e1, e2, e3 n a (.inl ⟨hn, ha⟩) ne⟩
    · refine .bindE (dgetR_ok hi) ?_
      refine Ok.mono (merge_ok h lim hj hi fun e => ij e.symm) fun T' ⟨e1, e2, e3⟩ => ⟨e1, e2, e3 n a (.inr ⟨hn, ha⟩) ne⟩
theorem hang_ok {D : Rw} {T : Threads} (h : PW D [] T) (lim : D.length ≤ 150) {n a : Str} (hg : dget T.goes_to n = some a) : Ok (m_Threads_hang T n) fun T' => T'.goes_to = T.goes_to ∧ T'.comes_from = T.comes_from ∧ PW ((n, a) :: D) [] T' := by
  unfold m_Threads_hang
  refine .bind (pile_ok h (by simp; omega) n) fun ⟨i, T1⟩ ⟨e1, e2, h1, hi, _⟩ => ?_
  dsimp only at e1 e2 h1 hi ⊢
  rw [e1]
  refine .bindE (dgetR_ok hg) ?_
  refine .bind (Q := fun T' => T'.goes_to = T.goes_to ∧ T'.comes_from = T.comes_from ∧ PW ((n, a) :: D) [] T') (.ite (fun c => ?_) fun c => ?_) fun T' hT => .ret hT
  · have ne : a ≠ ("" : Str) := fun e => by rw [e, decide_eq_true rfl] at c; exact absurd c (by decide)
    refine .bindE (dgetR_ok hg) ?_
    refine .bind (pile_ok h1 (by simp; omega) a) fun ⟨j, T2⟩ ⟨e3, e4, h2, hj, keep⟩ => ?_
    dsimp only at e3 e4 h2 hj keep ⊢
    refine .bind (put_ok h2 (by simp; omega) (keep n i hi) hj ne) fun T3 ⟨e5, e6, h3⟩ => .ret ⟨by rw [e5, e3, e1], by rw [e6, e4, e2], h3.kn, h3.pn, h3.p2, h3.p3, h3.s1, h3.s2, fun m k q => ?_⟩
    rcases h3.s3 m k q with q | z
    · rcases List.mem_cons.mp q with q | q
      · exact .inr ⟨(n, a), by simp, .inr ⟨q, by rw [q]; exact ne⟩⟩
      · exact .inr ⟨(n, a), by simp, .inl (by simpa using q)⟩
    · exact .inr z
  · have e : a = ("" : Str) := Classical.byContradiction fun ne => c (by rw [decide_eq_false ne]; rfl)
    subst e
    refine .ret ⟨e1, e2, h1.kn, h1.pn, h1.p2, h1.p3, fun r hr => ?_, fun x y k a b => (h1.s2 x y k a b).mono fun r hr => List.mem_cons_of_mem _ hr, fun m k q => ?_⟩
    · rcases List.mem_cons.mp hr with rfl | hr
      · exact ⟨i, hi, fun z => absurd rfl z⟩
      · exact h1.s1 r hr
    · rcases h1.s3 m k q with q | ⟨r, hr, z⟩
      · exact .inr ⟨(n, ("" : Str)), by simp, .inl (by simpa using q)⟩
      · exact .inr ⟨r, List.mem_cons_of_mem _ hr, z⟩
def fa (D : Rw) (a : Str) : List (Str × Bool) := (D.filter fun r => decide (r.2 = a)).map fun r => (r.1, true)
structure TH (D : Rw) (T : Threads) : Prop where
  go : T.goes_to = D
  nd : (D.map (·.1)).Nodup
  ck : (T.comes_from.map (·.1)).Nodup
  cg : ∀ a, dget T.comes_from a = if fa D a = [] then none else some (fa D a)
  pw : PW D [] T
theorem th0 : TH [] (⟨[], [], [], [], 0⟩ : Threads) :=
  ⟨rfl, List.nodup_nil, List.nodup_nil, fun _ => rfl, List.nodup_nil, List.nodup_nil, (fun _ _ h => nomatch h), (fun _ _ h => nomatch h), (fun _ h => nomatch h), (fun _ _ _ h => nomatch h), (fun _ _ h => nomatch h)⟩
theorem TH.clen {D : Rw} {T : Threads} (h : TH D T) : T.comes_from.length ≤ D.length := by
  have : (T.comes_from.map (·.1)).length ≤ (D.map (·.2)).length := nodup_lenG h.ck fun a ha => by
    obtain ⟨v, hv⟩ := dhas_get (dhas_iff.mpr ha)
    rw [h.cg] at hv
    by_cases c : fa D a = []
    · rw [if_pos c] at hv; cases hv
    · cases q : D.filter (fun r => decide (r.2 = a)) with
      | nil => exact absurd (by unfold fa; rw [q]; rfl) c
      | cons r l =>
        have hr : r ∈ D.filter (fun r => decide (r.2 = a)) := by rw [q]; simp
        obtain ⟨h1, h2⟩ := List.mem_filter.mp hr
        exact List.mem_map.mpr ⟨r, h1, of_decide_eq_true h2⟩
  rw [List.length_map, List.length_map] at this
  exact this
theorem fa_len (D : Rw) (a : Str) : (fa D a).length ≤ D.length := by unfold fa; rw [List.length_map]; exact List.length_filter_le ..
theorem fa_keys (D : Rw) (a : Str) : (fa D a).map (·.1) = (D.filter fun r => decide (r.2 = a)).map (·.1) := by unfold fa; rw [List.map_map]; rfl
theorem cget {D : Rw} {T : Threads} (h : TH D T) (a : Str) : (dget T.comes_from a).getD [] = fa D a := by
  rw [h.cg]
  by_cases c : fa D a = []
  · rw [if_pos c, c]; rfl
  · rw [if_neg c]; rfl
theorem fa_app (D : Rw) (n a b : Str) : fa (D ++ [(n, a)]) b = if a = b then fa D b ++ [(n, true)] else fa D b := by
  unfold fa
  rw [List.filter_append, List.map_append]
  by_cases c : a = b
  · rw [if_pos c, List.filter_cons_of_pos (by simp [c])]; rfl
  · rw [if_neg c, List.filter_cons_of_neg (by simp [c])]; simp
theorem fa_no {D : Rw} {n : Str} (h : dhas D n = false) (a : Str) : dhas (fa D a) n = false := by
  rw [dhas_false, fa_keys]
  intro q
  obtain ⟨r, hr, e⟩ := List.mem_map.mp q
  exact dhas_false.mp h (List.mem_map.mpr ⟨r, (List.mem_filter.mp hr).1, e⟩)
theorem tsure_ok {D : Rw} {T : Threads} (h : TH D T) {n : Str} (c : dhas D n = true) : m_Threads_sure T n = .ok () := by
  unfold m_Threads_sure
  rw [h.go, c]; rfl
theorem tadd_ok {D : Rw} {T : Threads} (h : TH D T) (lim : D.length ≤ 100) {n a : Str} (hn : dhas D n = false) : Ok (m_Threads_add T n a) fun T' => TH (D ++ [(n, a)]) T' := by
  have lc := h.clen
  have lf := fa_len D a
  unfold m_Threads_add
  rw [h.go]
  refine .ifF (by rw [hn]; decide) (.need (line9 (by omega)) (.need (line9 (by omega)) (.need (line9 (by rw [cget h]; omega)) ?_)))
  rw [cget h, dput_new hn, dput_new (fa_no hn a)]
  have nd : ((D ++ [(n, a)]).map (·.1)).Nodup := by rw [← dput_new hn]; exact nodup_dput h.nd _ _
  refine .bind (Q := fun T' => TH (D ++ [(n, a)]) T') ?_ fun T' hT => .ret hT
  have hw : PW D [] (⟨D ++ [(n, a)], T.pile_of, T.piles, dput (setE T.comes_from a []) a (fa D a ++ [(n, true)]), T.made⟩ : Threads) := ⟨h.pw.kn, h.pw.pn, h.pw.p2, h.pw.p3, h.pw.s1, h.pw.s2, h.pw.s3⟩
  obtain ⟨T', e, e1, e2, e3⟩ := hang_ok hw (by omega) (n := n) (a := a) (dget_last hn)
  rw [e]
  refine .ret ⟨e1, nd, ?_, fun b => ?_, e3.congr fun r => by simp [or_comm]⟩
  · rw [e2]; exact nodup_dput (setE_nodup h.ck _ _) _ _
  · rw [e2, setE_get, fa_app]
    by_cases c : a = b
    · subst c
      rw [if_pos rfl, if_pos rfl, if_neg (by simp)]
    · rw [if_neg c, if_neg c, h.cg]
theorem drops_ok : ∀ (l : List Str) (P : List (Str × Int)), l.Nodup → (∀ n, n ∈ l → dhas P n = true) → Ok (forR (fun (s : List (Str × Int)) (x : Str) => (dgetR s x).bind fun _ => R.ok (ddrop s x)) l P) fun P' => (∀ m, dget P' m = if m ∈ l then none else dget P m) ∧ ((P.map (·.1)).Nodup → (P'.map (·.1)).Nodup)
  | [], P, _, _ => .ret ⟨fun m => by simp, id⟩
  | x :: l, P, nd, hl => by
    obtain ⟨n1, n2⟩ := List.nodup_cons.mp nd
    obtain ⟨v, hv⟩ := dhas_get (hl x (by simp))
    obtain ⟨P', e, h1, h2⟩ := drops_ok l (ddrop P x) n2 fun n hn => by
      have := hl n (List.mem_cons_of_mem _ hn)
      unfold dhas at *
      rw [dget_drop, if_neg (fun z => n1 (by rw [z]; exact hn))]; exact this
    refine ⟨P', ?_, fun m => ?_, fun nd => h2 (nodup_ddrop nd _)⟩
    · show ((dgetR P x).bind fun _ => R.ok (ddrop P x)).bind _ = _
      rw [dgetR_ok hv]; exact e
    · rw [h1, dget_drop]
      by_cases c : m ∈ l
      · rw [if_pos c, if_pos (by simp [c])]
      · rw [if_neg c]
        by_cases d : x = m
        · rw [if_pos d, if_pos (by simp [d])]
        · rw [if_neg d, if_neg (by simp [c]; exact fun e => d e.symm)]
theorem fa_drop (D : Rw) (n b : Str) : fa (ddrop D n) b = ddrop (fa D b) n := by
  unfold fa ddrop
  rw [List.filter_map, List.filter_filter, List.filter_filter]
  congr 1
  refine List.filter_congr fun r _ => ?_
  show (decide (r.2 = b) && decide (r.1 ≠ n)) = (decide (r.1 ≠ n) && decide (r.2 = b))
  exact Bool.and_comm _ _
theorem ddrop_no {κ β : Type} [DecidableEq κ] {d : List (κ × β)} {k : κ} (h : dhas d k = false) : ddrop d k = d := by
  unfold ddrop
  exact List.filter_eq_self.mpr fun p hp => decide_eq_true fun e => dhas_false.mp h (List.mem_map.mpr ⟨p, hp, e⟩)
theorem mem_ddrop {κ β : Type} [DecidableEq κ] {d : List (κ × β)} {k : κ} {p : κ × β} : p ∈ ddrop d k ↔ p ∈ d ∧ p.1 ≠ k := by
  unfold ddrop
  rw [List.mem_filter, decide_eq_true_eq]
theorem ttake_ok {D : Rw} {T : Threads} (h : TH D T) (lim : D.length ≤ 64) {n a : Str} (hn : dget D n = some a) : Ok (m_Threads_take_out T n) fun T' => TH (ddrop D n) T' := by
  have hh := has_of hn
  have W := h.pw
  unfold m_Threads_take_out
  refine .bindE (tsure_ok h hh) ?_
  rw [h.go]
  have hm : (n, a) ∈ D := dget_mem hn
  have hf : dget (fa D a) n = some true := by
    refine dget_of_mem ?_ (List.mem_map.mpr ⟨(n, a), List.mem_filter.mpr ⟨hm, decide_eq_true rfl⟩, rfl⟩)
    rw [fa_keys]; exact h.nd.sublist (List.filter_sublist.map _)
  have fne : fa D a ≠ [] := fun e => by rw [e] at hf; cases hf
  have gc : dget T.comes_from a = some (fa D a) := by rw [h.cg, if_neg fne]
  have g4 : dget (dput T.comes_from a (ddrop (fa D a) n)) a = some (ddrop (fa D a) n) := by rw [dget_put, if_pos rfl]
  refine .bindE (dgetR_ok hn) (.bindE (dgetR_ok gc) (.bindE (dgetR_ok hf) (.bindE (dgetR_ok g4) ?_)))
  refine .bind (Q := fun C => (C.map (·.1)).Nodup ∧ ∀ b, dget C b = if fa (ddrop D n) b = [] then none else some (fa (ddrop D n) b)) ?_ fun C ⟨ck, cg⟩ => ?_
  · have other : ∀ b, a ≠ b → fa (ddrop D n) b = fa D b := fun b ne => by
      rw [fa_drop]
      refine ddrop_no (dhas_false.mpr fun q => ?_)
      rw [fa_keys] at q
      obtain ⟨r, hr, e⟩ := List.mem_map.mp q
      obtain ⟨r1, r2⟩ := List.mem_filter.mp hr
      have := dget_of_mem h.nd (k := r.1) (v := r.2) r1
      rw [e, hn] at this
      exact ne ((Option.some.inj this).trans (of_decide_eq_true r2))
    refine .ite (fun c => ?_) fun c => ?_
    · have c : ddrop (fa D a) n = [] := List.length_eq_zero_iff.mp (by have := of_decide_eq_true c; omega)
      refine .bindE (dgetR_ok g4) (.ret ⟨nodup_ddrop (nodup_dput h.ck _ _) _, fun b => ?_⟩)
      rw [dget_drop]
      by_cases d : a = b
      · subst d; rw [if_pos rfl, fa_drop, if_pos c]
      · rw [if_neg d, dget_put, if_neg d, h.cg, other b d]
    · have c : ¬ ddrop (fa D a) n = [] := fun e => c (by rw [e]; rfl)
      refine .ret ⟨nodup_dput h.ck _ _, fun b => ?_⟩
      rw [dget_put]
      by_cases d : a = b
      · subst d; rw [if_pos rfl, fa_drop, if_neg c]
      · rw [if_neg d, h.cg, other b d]
  obtain ⟨i, hi, _⟩ := W.s1 (n, a) hm
  have hi : dget T.pile_of n = some i := hi
  obtain ⟨old, ho, hno⟩ := W.p2 n i hi
  obtain ⟨o1, o2, o3, o4⟩ := W.p3 i old ho
  have lo := W.plen ho
  refine .bindE (dgetR_ok hi) (.bindE (dgetR_ok ho) ?_)
  refine .bind (drops_ok old T.pile_of o1 fun m hm => has_of (o2 m hm)) fun P' ⟨gp, np⟩ => ?_
  have gp' : ∀ m k, dget P' m = some k ↔ dget T.pile_of m = some k ∧ k ≠ i := fun m k => by
    rw [gp]
    constructor
    · intro q
      by_cases c : m ∈ old
      · rw [if_pos c] at q; cases q
      · rw [if_neg c] at q
        refine ⟨q, fun e => c ?_⟩
        obtain ⟨l, hl, hm⟩ := W.p2 m k q
        rw [e, ho] at hl; cases hl
        exact hm
    · rintro ⟨q, ne⟩
      rw [if_neg (fun c => ne (Option.some.inj (q.symm.trans (o2 m c)))), q]
  let base : Rw := D.filter fun r => decide (dget T.pile_of r.1 ≠ some i)
  have mb : ∀ r, r ∈ base ↔ r ∈ D ∧ dget T.pile_of r.1 ≠ some i := fun r => by
    show r ∈ D.filter _ ↔ _
    rw [List.mem_filter, decide_eq_true_eq]
  have path : ∀ x y, Conn D x y → ∀ k, k ≠ i → dget T.pile_of x = some k → Conn base x y ∧ dget T.pile_of y = some k := by
    intro x y c
    induction c with
    | refl => exact fun k _ q => ⟨.refl _, q⟩
    | @step u v _ e ih =>
      intro k ne q
      obtain ⟨c1, q1⟩ := ih k ne q
      obtain ⟨r, hr, z, w⟩ := e
      obtain ⟨j, s1, s2⟩ := W.s1 r hr
      rcases w with ⟨e1, e2⟩ | ⟨e1, e2⟩
      · have : j = k := Option.some.inj (by rw [← s1, ← e1, q1])
        subst this
        exact ⟨.step c1 ⟨r, (mb r).mpr ⟨hr, by rw [s1]; exact fun y => ne (Option.some.inj y)⟩, z, .inl ⟨e1, e2⟩⟩, by rw [e2]; exact s2 z⟩
      · have : j = k := Option.some.inj (by rw [← s2 z, ← e1, q1])
        subst this
        exact ⟨.step c1 ⟨r, (mb r).mpr ⟨hr, by rw [s1]; exact fun y => ne (Option.some.inj y)⟩, z, .inr ⟨e1, e2⟩⟩, by rw [e2]; exact s1⟩
  have W0 : PW base [] (⟨ddrop D n, P', ddrop T.piles i, C, T.made⟩ : Threads) := by
    refine ⟨np W.kn, nodup_ddrop W.pn _, fun m k q => ?_, fun k l q => ?_, fun r hr => ?_, fun x y k q1 q2 => ?_, fun m k q => ?_⟩
    · obtain ⟨q1, ne⟩ := (gp' m k).mp q
      obtain ⟨l, hl, hm⟩ := W.p2 m k q1
      exact ⟨l, by show dget (ddrop T.piles i) k = _; rw [dget_drop, if_neg (fun e => ne e.symm)]; exact hl, hm⟩
    · have q : dget (ddrop T.piles i) k = some l := q
      rw [dget_drop] at q
      by_cases c : i = k
      · rw [if_pos c] at q; cases q
      · rw [if_neg c] at q
        obtain ⟨b1, b2, b3, b4⟩ := W.p3 k l q
        exact ⟨b1, fun m hm => (gp' m k).mpr ⟨b2 m hm, fun e => c e.symm⟩, b3, b4⟩
    · obtain ⟨r1, r2⟩ := (mb r).mp hr
      obtain ⟨k, s1, s2⟩ := W.s1 r r1
      have ne : k ≠ i := fun e => r2 (by rw [s1, e])
      exact ⟨k, (gp' _ k).mpr ⟨s1, ne⟩, fun z => (gp' _ k).mpr ⟨s2 z, ne⟩⟩
    · obtain ⟨z1, ne⟩ := (gp' x k).mp q1
      obtain ⟨z2, _⟩ := (gp' y k).mp q2
      exact (path x y (W.s2 x y k z1 z2) k ne z1).1
    · obtain ⟨z1, ne⟩ := (gp' m k).mp q
      rcases W.s3 m k z1 with w | ⟨r, hr, w⟩
      · exact nomatch w
      · obtain ⟨j, s1, s2⟩ := W.s1 r hr
        have : j = k := by
          rcases w with e | ⟨e, nz⟩
          · rw [e, s1] at z1; exact Option.some.inj z1
          · rw [e, s2 (by rw [← e]; exact nz)] at z1; exact Option.some.inj z1
        subst this
        exact .inr ⟨r, (mb r).mpr ⟨hr, by rw [s1]; exact fun y => ne (Option.some.inj y)⟩, w⟩
  have lb : base.length ≤ D.length := List.length_filter_le ..
  have hold : old.length ≤ 2 * D.length := by simpa using lo
  refine .forI (fun p (S : Threads) => S.goes_to = ddrop D n ∧ S.comes_from = C ∧ ∃ E, PW E [] S ∧ (∀ r, r ∈ E ↔ (r ∈ base ∨ (r ∈ ddrop D n ∧ r.1 ∈ p))) ∧ E.length ≤ base.length + (p.filter fun x => dhas (ddrop D n) x).length) ⟨rfl, rfl, base, W0, fun r => by simp, by simp⟩ ?_ ?_
  · rintro p x q S ep ⟨e1, e2, E, hE, mE, lE⟩
    have ndp : (p.filter fun x => dhas (ddrop D n) x).length ≤ D.length := by
      have : (p.filter fun x => dhas (ddrop D n) x).length ≤ ((ddrop D n).map (·.1)).length := nodup_lenG ((o1.sublist (by rw [ep]; exact List.sublist_append_left _ _)).filter _) fun y hy => dhas_iff.mp (List.mem_filter.mp hy).2
      have l2 := len_ddrop D n
      rw [List.length_map] at this
      omega
    rw [e1]
    refine .bind (Q := fun S' => S'.goes_to = ddrop D n ∧ S'.comes_from = C ∧ ∃ E, PW E [] S' ∧ (∀ r, r ∈ E ↔ (r ∈ base ∨ (r ∈ ddrop D n ∧ r.1 ∈ p ++ [x]))) ∧ E.length ≤ base.length + ((p ++ [x]).filter fun x => dhas (ddrop D n) x).length) (.ite (fun c => ?_) fun c => ?_) fun S' hS => .ret hS
    · obtain ⟨b, hb⟩ := dhas_get c
      obtain ⟨S', e, f1, f2, f3⟩ := hang_ok hE (by omega) (n := x) (a := b) (by rw [e1]; exact hb)
      rw [e]
      refine .ret ⟨f1.trans e1, f2.trans e2, (x, b) :: E, f3, fun r => ?_, ?_⟩
      · rw [List.mem_cons, mE]
        constructor
        · rintro (rfl | q | ⟨q1, q2⟩)
          · exact .inr ⟨dget_mem hb, by simp⟩
          · exact .inl q
          · exact .inr ⟨q1, by simp [q2]⟩
        · rintro (q | ⟨q1, q2⟩)
          · exact .inr (.inl q)
          · rcases List.mem_append.mp q2 with z | z
            · exact .inr (.inr ⟨q1, z⟩)
            · have z : r.1 = x := by simpa using z
              have := dget_of_mem (nodup_ddrop h.nd n) (k := r.1) (v := r.2) q1
              rw [z, hb] at this
              exact .inl (Prod.ext z (Option.some.inj this).symm)
      · rw [List.filter_append, List.filter_cons_of_pos (by simpa using c), List.length_cons, List.length_append]
        show _ ≤ base.length + (_ + 1)
        omega
    · refine .ret ⟨e1, e2, E, hE, fun r => ?_, ?_⟩
      · rw [mE]
        constructor
        · rintro (q | ⟨q1, q2⟩)
          · exact .inl q
          · exact .inr ⟨q1, by simp [q2]⟩
        · rintro (q | ⟨q1, q2⟩)
          · exact .inl q
          · rcases List.mem_append.mp q2 with z | z
            · exact .inr ⟨q1, z⟩
            · have z : r.1 = x := by simpa using z
              exact absurd (dhas_iff.mpr (List.mem_map.mpr ⟨r, q1, z⟩)) c
      · rw [List.filter_append, List.filter_cons_of_neg (by simpa using c)]
        simpa using lE
  · rintro S ⟨e1, e2, E, hE, mE, _⟩
    refine .ret ⟨e1, nodup_ddrop h.nd n, by rw [e2]; exact ck, fun b => by rw [e2]; exact cg b, hE.congr fun r => ?_⟩
    rw [mE]
    constructor
    · rintro (q | ⟨q1, _⟩)
      · obtain ⟨r1, r2⟩ := (mb r).mp q
        exact mem_ddrop.mpr ⟨r1, fun e => r2 (by rw [e]; exact hi)⟩
      · exact q1
    · intro q
      obtain ⟨q1, q2⟩ := mem_ddrop.mp q
      by_cases c : dget T.pile_of r.1 = some i
      · obtain ⟨l, hl, hm⟩ := W.p2 r.1 i c
        rw [ho] at hl; cases hl
        exact .inr ⟨q, hm⟩
      · exact .inl ((mb r).mpr ⟨q1, c⟩)
theorem idx_end {α : Type} {xs : List α} {j : Nat} (hj : j < xs.length) : idxR xs (-((j : Int) + 1)) = .ok (xs[xs.length - 1 - j]'(by omega)) := by
  have e : ixN xs.length (-((j : Int) + 1)) = some (xs.length - 1 - j) := by
    unfold ixN
    rw [if_neg (by omega), if_pos (by omega)]
    congr 1; omega
  unfold idxR atI
  rw [e]
  show (match xs[xs.length - 1 - j]? with | some x => R.ok x | none => R.bad) = _
  rw [List.getElem?_eq_getElem (by omega)]
theorem last1 {α : Type} {l : List α} {x : α} : idxR (l ++ [x]) (-1) = .ok x := by
  have h := idx_end (xs := l ++ [x]) (j := 0) (by simp)
  have e : (-(((0 : Nat) : Int) + 1)) = -1 := rfl
  rw [e] at h
  rw [h]
  congr 1
  simp
theorem fm_y {α β : Type} {f : α → Option β} {x : α} {l : List α} {b : β} (h : f x = some b) : (x :: l).filterMap f = b :: l.filterMap f := List.filterMap_cons_some h
theorem fm_n {α β : Type} {f : α → Option β} {x : α} {l : List α} (h : f x = none) : (x :: l).filterMap f = l.filterMap f := List.filterMap_cons_none h
theorem remP_drop {n a : Str} : ∀ {D : Rw}, (D.map (·.1)).Nodup → dget D n = some a → remP D (n, a) = ddrop D n
  | [], _, h => by cases h
  | r :: D, nd, h => by
    rw [List.map_cons, List.nodup_cons] at nd
    rw [dget_cons] at h
    have ih := remP_drop (n := n) (a := a) (D := D) nd.2
    unfold remP at *
    unfold ddrop at *
    rw [List.findIdx_cons]
    by_cases c : r.1 = n
    · rw [if_pos c] at h
      have e : r = (n, a) := Prod.ext c (Option.some.inj h)
      have f : (D.filter fun kv => decide (kv.1 ≠ n)) = D := List.filter_eq_self.mpr fun y hy => decide_eq_true fun z => nd.1 (by rw [c, ← z]; exact List.mem_map.mpr ⟨y, hy, rfl⟩)
      rw [List.filter_cons_of_neg (by simp [c]), f, decide_eq_true e]; rfl
    · rw [if_neg c] at h
      rw [List.filter_cons_of_pos (by simp [c]), decide_eq_false (fun e => c (by rw [e])), ← ih h]; rfl
theorem is_list_ok {l : List Str} (h : ∀ x, x ∈ l → Asc x) (hl : l.length ≤ 900) : m_law_is_list l l = .ok true := by
  refine Ok.eq ?_
  unfold m_law_is_list
  refine .need (strs_lay h) (.need (strs_lay h) (.ifF (by rw [decide_eq_true rfl]; decide) (.need (le_line (by omega)) (.compM (fun _ => true) (fun _ _ => .ret rfl) (.ret ?_)))))
  show (l.map fun _ => true).all id = true
  rw [List.all_map]; exact List.all_eq_true.mpr fun _ _ => rfl
theorem is_listP_ok {l : List Str} (h : ∀ x, x ∈ l → Asc x) (hl : l.length ≤ 900) : m_law_is_list_P l l = .ok true := by
  refine Ok.eq ?_
  unfold m_law_is_list_P
  refine .need (strs_lay h) (.need (strs_lay h) (.ifF (by rw [decide_eq_true rfl]; decide) (.need (le_line (by omega)) (.compM (fun _ => true) (fun _ _ => .ret rfl) (.ret ?_)))))
  show (l.map fun _ => true).all id = true
  rw [List.all_map]; exact List.all_eq_true.mpr fun _ _ => rfl
structure WD (D : Rw) : Prop where
  nd : (D.map (·.1)).Nodup
  ne : ∀ r, r ∈ D → r.1 ≠ ("" : Str)
  asc : ∀ r, r ∈ D → Asc r.1 ∧ Asc r.2
  few : D.length ≤ 64
theorem WD.lay {D E : Rw} (h : WD D) (s : ∀ r, r ∈ E → r ∈ D) : (Lay.lay E : Bool) = true := List.all_eq_true.mpr fun r hr => by
  obtain ⟨a, b⟩ := h.asc r (s r hr)
  show (Lay.lay r.1 && Lay.lay r.2) = true
  rw [a.lay, b.lay]; rfl
theorem WD.lay1 {D : Rw} (h : WD D) {r : Str × Str} (hr : r ∈ D) : (Lay.lay r : Bool) = true := by
  obtain ⟨a, b⟩ := h.asc r hr
  show (Lay.lay r.1 && Lay.lay r.2) = true
  rw [a.lay, b.lay]; rfl
theorem memD_iff {α : Type} [DecidableEq α] {x : α} {xs : List α} : memD x xs = true ↔ x ∈ xs := by
  unfold memD; exact decide_eq_true_iff
theorem memD_no {α : Type} [DecidableEq α] {x : α} {xs : List α} (h : ¬ x ∈ xs) : memD x xs = false := Bool.eq_false_iff.mpr fun z => h (memD_iff.mp z)
/-- the thread of a name: a list that is settled by its members -/
structure IsThr (D : Rw) (n : Str) (l : List Str) : Prop where
  up : l.Pairwise fun a b => leT a b = true
  nd : l.Nodup
  mem : ∀ x, x ∈ l ↔ dhas D x = true ∧ Conn D n x
theorem IsThr.one {D : Rw} {n : Str} {l m : List Str} (h : IsThr D n l) (k : IsThr D n m) : l = m :=
  up_one h.up k.up (perm_same h.nd k.nd fun x => (h.mem x).trans (k.mem x).symm)
theorem fm_filter {α : Type} (p : α → Bool) (l : List α) : l.filterMap (fun x => if p x = true then some x else none) = l.filter p := by
  induction l with
  | nil => rfl
  | cons r D ih =>
    by_cases c : p r = true
    · rw [fm_y (f := fun r => if p r = true then some r else none) (b := r) (if_pos c), List.filter_cons_of_pos c, ih]
    · rw [fm_n (f := fun r => if p r = true then some r else none) (if_neg c), List.filter_cons_of_neg c, ih]
theorem pile_conn {D : Rw} {T : Threads} (h : PW D [] T) {n x : Str} (c : Conn D n x) : ∀ {i}, dget T.pile_of n = some i → dget T.pile_of x = some i := by
  induction c with
  | refl => exact fun h => h
  | @step u v _ e ih =>
    intro i hi
    have hu := ih hi
    obtain ⟨r, hr, nz, w⟩ := e
    obtain ⟨j, s1, s2⟩ := h.s1 r hr
    rcases w with ⟨e1, e2⟩ | ⟨e1, e2⟩
    · rw [e1, s1] at hu
      rw [e2, s2 nz]; exact hu
    · rw [e1, s2 nz] at hu
      rw [e2, s1]; exact hu
theorem Conn.congr {D E : Rw} (p : ∀ r, r ∈ D ↔ r ∈ E) {a b : Str} : Conn D a b ↔ Conn E a b := ⟨fun c => c.mono fun r hr => (p r).mp hr, fun c => c.mono fun r hr => (p r).mpr hr⟩
theorem has_perm {D E : Rw} (p : D.Perm E) (x : Str) : dhas D x = dhas E x := by
  rw [Bool.eq_iff_iff, dhas_iff, dhas_iff]; exact (p.map _).mem_iff
/-- all threads, by their first names -/
def thsOf (f : Str → List Str) : List Str → List (List Str) → List (List Str)
  | [], L => L
  | x :: S, L => thsOf f S (if f x ∈ L then L else L ++ [f x])
theorem thsOf_app (f : Str → List Str) : ∀ (A B : List Str) (L : List (List Str)), thsOf f (A ++ B) L = thsOf f B (thsOf f A L)
  | [], _, _ => rfl
  | x :: A, B, L => thsOf_app f A B _
theorem thsOf_mem (f : Str → List Str) : ∀ (S : List Str) (L : List (List Str)) (l : List Str), l ∈ thsOf f S L ↔ l ∈ L ∨ ∃ x, x ∈ S ∧ f x = l
  | [], L, l => by simp [thsOf]
  | x :: S, L, l => by
    unfold thsOf
    rw [thsOf_mem f S]
    by_cases c : f x ∈ L
    · rw [if_pos c]
      constructor
      · rintro (q | ⟨y, hy, e⟩)
        · exact .inl q
        · exact .inr ⟨y, by simp [hy], e⟩
      · rintro (q | ⟨y, hy, e⟩)
        · exact .inl q
        · rcases List.mem_cons.mp hy with rfl | hy
          · exact .inl (by rw [← e]; exact c)
          · exact .inr ⟨y, hy, e⟩
    · rw [if_neg c, List.mem_append, List.mem_singleton]
      constructor
      · rintro ((q | q) | ⟨y, hy, e⟩)
        · exact .inl q
        · exact .inr ⟨x, by simp, q.symm⟩
        · exact .inr ⟨y, by simp [hy], e⟩
      · rintro (q | ⟨y, hy, e⟩)
        · exact .inl (.inl q)
        · rcases List.mem_cons.mp hy with rfl | hy
          · exact .inl (.inr e.symm)
          · exact .inr ⟨y, hy, e⟩
theorem thsOf_len (f : Str → List Str) : ∀ (S : List Str) (L : List (List Str)), (thsOf f S L).length ≤ L.length + S.length
  | [], L => Nat.le_refl _
  | x :: S, L => by
    unfold thsOf
    rw [List.length_cons]
    by_cases c : f x ∈ L
    · rw [if_pos c]
      have := thsOf_len f S L
      omega
    · rw [if_neg c]
      have := thsOf_len f S (L ++ [f x])
      rw [List.length_append] at this
      have e : [f x].length = 1 := rfl
      omega
theorem thsOf_snoc (f : Str → List Str) (p : List Str) (x : Str) (L : List (List Str)) : thsOf f (p ++ [x]) L = if f x ∈ thsOf f p L then thsOf f p L else thsOf f p L ++ [f x] := by
  rw [thsOf_app]; rfl
theorem key_asc {E : Rw} (W : WD E) {x : Str} (h : x ∈ E.map (·.1)) : Asc x := by
  obtain ⟨r, hr, e⟩ := List.mem_map.mp h
  rw [← e]; exact (W.asc r hr).1
theorem put_new {L : List Str} {a : Str} (h : ¬ a ∈ L) : dput (L.map fun x => (x, true)) a true = (L ++ [a]).map fun x => (x, true) := by
  rw [dput_new (by rw [dhas_false, List.map_map]; simpa using h), List.map_append]; rfl
theorem merge_app {β : Type} : ∀ (E A : List (Str × β)), ((A ++ E).map (·.1)).Nodup → mergeD A E = A ++ E
  | [], A, _ => by rw [List.append_nil]; rfl
  | e :: E, A, nd => by
    show mergeD (dput A e.1 e.2) E = _
    have no : dhas A e.1 = false := by
      rw [dhas_false]
      intro q
      rw [List.map_append, List.nodup_append] at nd
      exact nd.2.2 _ q e.1 (by simp) rfl
    rw [dput_new no]
    have ea : (A ++ [(e.1, e.2)]) ++ E = A ++ e :: E := by simp
    rw [merge_app E (A ++ [(e.1, e.2)]) (by rw [ea]; exact nd), ea]
theorem merge_same {β : Type} {E : List (Str × β)} (nd : (E.map (·.1)).Nodup) : mergeD [] E = E := merge_app E [] nd
theorem get_perm {D E : Rw} (nd : (D.map (·.1)).Nodup) (p : D.Perm E) (x : Str) : dget D x = dget E x := by
  have nd2 : (E.map (·.1)).Nodup := (p.map _).nodup_iff.mp nd
  cases c : dget D x with
  | some v => exact (dget_of_mem nd2 (p.mem_iff.mp (dget_mem c))).symm
  | none =>
    have := dget_none.mp c
    exact (dget_none.mpr fun q => this ((p.map _).mem_iff.mpr q)).symm
theorem deepT_ok {E : Rw} (few : E.length ≤ 64) {C : List Str → R Bool} {F : List Str → R (List Str)} {N : List (Str × Bool) × Str → Bool} {B : List (Str × Bool) × Str → R (List (Str × Bool) × Str)}
    (hC : ∀ (L : List Str) (x a : Str), dget E x = some a → L.length ≤ 66 → C (L ++ [x]) = .ok (dhas E a && !decide (a ∈ L ++ [x])))
    (hF : ∀ (L : List Str) (x a : Str), dget E x = some a → L.length ≤ 66 → F (L ++ [x]) = .ok ((L ++ [x]) ++ [a]))
    (hN : ∀ (L : List Str) (a : Str), N (L.map fun x => (x, true), a) = (dhas E a && !decide (a ∈ L)))
    (hB : ∀ (L : List Str) (a b : Str), ¬ a ∈ L → L.length ≤ 66 → dget E a = some b → B (L.map fun x => (x, true), a) = .ok ((L ++ [a]).map fun x => (x, true), b)) :
    ∀ (f : Nat) (L : List Str) (x a : Str), (L ++ [x]).Nodup → (∀ y, y ∈ L ++ [x] → dhas E y = true) → dget E x = some a → E.length - L.length < f →
      ∃ d : Nat, 1 ≤ d ∧ d ≤ E.length ∧ Ok (whileT f C F (L ++ [x])) (fun s => s.length = d) ∧ Ok (whileN f N B ((L ++ [x]).map fun x => (x, true), a)) fun s => s.1.length = d
  | 0, _, _, _, _, _, _, hf => absurd hf (Nat.not_lt_zero _)
  | f + 1, L, x, a, nd, hd, hx, hf => by
    have lL : (L ++ [x]).length ≤ E.length := by
      have := nodup_lenG nd fun y hy => dhas_iff.mp (hd y hy)
      rw [List.length_map] at this
      exact this
    have lL1 : L.length + 1 ≤ E.length := by rw [List.length_append] at lL; exact lL
    unfold whileT whileN
    rw [hC L x a hx (by omega), hN, R.bind_ok]
    cases c : (dhas E a && !decide (a ∈ L ++ [x])) with
    | false =>
      refine ⟨(L ++ [x]).length, by rw [List.length_append]; show 1 ≤ L.length + 1; omega, lL, ?_, ?_⟩
      · rw [if_neg Bool.false_ne_true]; exact .ret rfl
      · rw [if_neg Bool.false_ne_true]; exact .ret (List.length_map ..)
    | true =>
      rw [Bool.and_eq_true] at c
      have c2 : dhas E a = true := c.1
      have c1 : ¬ a ∈ L ++ [x] := fun z => by rw [decide_eq_true z] at c; exact absurd c.2 (by decide)
      rw [if_pos rfl, if_pos rfl, hF L x a hx (by omega)]
      obtain ⟨b, hb⟩ := dhas_get c2
      have nd2 : ((L ++ [x]) ++ [a]).Nodup := by
        rw [List.nodup_append]
        exact ⟨nd, by simp, fun y hy z hz e => c1 (by rw [List.mem_singleton] at hz; rw [← hz, ← e]; exact hy)⟩
      have hd2 : ∀ y, y ∈ (L ++ [x]) ++ [a] → dhas E y = true := fun y hy => by
        rcases List.mem_append.mp hy with q | q
        · exact hd y q
        · rw [List.mem_singleton.mp q]; exact c2
      obtain ⟨d, d1, d2, e1, e2⟩ := deepT_ok few hC hF hN hB f (L ++ [x]) a b nd2 hd2 hb (by rw [List.length_append]; show E.length - (L.length + 1) < f; omega)
      refine ⟨d, d1, d2, ?_, ?_⟩
      · rw [R.bind_ok]; exact e1
      · rw [hB (L ++ [x]) a b c1 (by omega) hb]; exact e2
theorem deepT_join {E : Rw} (few : E.length ≤ 64) {x a : Str} (hx : dhas E x = true) (ha : dget E x = some a) {C : List Str → R Bool} {F : List Str → R (List Str)} {N : List (Str × Bool) × Str → Bool} {B : List (Str × Bool) × Str → R (List (Str × Bool) × Str)}
    (hC : ∀ (L : List Str) (x a : Str), dget E x = some a → L.length ≤ 66 → C (L ++ [x]) = .ok (dhas E a && !decide (a ∈ L ++ [x])))
    (hF : ∀ (L : List Str) (x a : Str), dget E x = some a → L.length ≤ 66 → F (L ++ [x]) = .ok ((L ++ [x]) ++ [a]))
    (hN : ∀ (L : List Str) (a : Str), N (L.map fun x => (x, true), a) = (dhas E a && !decide (a ∈ L)))
    (hB : ∀ (L : List Str) (a b : Str), ¬ a ∈ L → L.length ≤ 66 → dget E a = some b → B (L.map fun x => (x, true), a) = .ok ((L ++ [a]).map fun x => (x, true), b)) :
    ∃ d : Int, 0 ≤ d ∧ d ≤ 64 ∧ ((whileT 100 C F [x]).bind fun s => R.ok ((s.length : Int) - 1)) = .ok d ∧ ((whileN 100 N B (mergeD [] [(x, true)], a)).bind fun s => R.ok ((s.1.length : Int) - 1)) = .ok d := by
  obtain ⟨d, d1, d2, ⟨s, e1, e2⟩, t, e3, e4⟩ := deepT_ok few hC hF hN hB 100 [] x a (by simp) (fun y hy => by rw [List.nil_append, List.mem_singleton] at hy; rw [hy]; exact hx) ha (by show E.length - 0 < 100; omega)
  refine ⟨(d : Int) - 1, by omega, by omega, ?_, ?_⟩
  · have e1 : whileT 100 C F [x] = .ok s := e1
    rw [e1, R.bind_ok, e2]
  · have e0 : mergeD [] [(x, true)] = ([] ++ [x]).map fun x => (x, true) := rfl
    rw [e0, e3, R.bind_ok, e4]
theorem depth_eq {D E : Rw} {T : Threads} (h : TH D T) (p : D.Perm E) (W : WD E) {x : Str} (hx : dhas E x = true) : ∃ d : Int, 0 ≤ d ∧ d ≤ 64 ∧ m_law_deep E x = .ok d ∧ m_Threads_depth T x = .ok d := by
  obtain ⟨a, ha⟩ := dhas_get hx
  have few := W.few
  have g : ∀ y, dget D y = dget E y := get_perm h.nd p
  unfold m_law_deep m_Threads_depth
  rw [tsure_ok h (by rw [has_perm p]; exact hx), R.bind_ok, R.bind_ok, R.bind_ok, R.bind_ok, h.go, dgetR_ok (show dget D x = some a by rw [g]; exact ha), R.bind_ok, merge_same W.nd]
  refine deepT_join few hx ha ?_ ?_ ?_ ?_
  · intro L x a hx lL
    refine Ok.eq (.bindE last1 (.bindE (dgetR_ok hx) (.bind (Q := fun b => b = (dhas E a && !decide (a ∈ L ++ [x]))) (.ite (fun c => .bindE last1 (.bindE (dgetR_ok hx) (.ret (by rw [c]; rfl)))) fun c => .ret ?_) fun b hb => .ret hb)))
    have c : dhas E a = false := by simpa using c
    rw [c]; rfl
  · intro L x a hx lL
    exact Ok.eq (.bindE last1 (.bindE (dgetR_ok hx) (.need (line9 (by rw [List.length_append]; show L.length + 1 ≤ 900; omega)) (.ret rfl))))
  · intro L a
    show (dhas D a && !dhas (L.map fun x => (x, true)) a) = _
    rw [has_perm p]
    congr 2
    rw [Bool.eq_iff_iff, dhas_iff, decide_eq_true_eq, List.map_map]
    simp
  · intro L a b ne lL hb
    refine Ok.eq ?_
    refine .need (line9 (by rw [List.length_map]; omega)) (.bindE (dgetR_ok (v := b) (by rw [g]; exact hb)) (.ret ?_))
    rw [put_new ne]
theorem due_eq (D : Rw) (n : Str) : (D.filterMap fun r => if r.2 = n then some r.1 else none) = (fa D n).map (·.1) := by
  rw [fa_keys]
  induction D with
  | nil => rfl
  | cons r D ih =>
    by_cases c : r.2 = n
    · rw [fm_y (f := fun r : Str × Str => if r.2 = n then some r.1 else none) (b := r.1) (if_pos c), List.filter_cons_of_pos (by simp [c]), ih]; rfl
    · rw [fm_n (f := fun r : Str × Str => if r.2 = n then some r.1 else none) (if_neg c), List.filter_cons_of_neg (by simp [c]), ih]
theorem thread_is {D E : Rw} {T : Threads} (h : TH D T) (p : D.Perm E) (lim : D.length ≤ 64) {n : Str} (hn : dhas D n = true) : Ok (m_Threads_thread T n) fun l => IsThr E n l := by
  obtain ⟨a, ha⟩ := dhas_get hn
  obtain ⟨i, hi, _⟩ := h.pw.s1 _ (dget_mem ha)
  have hi : dget T.pile_of n = some i := hi
  obtain ⟨l, hl, hm⟩ := h.pw.p2 n i hi
  obtain ⟨o1, o2, _, _⟩ := h.pw.p3 i l hl
  have ll := h.pw.plen hl
  have ll : l.length ≤ 128 := by
    have : ([] : List Str).length = 0 := rfl
    omega
  unfold m_Threads_thread
  refine .bindE (tsure_ok h hn) (.bindE (dgetR_ok hi) (.bindE (dgetR_ok hl) (.need (le_line (by omega)) ?_)))
  refine .compF (fun x => if dhas D x = true then some x else none) (fun x _ => by rw [h.go]; exact .ite (fun c => .ret (by rw [if_pos c])) fun c => .ret (by rw [if_neg c])) ?_
  dsimp only
  rw [fm_filter (fun x => dhas D x) l]
  have lf : (l.filter fun x => dhas D x).length ≤ l.length := List.length_filter_le ..
  refine .need (le_line (by omega)) (.ret ⟨sortT_up _, (sortT_perm _).nodup_iff.mpr (o1.filter _), fun x => ?_⟩)
  rw [(sortT_perm _).mem_iff, List.mem_filter, has_perm p, ← Conn.congr fun r => p.mem_iff]
  constructor
  · rintro ⟨q1, q2⟩
    exact ⟨q2, h.pw.s2 n x i hi (o2 x q1)⟩
  · rintro ⟨q1, q2⟩
    obtain ⟨l2, hl2, hx⟩ := h.pw.p2 x i (pile_conn h.pw q2 hi)
    rw [hl] at hl2; cases hl2
    exact ⟨hx, q1⟩
/-- the thread of a name -/
noncomputable def thrC (E : Rw) (n : Str) : List Str := sortT ((E.map (·.1)).filter fun x => @decide (Conn E n x) (Classical.propDecidable _))
theorem thrC_is {E : Rw} (nd : (E.map (·.1)).Nodup) (n : Str) : IsThr E n (thrC E n) := by
  refine ⟨sortT_up _, (sortT_perm _).nodup_iff.mpr (nd.filter _), fun x => ?_⟩
  unfold thrC
  rw [(sortT_perm _).mem_iff, List.mem_filter, ← dhas_iff]
  exact ⟨fun ⟨a, b⟩ => ⟨a, by simpa using b⟩, fun ⟨a, b⟩ => ⟨a, by simpa using b⟩⟩
theorem thread_eq {D E : Rw} {T : Threads} (h : TH D T) (p : D.Perm E) (few : E.length ≤ 64) {n : Str} (hn : dhas E n = true) : m_Threads_thread T n = .ok (thrC E n) := by
  have l := p.length_eq
  obtain ⟨m, e, k⟩ := thread_is h p (by omega) (n := n) (by rw [has_perm p]; exact hn)
  rw [e, k.one (thrC_is ((p.map _).nodup_iff.mp h.nd) n)]
theorem thr_same {E : Rw} (nd : (E.map (·.1)).Nodup) {x y : Str} (c : Conn E x y) : thrC E x = thrC E y := by
  refine IsThr.one (thrC_is nd x) ⟨(thrC_is nd y).up, (thrC_is nd y).nd, fun z => ?_⟩
  rw [(thrC_is nd y).mem]
  exact ⟨fun ⟨a, b⟩ => ⟨a, c.trans b⟩, fun ⟨a, b⟩ => ⟨a, c.symm.trans b⟩⟩
theorem thr_self {E : Rw} (nd : (E.map (·.1)).Nodup) {x : Str} (hx : dhas E x = true) : x ∈ thrC E x := ((thrC_is nd x).mem x).mpr ⟨hx, .refl _⟩
theorem thr_eq {E : Rw} (nd : (E.map (·.1)).Nodup) {x y : Str} (hx : dhas E x = true) (e : thrC E y = thrC E x) : Conn E y x := by
  have := thr_self nd hx
  rw [← e] at this
  exact (((thrC_is nd y).mem x).mp this).2
noncomputable def thsC (E : Rw) : List (List Str) := thsOf (thrC E) (sortT (E.map (·.1))) []
theorem threads_eq {D E : Rw} {T : Threads} (h : TH D T) (p : D.Perm E) (few : E.length ≤ 64) : m_Threads_threads T = .ok (thsC E) := by
  have nd : (E.map (·.1)).Nodup := (p.map _).nodup_iff.mp h.nd
  have lD := p.length_eq
  have sp := sortT_perm (E.map (·.1))
  have lS : (sortT (E.map (·.1))).length ≤ 64 := by rw [sp.length_eq, List.length_map]; exact few
  have mem : ∀ x, x ∈ sortT (E.map (·.1)) → dhas E x = true := fun x hx => dhas_iff.mpr (sp.mem_iff.mp hx)
  have eS : sortT (D.map (·.1)) = sortT (E.map (·.1)) := sortT_congr (p.map _)
  unfold thsC
  refine Ok.eq ?_
  unfold m_Threads_threads
  rw [h.go]
  refine .need (le_line (by omega)) ?_
  rw [eS]
  generalize sortT (E.map (·.1)) = S at *
  have pile : ∀ x, dhas E x = true → ∃ i, dget T.pile_of x = some i := fun x hx => by
    obtain ⟨a, ha⟩ := dhas_get (by rw [has_perm p]; exact hx : dhas D x = true)
    obtain ⟨i, hi, _⟩ := h.pw.s1 _ (dget_mem ha)
    exact ⟨i, hi⟩
  refine .forFI (fun q (s : List (List Str) × List (Int × Bool)) => s.1 = thsOf (thrC E) q [] ∧ s.2.length ≤ q.length ∧ ∀ j, dhas s.2 j = true ↔ ∃ x, x ∈ q ∧ dget T.pile_of x = some j) ⟨rfl, Nat.le_refl _, fun j => ⟨(fun z => by cases z), fun ⟨x, hx, _⟩ => nomatch hx⟩⟩ ?_ ?_
  · rintro q x r ⟨L, t⟩ ep ⟨h1, h2, h3⟩
    have hp := pre_lt ep
    have hxS : x ∈ S := by rw [ep]; simp
    have hx := mem x hxS
    obtain ⟨i, hi⟩ := pile x hx
    dsimp only at h1 h2 h3 ⊢
    have key : dhas t i = true ↔ thrC E x ∈ thsOf (thrC E) q [] := by
      rw [h3, thsOf_mem]
      constructor
      · rintro ⟨y, hy, gy⟩
        exact .inr ⟨y, hy, thr_same nd ((Conn.congr fun r => p.mem_iff).mp (h.pw.s2 y x i gy hi))⟩
      · rintro (z | ⟨y, hy, e⟩)
        · exact nomatch z
        · have hyE := mem y (by rw [ep]; simp [hy])
          have c := thr_eq nd hx e
          obtain ⟨j, hj⟩ := pile y hyE
          have := pile_conn h.pw ((Conn.congr fun r => p.mem_iff).mpr c) hj
          rw [hi] at this
          exact ⟨y, hy, by rw [hj, this]⟩
    refine .bindE (dgetR_ok hi) ?_
    by_cases c : dhas t i = true
    · refine .ifT c (.ret ⟨_, rfl, ?_, by dsimp only; rw [List.length_append]; omega, fun j => ?_⟩)
      · dsimp only
        rw [h1, thsOf_snoc, if_pos (key.mp c)]
      · dsimp only
        rw [h3]
        constructor
        · rintro ⟨y, hy, e⟩
          exact ⟨y, by simp [hy], e⟩
        · rintro ⟨y, hy, e⟩
          rcases List.mem_append.mp hy with z | z
          · exact ⟨y, z, e⟩
          · rw [List.mem_singleton.mp z, hi] at e
            cases e
            exact (h3 i).mp c
    · refine .ifF c (.bindE (dgetR_ok hi) (.need (line9 (by omega)) (.bindE (thread_eq h p few hx) ?_)))
      have ll := thsOf_len (thrC E) q []
      have ll : L.length ≤ 64 := by
        have : ([] : List (List Str)).length = 0 := rfl
        rw [h1]; omega
      have hno : dhas t i = false := by simpa using c
      refine .need (line9 (by omega)) (.ret ⟨_, rfl, ?_, by dsimp only; rw [dput_new hno, List.length_append, List.length_append]; exact Nat.add_le_add_right h2 1, fun j => ?_⟩)
      · dsimp only
        rw [h1, thsOf_snoc, if_neg (fun z => c (key.mpr z))]
      · dsimp only
        rw [dhas_iff, mem_kput, ← dhas_iff, h3]
        constructor
        · rintro (e | ⟨y, hy, e⟩)
          · exact ⟨x, by simp, by rw [e]; exact hi⟩
          · exact ⟨y, by simp [hy], e⟩
        · rintro ⟨y, hy, e⟩
          rcases List.mem_append.mp hy with z | z
          · exact .inr ⟨y, z, e⟩
          · rw [List.mem_singleton.mp z, hi] at e
            cases e
            exact .inl rfl
  · rintro ⟨L, t⟩ ⟨h1, _, _⟩
    exact .ret h1
theorem answers_eq {D E : Rw} {T : Threads} (h : TH D T) (p : D.Perm E) (few : D.length ≤ 64) (n : Str) : m_Threads_answers_to T n = .ok (sortT ((fa E n).map (·.1))) := by
  have lf := fa_len D n
  unfold m_Threads_answers_to
  rw [cget h, R.need_pos (le_line (by omega))]
  refine congrArg R.ok (sortT_congr ?_)
  rw [fa_keys, fa_keys]
  exact (p.filter _).map _
theorem ltLS {x y : Str} (xs ys : List Str) (ne : x ≠ y) : PySem.W.dataLe false pdLS (x :: xs) (y :: ys) = leT x y := by
  show (!PySem.W.dataLt (.list ((y :: ys).map PyData.str)) (.list ((x :: xs).map PyData.str))) = !decide (y.cps.toList < x.cps.toList)
  rw [PySem.W.dataLt_list, List.map_cons, List.map_cons, PySem.W.dataLt_cons (by simp [PySem.W.alike]), if_neg (by simp only [PyData.eqv, beq_iff_eq]; exact fun e => ne e.symm), PySem.W.dataLt_str]
theorem head_thr {E : Rw} (nd : (E.map (·.1)).Nodup) {p q : List Str} {x : Str} (es : sortT (E.map (·.1)) = p ++ x :: q) (no : ¬ thrC E x ∈ thsOf (thrC E) p []) : ∃ r, thrC E x = x :: r := by
  have up := sortT_up (E.map (·.1))
  have ndS := (sortT_perm (E.map (·.1))).nodup_iff.mpr nd
  have inS : ∀ z, z ∈ sortT (E.map (·.1)) ↔ dhas E z = true := fun z => by rw [dhas_iff]; exact (sortT_perm _).mem_iff
  have hx : dhas E x = true := (inS x).mp (by rw [es]; simp)
  have self := thr_self nd hx
  cases e : thrC E x with
  | nil => rw [e] at self; cases self
  | cons h r =>
    have hh : h ∈ thrC E x := by rw [e]; simp
    obtain ⟨h1, h2⟩ := ((thrC_is nd x).mem h).mp hh
    have u := (thrC_is nd x).up
    rw [e] at u self
    have le : h = x ∨ leT h x = true := by
      rcases List.mem_cons.mp self with z | z
      · exact .inl z.symm
      · exact .inr ((List.pairwise_cons.mp u).1 x z)
    by_cases c : h = x
    · exact ⟨r, by rw [c]⟩
    · exfalso
      have le : leT h x = true := le.resolve_left c
      have m := (inS h).mpr h1
      rw [es] at m up
      rcases List.mem_append.mp m with z | z
      · exact no ((thsOf_mem _ _ _ _).mpr (.inr ⟨h, z, (thr_same nd h2).symm⟩))
      · rcases List.mem_cons.mp z with z | z
        · exact c z
        · exact c (leT_anti le ((List.pairwise_cons.mp (List.pairwise_append.mp up).2.1).1 h z))
theorem snoc_ind {α : Type} {P : List α → Prop} (h0 : P []) (hs : ∀ p x, P p → P (p ++ [x])) (p : List α) : P p := by
  have : ∀ r : List α, P r.reverse := fun r => by
    induction r with
    | nil => exact h0
    | cons x r ih => rw [List.reverse_cons]; exact hs _ _ ih
  have q := this p.reverse
  rwa [List.reverse_reverse] at q
def Hd2 (a b : List Str) : Prop := ∃ x y xs ys, a = x :: xs ∧ b = y :: ys ∧ x ≠ y ∧ leT x y = true
theorem ths_up {E : Rw} (nd : (E.map (·.1)).Nodup) : ∀ (p q : List Str), sortT (E.map (·.1)) = p ++ q → (thsOf (thrC E) p []).Pairwise Hd2 ∧ ∀ l, l ∈ thsOf (thrC E) p [] → ∃ x, x ∈ p ∧ ∃ xs, l = x :: xs := by
  have up := sortT_up (E.map (·.1))
  have ndS := (sortT_perm (E.map (·.1))).nodup_iff.mpr nd
  refine snoc_ind (fun q _ => ⟨List.Pairwise.nil, fun l hl => by cases hl⟩) fun p x ih => ?_
  · intro q es
    obtain ⟨i1, i2⟩ := ih (x :: q) (by rw [es]; simp)
    rw [thsOf_snoc]
    by_cases c : thrC E x ∈ thsOf (thrC E) p []
    · rw [if_pos c]
      exact ⟨i1, fun l hl => by
        obtain ⟨y, hy, z⟩ := i2 l hl
        exact ⟨y, by simp [hy], z⟩⟩
    · rw [if_neg c]
      have es2 : sortT (E.map (·.1)) = p ++ x :: q := by rw [es]; simp
      obtain ⟨r, er⟩ := head_thr nd es2 c
      rw [es2] at up ndS
      refine ⟨List.pairwise_append.mpr ⟨i1, List.pairwise_singleton .., fun a ha b hb => ?_⟩, fun l hl => ?_⟩
      · obtain ⟨y, hy, ys, ey⟩ := i2 a ha
        rw [List.mem_singleton.mp hb, er]
        exact ⟨y, x, ys, r, ey, rfl, fun e => (List.nodup_append.mp ndS).2.2 y hy x (by simp) e, (List.pairwise_append.mp up).2.2 y hy x (by simp)⟩
      · rcases List.mem_append.mp hl with z | z
        · obtain ⟨y, hy, z⟩ := i2 l z
          exact ⟨y, by simp [hy], z⟩
        · rw [List.mem_singleton.mp z]; exact ⟨x, by simp, r, er⟩
theorem ths_mem {E : Rw} (l : List Str) : l ∈ thsC E ↔ ∃ x, dhas E x = true ∧ thrC E x = l := by
  unfold thsC
  rw [thsOf_mem]
  constructor
  · rintro (z | ⟨x, hx, e⟩)
    · exact nomatch z
    · exact ⟨x, dhas_iff.mpr ((sortT_perm _).mem_iff.mp hx), e⟩
  · rintro ⟨x, hx, e⟩
    exact .inr ⟨x, (sortT_perm _).mem_iff.mpr (dhas_iff.mp hx), e⟩
theorem ths_nodup {E : Rw} (nd : (E.map (·.1)).Nodup) : (thsC E).Nodup := by
  refine (ths_up nd _ [] (by rw [List.append_nil])).1.imp fun {a b} h e => ?_
  obtain ⟨x, y, xs, ys, ea, eb, ne, _⟩ := h
  rw [ea, eb] at e
  injection e with e _
  exact ne e
/-- the lists that have just the threads, in order: the threads by their first names -/
theorem sort_ths {E : Rw} (nd : (E.map (·.1)).Nodup) {t : List (List Str)} (nt : t.Nodup) (m : ∀ l, l ∈ t ↔ ∃ x, dhas E x = true ∧ thrC E x = l) : sortLS t = thsC E := by
  have pm : (sortLS t).Perm (thsC E) := (sortLS_perm t).trans ((List.perm_ext_iff_of_nodup nt (ths_nodup nd)).mpr fun l => by rw [m, ths_mem])
  have hd : ∀ l, l ∈ thsC E → ∃ x, dhas E x = true ∧ thrC E x = l ∧ ∃ xs, l = x :: xs := fun l hl => by
    obtain ⟨x, hx, xs, e⟩ := (ths_up nd _ [] (by rw [List.append_nil])).2 l hl
    have dx : dhas E x = true := dhas_iff.mpr ((sortT_perm _).mem_iff.mp hx)
    obtain ⟨y, dy, ey⟩ := (ths_mem l).mp hl
    have : x ∈ thrC E y := by rw [ey, e]; simp
    exact ⟨x, dx, by rw [← ey]; exact (thr_same nd (((thrC_is nd y).mem x).mp this).2).symm, xs, e⟩
  refine List.Perm.eq_of_pairwise (le := fun a b => PySem.W.dataLe false pdLS a b = true) (fun a b ha hb h1 h2 => ?_) (PySem.W.sort_pairwise (le := PySem.W.dataLe false pdLS) (PySem.W.sortLe_total _ _ _) t) ?_ pm
  · have ma := (ths_mem a).mpr ((m a).mp ((sortLS_perm t).mem_iff.mp ha))
    obtain ⟨x, _, ex, xs, ea⟩ := hd a ma
    obtain ⟨y, _, ey, ys, eb⟩ := hd b hb
    by_cases c : x = y
    · rw [← ex, ← ey, c]
    · rw [ea, eb, ltLS _ _ c] at h1
      rw [ea, eb, ltLS _ _ (fun e => c e.symm)] at h2
      exact absurd (leT_anti h1 h2) c
  · refine (ths_up nd _ [] (by rw [List.append_nil])).1.imp fun {a b} h => ?_
    obtain ⟨x, y, xs, ys, ea, eb, ne, le⟩ := h
    rw [ea, eb, ltLS _ _ ne]; exact le
abbrev Gp := List (List Str)
def gN (g : Gp) : List Str := g.getD 0 []
def gK (g : Gp) : List Str := g.getD 1 []
def keysOf (r : Str × Str) : List Str := [r.1] ++ (if r.2 = ("" : Str) then [] else [r.2])
theorem keysOf_mem {r : Str × Str} {k : Str} : k ∈ keysOf r ↔ k = r.1 ∨ (k = r.2 ∧ r.2 ≠ ("" : Str)) := by
  unfold keysOf
  rw [List.mem_append, List.mem_singleton]
  by_cases c : r.2 = ("" : Str)
  · rw [if_pos c]
    exact ⟨fun h => h.elim .inl (fun z => by cases z), fun h => h.elim .inl fun z => absurd c z.2⟩
  · rw [if_neg c, List.mem_singleton]
    exact ⟨fun h => h.imp id fun z => ⟨z, c⟩, fun h => h.imp id fun z => z.1⟩
structure JG (p : Rw) (gs : List Gp) : Prop where
  shp : ∀ g, g ∈ gs → g = [gN g, gK g] ∧ gN g ≠ []
  part : (gs.flatMap gN).Perm (p.map (·.1))
  keys : ∀ g, g ∈ gs → ∀ k, k ∈ gK g ↔ ∃ r, r ∈ p ∧ r.1 ∈ gN g ∧ (k = r.1 ∨ (k = r.2 ∧ r.2 ≠ ("" : Str)))
  dis : gs.Pairwise fun g h => ∀ k, k ∈ gK g → ¬ k ∈ gK h
  con : ∀ g, g ∈ gs → ∀ a b, a ∈ gN g → b ∈ gN g → Conn p a b
  kl : (gs.flatMap gK).length ≤ 2 * p.length
theorem JG.nil : JG [] [] := ⟨(fun g h => nomatch h), List.Perm.refl _, (fun g h => nomatch h), List.Pairwise.nil, (fun g h => nomatch h), Nat.zero_le _⟩
theorem JG.name {p : Rw} {gs : List Gp} (j : JG p gs) {x : Str} : x ∈ p.map (·.1) ↔ ∃ g, g ∈ gs ∧ x ∈ gN g := by
  rw [← j.part.mem_iff, List.mem_flatMap]
theorem JG.key {p : Rw} {gs : List Gp} (j : JG p gs) {g : Gp} (hg : g ∈ gs) {x : Str} (hx : x ∈ gN g) : x ∈ gK g := by
  obtain ⟨r, hr, e⟩ := List.mem_map.mp (j.name.mpr ⟨g, hg, hx⟩)
  exact (j.keys g hg x).mpr ⟨r, hr, by rw [e]; exact hx, .inl e.symm⟩
theorem JG.one {p : Rw} {gs : List Gp} (j : JG p gs) {g h : Gp} (hg : g ∈ gs) (hh : h ∈ gs) {k : Str} (kg : k ∈ gK g) (kh : k ∈ gK h) : g = h := by
  obtain ⟨a, ha⟩ := List.getElem?_of_mem hg
  obtain ⟨b, hb⟩ := List.getElem?_of_mem hh
  obtain ⟨la, rfl⟩ := List.getElem?_eq_some_iff.mp ha
  obtain ⟨lb, rfl⟩ := List.getElem?_eq_some_iff.mp hb
  have d := List.pairwise_iff_getElem.mp j.dis
  rcases Nat.lt_trichotomy a b with z | z | z
  · exact absurd kh (d a b la lb z k kg)
  · subst z; rfl
  · exact absurd kg (d b a lb la z k kh)
def nearB (r : Str × Str) (g : Gp) : Bool := (keysOf r).any fun k => decide (k ∈ gK g)
theorem nearB_iff {r : Str × Str} {g : Gp} : nearB r g = true ↔ ∃ k, k ∈ keysOf r ∧ k ∈ gK g := by
  unfold nearB
  rw [List.any_eq_true]
  exact ⟨fun ⟨k, a, b⟩ => ⟨k, a, of_decide_eq_true b⟩, fun ⟨k, a, b⟩ => ⟨k, a, decide_eq_true b⟩⟩
def joinG (r : Str × Str) (gs : List Gp) : Gp := [[r.1] ++ (gs.filter (nearB r)).flatMap gN, keysOf r ++ (gs.filter (nearB r)).flatMap gK]
def stepG (r : Str × Str) (gs : List Gp) : List Gp := (gs.filter fun g => !nearB r g) ++ [joinG r gs]
theorem filter_two {α : Type} (f : α → Bool) (xs : List α) : (xs.filter f ++ xs.filter fun x => !f x).Perm xs := List.filter_append_perm f xs
theorem JG.step {p : Rw} {gs : List Gp} (j : JG p gs) {r : Str × Str} (hr : ¬ r.1 ∈ p.map (·.1)) : JG (p ++ [r]) (stepG r gs) := by
  have far : ∀ g, g ∈ gs.filter (fun g => !nearB r g) ↔ g ∈ gs ∧ ∀ k, k ∈ keysOf r → ¬ k ∈ gK g := fun g => by
    rw [List.mem_filter, Bool.not_eq_true', Bool.eq_false_iff]
    exact and_congr Iff.rfl ⟨fun h k a b => h (nearB_iff.mpr ⟨k, a, b⟩), fun h q => by obtain ⟨k, a, b⟩ := nearB_iff.mp q; exact h k a b⟩
  have near : ∀ g, g ∈ gs.filter (nearB r) ↔ g ∈ gs ∧ ∃ k, k ∈ keysOf r ∧ k ∈ gK g := fun g => by rw [List.mem_filter, nearB_iff]
  have nm : ∀ g, g ∈ gs → ∀ x, x ∈ gN g → x ≠ r.1 := fun g hg x hx e => hr (by rw [← e]; exact j.name.mpr ⟨g, hg, hx⟩)
  have oN : gN (joinG r gs) = [r.1] ++ (gs.filter (nearB r)).flatMap gN := rfl
  have oK : gK (joinG r gs) = keysOf r ++ (gs.filter (nearB r)).flatMap gK := rfl
  have mono : ∀ {x y}, Conn p x y → Conn (p ++ [r]) x y := fun c => c.mono fun z hz => List.mem_append_left _ hz
  have p2 := filter_two (nearB r) gs
  have mem : ∀ g, g ∈ stepG r gs → g ∈ gs.filter (fun g => !nearB r g) ∨ g = joinG r gs := fun g hg => by
    rcases List.mem_append.mp hg with q | q
    · exact .inl q
    · exact .inr (List.mem_singleton.mp q)
  refine ⟨fun g hg => ?_, ?_, fun g hg k => ?_, ?_, fun g hg a b ha hb => ?_, ?_⟩
  · rcases mem g hg with q | rfl
    · exact j.shp g ((far g).mp q).1
    · exact ⟨rfl, by rw [oN]; simp⟩
  · unfold stepG
    rw [List.flatMap_append, List.map_append]
    have e1 : ([joinG r gs].flatMap gN) = [r.1] ++ (gs.filter (nearB r)).flatMap gN := by rw [List.flatMap_cons, oN]; simp
    rw [e1]
    have q1 : ((gs.filter (nearB r)).flatMap gN ++ (gs.filter fun g => !nearB r g).flatMap gN).Perm (p.map (·.1)) := by
      rw [← List.flatMap_append]
      exact (p2.flatMap_right gN).trans j.part
    refine List.Perm.trans ?_ (List.Perm.append_right [r.1] q1)
    refine (List.perm_append_comm).trans ?_
    rw [List.append_assoc]
    exact List.perm_append_comm
  · rcases mem g hg with q | rfl
    · have hg := ((far g).mp q).1
      rw [j.keys g hg]
      constructor
      · rintro ⟨s, hs, a, b⟩
        exact ⟨s, List.mem_append_left _ hs, a, b⟩
      · rintro ⟨s, hs, a, b⟩
        rcases List.mem_append.mp hs with z | z
        · exact ⟨s, z, a, b⟩
        · rw [List.mem_singleton.mp z] at a
          exact absurd rfl (nm g hg _ a)
    · rw [oK, oN, List.mem_append, keysOf_mem, List.mem_flatMap]
      constructor
      · rintro (q | ⟨g, hg, q⟩)
        · exact ⟨r, by simp, by simp, q⟩
        · obtain ⟨s, hs, a, b⟩ := (j.keys g ((near g).mp hg).1 k).mp q
          exact ⟨s, List.mem_append_left _ hs, List.mem_append_right _ (List.mem_flatMap.mpr ⟨g, hg, a⟩), b⟩
      · rintro ⟨s, hs, a, b⟩
        rcases List.mem_append.mp hs with z | z
        · rcases List.mem_append.mp a with w | w
          · exact absurd (by rw [← List.mem_singleton.mp w]; exact List.mem_map.mpr ⟨s, z, rfl⟩) hr
          · obtain ⟨g, hg, w⟩ := List.mem_flatMap.mp w
            exact .inr ⟨g, hg, (j.keys g ((near g).mp hg).1 k).mpr ⟨s, z, w, b⟩⟩
        · rw [List.mem_singleton.mp z] at b
          exact .inl b
  · unfold stepG
    refine List.pairwise_append.mpr ⟨j.dis.sublist (List.filter_sublist ..), List.pairwise_singleton .., fun g hg h hh k kg kh => ?_⟩
    rw [List.mem_singleton.mp hh, oK] at kh
    obtain ⟨g1, g2⟩ := (far g).mp hg
    rcases List.mem_append.mp kh with q | q
    · exact g2 k q kg
    · obtain ⟨g', hg', q⟩ := List.mem_flatMap.mp q
      obtain ⟨g1', k', a, b⟩ := (near g').mp hg'
      have e := j.one g1 g1' kg q
      subst e
      exact g2 k' a b
  · rcases mem g hg with q | rfl
    · exact mono (j.con g ((far g).mp q).1 a b ha hb)
    · have key : ∀ a, a ∈ gN (joinG r gs) → Conn (p ++ [r]) a r.1 := fun a ha => by
        rw [oN] at ha
        rcases List.mem_append.mp ha with q | q
        · rw [List.mem_singleton.mp q]; exact .refl _
        · obtain ⟨g, hg, q⟩ := List.mem_flatMap.mp q
          obtain ⟨g1, k, k1, k2⟩ := (near g).mp hg
          obtain ⟨s, hs, s1, s2⟩ := (j.keys g g1 k).mp k2
          have c1 : Conn (p ++ [r]) a s.1 := mono (j.con g g1 a s.1 q s1)
          have c2 : Conn (p ++ [r]) s.1 k := by
            rcases s2 with e | ⟨e, ne⟩
            · rw [e]; exact .refl _
            · exact .step (.refl _) ⟨s, List.mem_append_left _ hs, ne, .inl ⟨rfl, e⟩⟩
          have c3 : Conn (p ++ [r]) k r.1 := by
            rcases keysOf_mem.mp k1 with e | ⟨e, ne⟩
            · rw [e]; exact .refl _
            · exact .step (.refl _) ⟨r, by simp, ne, .inr ⟨e, rfl⟩⟩
          exact (c1.trans c2).trans c3
      exact (key a ha).trans (key b hb).symm
  · unfold stepG
    rw [List.flatMap_append, List.length_append]
    have e1 : ([joinG r gs].flatMap gK).length = (keysOf r).length + ((gs.filter (nearB r)).flatMap gK).length := by rw [List.flatMap_cons, oK]; simp
    have e2 := (p2.flatMap_right gK).length_eq
    rw [List.flatMap_append, List.length_append] at e2
    have e3 : (keysOf r).length ≤ 2 := by
      unfold keysOf
      rw [List.length_append]
      by_cases c : r.2 = ("" : Str)
      · rw [if_pos c]; simp
      · rw [if_neg c]; simp
    have := j.kl
    rw [e1, List.length_append, List.length_singleton]
    omega
theorem JG.closed {p : Rw} {gs : List Gp} (j : JG p gs) {g : Gp} (hg : g ∈ gs) {a b : Str} (c : Conn p a b) (ha : a ∈ gK g) : b ∈ gK g := by
  induction c with
  | refl => exact ha
  | @step u v _ e ih =>
    obtain ⟨r, hr, ne, w⟩ := e
    obtain ⟨h, hh, q⟩ := j.name.mp (List.mem_map.mpr ⟨r, hr, rfl⟩)
    have k1 : r.1 ∈ gK h := j.key hh q
    have k2 : r.2 ∈ gK h := (j.keys h hh _).mpr ⟨r, hr, q, .inr ⟨rfl, ne⟩⟩
    rcases w with ⟨e1, e2⟩ | ⟨e1, e2⟩
    · rw [e1] at ih
      rw [j.one hg hh ih k1, e2]; exact k2
    · rw [e1] at ih
      rw [j.one hg hh ih k2, e2]; exact k1
theorem JG.thr {p : Rw} {gs : List Gp} (j : JG p gs) (nd : (p.map (·.1)).Nodup) {g : Gp} (hg : g ∈ gs) {x : Str} (hx : x ∈ gN g) : sortT (gN g) = thrC p x := by
  refine IsThr.one (D := p) (n := x) ⟨sortT_up _, (sortT_perm _).nodup_iff.mpr ?_, fun z => ?_⟩ (thrC_is nd x)
  · have q := j.part.nodup_iff.mpr nd
    exact (List.pairwise_flatMap.mp q).1 g hg
  · rw [(sortT_perm _).mem_iff]
    constructor
    · intro hz
      exact ⟨dhas_iff.mpr (j.name.mpr ⟨g, hg, hz⟩), j.con g hg x z hx hz⟩
    · rintro ⟨h1, h2⟩
      obtain ⟨h, hh, q⟩ := j.name.mp (dhas_iff.mp h1)
      have := j.closed hg h2 (j.key hg hx)
      rw [j.one hg hh this (j.key hh q)]; exact q
theorem JG.out {p : Rw} {gs : List Gp} (j : JG p gs) (nd : (p.map (·.1)).Nodup) : sortLS (gs.map fun g => sortT (gN g)) = thsC p := by
  refine sort_ths nd ?_ fun l => ?_
  · refine List.pairwise_map.mpr (List.Pairwise.imp_of_mem (fun {g h} hg hh d e => ?_) j.dis)
    obtain ⟨x, hx⟩ := List.exists_mem_of_ne_nil _ (j.shp g hg).2
    have : x ∈ sortT (gN h) := by rw [← e]; exact (sortT_perm _).mem_iff.mpr hx
    exact d x (j.key hg hx) (j.key hh ((sortT_perm _).mem_iff.mp this))
  · rw [List.mem_map]
    constructor
    · rintro ⟨g, hg, rfl⟩
      obtain ⟨x, hx⟩ := List.exists_mem_of_ne_nil _ (j.shp g hg).2
      exact ⟨x, dhas_iff.mpr (j.name.mpr ⟨g, hg, hx⟩), (j.thr nd hg hx).symm⟩
    · rintro ⟨x, hx, rfl⟩
      obtain ⟨g, hg, q⟩ := j.name.mp (dhas_iff.mp hx)
      exact ⟨g, hg, j.thr nd hg q⟩
structure W23 (E : Rw) : Prop where
  nd : (E.map (·.1)).Nodup
  asc : ∀ r, r ∈ E → Asc r.1 ∧ Asc r.2
  few : E.length ≤ 64
theorem JG.lens {p : Rw} {gs : List Gp} (j : JG p gs) : gs.length ≤ p.length ∧ (∀ g, g ∈ gs → (gN g).length ≤ p.length) ∧ ∀ g, g ∈ gs → (gK g).length ≤ 2 * p.length := by
  have part := j.part.length_eq
  rw [List.length_map] at part
  have mem_le : ∀ {f : Gp → List Str} {gs : List Gp} {g : Gp}, g ∈ gs → (f g).length ≤ (gs.flatMap f).length := fun {f gs g} hg => by
    induction gs with
    | nil => cases hg
    | cons h t ih =>
      rw [List.flatMap_cons, List.length_append]
      rcases List.mem_cons.mp hg with rfl | q
      · omega
      · have := ih q; omega
  refine ⟨?_, fun g hg => ?_, fun g hg => ?_⟩
  · rw [← part]
    have h : ∀ gs : List Gp, (∀ g, g ∈ gs → gN g ≠ []) → gs.length ≤ (gs.flatMap gN).length := fun gs => by
      induction gs with
      | nil => intro _; exact Nat.le_refl _
      | cons g t ih =>
        intro h
        have := ih fun x hx => h x (by simp [hx])
        have := List.length_pos_iff.mpr (h g (by simp))
        rw [List.flatMap_cons, List.length_append, List.length_cons]
        omega
    exact h gs fun g hg => (j.shp g hg).2
  · rw [← part]; exact mem_le hg
  · exact Nat.le_trans (mem_le hg) j.kl
theorem JG.asc {p : Rw} {gs : List Gp} (j : JG p gs) (h : ∀ r, r ∈ p → Asc r.1 ∧ Asc r.2) {g : Gp} (hg : g ∈ gs) : (∀ x, x ∈ gN g → Asc x) ∧ ∀ x, x ∈ gK g → Asc x := by
  refine ⟨fun x hx => ?_, fun x hx => ?_⟩
  · obtain ⟨r, hr, e⟩ := List.mem_map.mp (j.name.mpr ⟨g, hg, hx⟩)
    rw [← e]; exact (h r hr).1
  · obtain ⟨r, hr, _, e | ⟨e, _⟩⟩ := (j.keys g hg x).mp hx
    · rw [e]; exact (h r hr).1
    · rw [e]; exact (h r hr).2
theorem g_lay {g : Gp} (e : g = [gN g, gK g]) (h : (∀ x, x ∈ gN g → Asc x) ∧ ∀ x, x ∈ gK g → Asc x) : (Lay.lay (g : List (List Str)) : Bool) = true := by
  rw [e]
  refine List.all_eq_true.mpr fun l hl => ?_
  simp only [List.mem_cons, List.not_mem_nil, or_false] at hl
  rcases hl with rfl | rfl
  · exact strs_lay h.1
  · exact strs_lay h.2
theorem sub_flat {α β : Type} {f : α → List β} {q gs : List α} (h : q.Sublist gs) : (q.flatMap f).length ≤ (gs.flatMap f).length := by
  induction h with
  | slnil => exact Nat.le_refl _
  | cons a _ ih => rw [List.flatMap_cons, List.length_append]; omega
  | cons_cons a _ ih => rw [List.flatMap_cons, List.flatMap_cons, List.length_append, List.length_append]; omega
theorem joined_ok {D : Rw} (w : W23 D) : m_law_joined D = .ok (thsC D) := by
  refine Ok.eq ?_
  unfold m_law_joined
  refine .forI (fun p gs => JG p gs) JG.nil (fun p r q gs ep j => ?_) fun gs j => ?_
  · have few := w.few
    have lp := pre_lt ep
    have nd := w.nd
    rw [ep, List.map_append, List.map_cons] at nd
    have hr : ¬ r.1 ∈ p.map (·.1) := fun c => (List.nodup_append.mp nd).2.2 r.1 c r.1 (by simp) rfl
    have rD : r ∈ D := by rw [ep]; simp
    have pD : ∀ s, s ∈ p → Asc s.1 ∧ Asc s.2 := fun s hs => w.asc s (by rw [ep]; simp [hs])
    obtain ⟨l1, l2, l3⟩ := j.lens
    have hk : (if (!decide (r.2 = ("" : Str))) = true then 1 else 0 : Int).toNat = (if r.2 = ("" : Str) then 0 else 1) := by
      by_cases c : r.2 = ("" : Str)
      · rw [if_pos c, if_neg (by simp [c])]; rfl
      · rw [if_neg c, if_pos (by simp [c])]; rfl
    have h01 : (if (!decide (r.2 = ("" : Str))) = true then 1 else 0 : Int) = 0 ∨ (if (!decide (r.2 = ("" : Str))) = true then 1 else 0 : Int) = 1 := by split <;> simp
    have ek : [r.1] ++ repL [r.2] (if (!decide (r.2 = ("" : Str))) = true then 1 else 0 : Int).toNat = keysOf r := by
      rw [hk]
      unfold keysOf
      by_cases c : r.2 = ("" : Str)
      · rw [if_pos c, if_pos c]; rfl
      · rw [if_neg c, if_neg c]; rfl
    have lk : (keysOf r).length ≤ 2 := by
      unfold keysOf
      rw [List.length_append]
      by_cases c : r.2 = ("" : Str)
      · rw [if_pos c]; simp
      · rw [if_neg c]; simp
    have ak : ∀ x, x ∈ keysOf r → Asc x := fun x hx => by
      rcases keysOf_mem.mp hx with e | ⟨e, _⟩
      · rw [e]; exact (w.asc r rD).1
      · rw [e]; exact (w.asc r rD).2
    have lr : ([r.1]).length + (repL [r.2] (if (!decide (r.2 = ("" : Str))) = true then 1 else 0 : Int).toNat).length ≤ 2 := by
      rw [← List.length_append, ek]; exact lk
    have at0 : ∀ g, g ∈ gs → idxR g 0 = .ok (gN g) := fun g hg => by
      rw [(j.shp g hg).1]; exact idxR_ok (by decide) rfl
    have at1 : ∀ g, g ∈ gs → idxR g 1 = .ok (gK g) := fun g hg => by
      rw [(j.shp g hg).1]; exact idxR_ok (by decide) rfl
    refine .need (by omega) (.need (by show 1 * _ ≤ _; exact le_line (by omega)) (.need (le_line (by omega)) ?_))
    rw [ek]
    refine .lets (.need (le_line (by omega)) (.compF (fun g => if nearB r g = true then some g else none) (fun g hg => ?_) ?_))
    · refine .need (le_line (by omega)) (.compF (fun k => if decide (k ∈ gK g) = true then some k else none) (fun k hk2 => .bindE (at1 g hg) (.ite (fun c => .ret (by rw [if_pos c])) fun c => .ret (by rw [if_neg c]))) ?_)
      dsimp only
      rw [fm_filter (fun k => decide (k ∈ gK g))]
      have iff : (!decide ((keysOf r).filter (fun k => decide (k ∈ gK g)) = [])) = nearB r g := by
        rw [Bool.eq_iff_iff, nearB_iff, Bool.not_eq_true', decide_eq_false_iff_not]
        constructor
        · intro h
          obtain ⟨k, hk⟩ := List.exists_mem_of_ne_nil _ h
          obtain ⟨a, b⟩ := List.mem_filter.mp hk
          exact ⟨k, a, of_decide_eq_true b⟩
        · rintro ⟨k, a, b⟩ e
          have : k ∈ (keysOf r).filter (fun k => decide (k ∈ gK g)) := List.mem_filter.mpr ⟨a, decide_eq_true b⟩
          rw [e] at this
          cases this
      refine .need (strs_lay fun x hx => ak x (List.mem_filter.mp hx).1) (.need rfl ?_)
      rw [iff]
      exact .ite (fun c => .ret (by rw [if_pos c])) fun c => .ret (by rw [if_neg c])
    · dsimp only
      rw [fm_filter (nearB r)]
      have nsub : ∀ g, g ∈ gs.filter (nearB r) → g ∈ gs := fun g hg => (List.mem_filter.mp hg).1
      have sumN : ∀ q : List Gp, q.Sublist gs → (q.flatMap gN).length ≤ p.length := fun q hq => by
        have := sub_flat (f := gN) hq
        have e := j.part.length_eq
        rw [List.length_map] at e
        omega
      have sumK : ∀ q : List Gp, q.Sublist gs → (q.flatMap gK).length ≤ 2 * p.length := fun q hq => by
        have := sub_flat (f := gK) hq
        have := j.kl
        omega
      refine .forI (fun q (s : Gp) => s = [[r.1] ++ q.flatMap gN, keysOf r ++ q.flatMap gK]) (by simp) (fun q g q2 s eq hs => ?_) fun s hs => ?_
      · subst hs
        have hg : g ∈ gs := nsub g (by rw [eq]; simp)
        have qs : (q ++ [g]).Sublist gs := by
          have : (q ++ [g]).Sublist (gs.filter (nearB r)) := by rw [eq, show q ++ g :: q2 = (q ++ [g]) ++ q2 by simp]; exact List.sublist_append_left ..
          exact this.trans (List.filter_sublist ..)
        have b1 := sumN _ qs
        have b2 := sumK _ qs
        have e1 : (q ++ [g]).flatMap gN = q.flatMap gN ++ gN g := by rw [List.flatMap_append]; simp
        have e2 : (q ++ [g]).flatMap gK = q.flatMap gK ++ gK g := by rw [List.flatMap_append]; simp
        rw [e1, List.length_append] at b1
        rw [e2, List.length_append] at b2
        refine .bindE (a := [r.1] ++ q.flatMap gN) (idxR_ok (by decide) rfl) (.bindE (at0 g hg) (.need (le_line (by rw [List.length_append, List.length_singleton]; omega)) (.bindE (a := keysOf r ++ q.flatMap gK) (idxR_ok (by decide) rfl) (.bindE (at1 g hg) (.need (le_line (by rw [List.length_append]; omega)) (.ret ?_))))))
        rw [e1, e2, List.append_assoc, List.append_assoc]
      · have hs : s = joinG r gs := hs
        subst hs
        refine .need (le_line (by omega)) (.compF (fun g => if (!nearB r g) = true then some g else none) (fun g hg => ?_) ?_)
        · have lg := g_lay (j.shp g hg).1 (j.asc pD hg)
          refine .need lg (.need (List.all_eq_true.mpr fun h hh => g_lay (j.shp h (nsub h hh)).1 (j.asc pD (nsub h hh))) ?_)
          have e : memD g (gs.filter (nearB r)) = nearB r g := by
            cases c : nearB r g with
            | true => exact memD_iff.mpr (List.mem_filter.mpr ⟨hg, c⟩)
            | false => exact memD_no fun z => by rw [(List.mem_filter.mp z).2] at c; cases c
          have e : memD (g : List (List Str)) (gs.filter (nearB r)) = nearB r g := e
          rw [e]
          exact .ite (fun c => .ret (by rw [if_pos c])) fun c => .ret (by rw [if_neg c])
        · dsimp only
          rw [fm_filter (fun g => !nearB r g)]
          have lf : (gs.filter fun g => !nearB r g).length ≤ gs.length := List.length_filter_le ..
          exact .need (le_line (by rw [List.length_singleton]; omega)) (.lets (.ret (j.step hr)))
  · have few := w.few
    obtain ⟨l1, l2, l3⟩ := j.lens
    refine .need (le_line (by omega)) (.compM (fun g => sortT (gN g)) (fun g hg => ?_) ?_)
    · have := l2 g hg
      exact .bindE (a := gN g) (by rw [(j.shp g hg).1]; exact idxR_ok (by decide) rfl) (.need (le_line (by omega)) (.ret rfl))
    · refine .need (le_line (by dsimp only; rw [List.length_map]; omega)) (.ret ?_)
      exact j.out w.nd
theorem range_pick {α : Type} (xs : List α) : (List.range xs.length).filterMap (xs[·]?) = xs := by
  induction xs with
  | nil => rfl
  | cons x xs ih =>
    rw [List.length_cons, List.range_succ_eq_map, List.filterMap_cons, List.getElem?_cons_zero, List.filterMap_map]
    show x :: _ = _
    congr 1
theorem pick_perm {α : Type} {xs : List α} {js : List Nat} (h : js.Perm (List.range xs.length)) : (js.filterMap (xs[·]?)).Perm xs := by
  have := h.filterMap (xs[·]?)
  rwa [range_pick] at this
theorem halves {α : Type} (xs : List α) : (stepPick xs none 2 ++ stepPick xs (some 1) 2).Perm xs := by
  unfold stepPick
  rw [← List.filterMap_append]
  refine pick_perm ?_
  generalize xs.length = n
  have e0 : sliceRange (sliceBounds none none (some 2) n).1 (sliceBounds none none (some 2) n).2.1 (sliceBounds none none (some 2) n).2.2 = (List.range ((n + 1) / 2)).map fun k => 2 * k := by
    show sliceRange 0 (n : Int) 2 = _
    unfold sliceRange
    have e : ((if (2 : Int) > 0 then (if (0 : Int) < (n : Int) then ((n : Int) - 0 + 2 - 1) / 2 else 0) else (if (0 : Int) > (n : Int) then (0 - (n : Int) - 2 - 1) / (-2) else 0)) : Int).toNat = (n + 1) / 2 := by
      rw [if_pos (by decide)]
      by_cases c : (0 : Int) < (n : Int)
      · rw [if_pos c]; omega
      · rw [if_neg c]; omega
    show (List.range _).map _ = _
    rw [e]
    exact List.map_congr_left fun k _ => by omega
  have e1 : sliceRange (sliceBounds (some 1) none (some 2) n).1 (sliceBounds (some 1) none (some 2) n).2.1 (sliceBounds (some 1) none (some 2) n).2.2 = (List.range (n / 2)).map fun k => 2 * k + 1 := by
    show sliceRange (max 0 (min 1 (n : Int))) (n : Int) 2 = _
    unfold sliceRange
    have e : ((if (2 : Int) > 0 then (if (max 0 (min 1 (n : Int))) < (n : Int) then ((n : Int) - (max 0 (min 1 (n : Int))) + 2 - 1) / 2 else 0) else (if (max 0 (min 1 (n : Int))) > (n : Int) then ((max 0 (min 1 (n : Int))) - (n : Int) - 2 - 1) / (-2) else 0)) : Int).toNat = n / 2 := by
      rw [if_pos (by decide)]
      by_cases c : (max 0 (min 1 (n : Int))) < (n : Int)
      · rw [if_pos c]; omega
      · rw [if_neg c]; omega
    show (List.range _).map _ = _
    rw [e]
    refine List.map_congr_left fun k hk => ?_
    have := List.mem_range.mp hk
    show (max 0 (min 1 (n : Int)) + 2 * (k : Int)).toNat = _
    omega
  rw [e0, e1]
  refine (List.perm_ext_iff_of_nodup ?_ List.nodup_range).mpr fun j => ?_
  · refine List.nodup_append.mpr ⟨List.pairwise_map.mpr ((List.nodup_range (n := (n + 1) / 2)).imp fun h e => h (by omega)), List.pairwise_map.mpr ((List.nodup_range (n := n / 2)).imp fun h e => h (by omega)), fun a ha b hb e => ?_⟩
    obtain ⟨k, _, rfl⟩ := List.mem_map.mp ha
    obtain ⟨l, _, rfl⟩ := List.mem_map.mp hb
    omega
  · rw [List.mem_append, List.mem_map, List.mem_map, List.mem_range]
    constructor
    · rintro (⟨k, hk, rfl⟩ | ⟨k, hk, rfl⟩)
      · have := List.mem_range.mp hk; omega
      · have := List.mem_range.mp hk; omega
    · intro h
      by_cases c : j % 2 = 0
      · exact .inl ⟨j / 2, List.mem_range.mpr (by omega), by omega⟩
      · exact .inr ⟨j / 2, List.mem_range.mpr (by omega), by omega⟩
theorem order_ok {D : Rw} (l : D.length ≤ 64) (v : Int) : Ok (m_law_order D v) fun o => o.Perm D := by
  unfold m_law_order
  have h := halves D
  have hl := h.length_eq
  rw [List.length_append] at hl
  refine .ite (fun _ => .ret (List.Perm.refl _)) fun _ => .ite (fun _ => .ret (List.reverse_perm D)) fun _ => .need (le_line (by omega)) (.ret h)
theorem is_listL_ok {L : List (List Str)} (h : ∀ l, l ∈ L → ∀ x, x ∈ l → Asc x) (hl : L.length ≤ 900) : m_law_is_list_IL L L = .ok true := by
  have ly : (Lay.lay L : Bool) = true := List.all_eq_true.mpr fun l hl => strs_lay (h l hl)
  refine Ok.eq ?_
  unfold m_law_is_list_IL
  refine .need ly (.need ly (.ifF (by rw [decide_eq_true rfl]; decide) (.need (le_line (by omega)) (.compM (fun _ => true) (fun _ _ => .ret rfl) (.ret ?_)))))
  show (L.map fun _ => true).all id = true
  rw [List.all_map]; exact List.all_eq_true.mpr fun _ _ => rfl
theorem one_filter {α : Type} {xs : List α} {f : α → Bool} {a : α} (nd : xs.Nodup) (ha : a ∈ xs) (h : ∀ x, x ∈ xs → (f x = true ↔ x = a)) : xs.filter f = [a] := by
  refine List.perm_singleton.mp ((List.perm_ext_iff_of_nodup (nd.filter f) (by simp)).mpr fun x => ?_)
  rw [List.mem_filter, List.mem_singleton]
  constructor
  · rintro ⟨p, q⟩; exact (h x p).mp q
  · rintro rfl; exact ⟨ha, (h _ ha).mpr rfl⟩
theorem thr_key {E : Rw} (nd : (E.map (·.1)).Nodup) {n x : Str} (hx : x ∈ thrC E n) : x ∈ E.map (·.1) := dhas_iff.mp (((thrC_is nd n).mem x).mp hx).1
theorem stands_ok {D E : Rw} {T : Threads} (h : TH D T) (p : D.Perm E) (W : WD E) (ne : E ≠ []) (v : Int) : m_law_stands T E v = .ok true := by
  have nd := W.nd
  have few := W.few
  have lp := p.length_eq
  have pos : 0 < E.length := List.length_pos_iff.mpr ne
  have lt : (thsC E).length ≤ 64 := by
    have := thsOf_len (thrC E) (sortT (E.map (·.1))) []
    have z : ([] : List (List Str)).length = 0 := rfl
    rw [(sortT_perm _).length_eq, List.length_map, z] at this
    show (thsOf (thrC E) (sortT (E.map (·.1))) []).length ≤ 64
    omega
  have lthr : ∀ n, (thrC E n).length ≤ 64 := fun n => by
    have := nodup_lenG (thrC_is nd n).nd fun x hx => thr_key nd hx
    rw [List.length_map] at this
    omega
  have asc : ∀ n x, x ∈ thrC E n → Asc x := fun n x hx => key_asc W (thr_key nd hx)
  have ascL : ∀ l, l ∈ thsC E → ∀ x, x ∈ l → Asc x := fun l hl x hx => by
    obtain ⟨n, _, e⟩ := (ths_mem l).mp hl
    rw [← e] at hx
    exact asc n x hx
  have e1 := joined_ok (D := E) ⟨nd, W.asc, few⟩
  have e2 := threads_eq h p few
  have e3 := is_listL_ok ascL (by omega)
  refine Ok.eq ?_
  unfold m_law_stands
  refine .bindE e1 (.need (by omega) (.idx (Int.emod_nonneg _ (by omega)) (Int.emod_lt_of_pos _ (by omega)) fun r hr _ => ?_))
  have dx : dhas E r.1 = true := dhas_iff.mpr (List.mem_map.mpr ⟨r, hr, rfl⟩)
  refine .need (le_line (by omega)) (.compF (fun l => if decide (r.1 ∈ l) = true then some l else none) (fun l hl => .ite (fun c => .ret (by rw [if_pos c])) fun c => .ret (by rw [if_neg c])) ?_)
  dsimp only
  rw [fm_filter (fun l => decide (r.1 ∈ l)), one_filter (a := thrC E r.1) (ths_nodup nd) ((ths_mem _).mpr ⟨r.1, dx, rfl⟩) fun l hl => ?_]
  · refine .bindE (a := thrC E r.1) (idxR_ok (by decide) rfl) (.bind (Q := fun b => b = false) (.ite (fun _ => .bindE e2 (.bindE e3 (.ret rfl))) fun _ => .ret rfl) fun b hb => ?_)
    subst hb
    obtain ⟨d, _, _, f1, f2⟩ := depth_eq h p W dx
    have lf := fa_len E r.1
    refine .ifF (by decide) (.bindE (thread_eq h p few dx) (.bindE (is_listP_ok (asc r.1) (by have := lthr r.1; omega)) (.bind (Q := fun b => b = false) (.ifF (by decide) (.bindE f2 (.bindE f1 (.ret (by rw [decide_eq_true rfl]; rfl))))) fun b hb => ?_)))
    subst hb
    refine .ifF (by decide) (.need (le_line (by omega)) (.compF (fun q => if q.2 = r.1 then some q.1 else none) (fun q _ => .ite (fun c => .ret (by rw [if_pos (of_decide_eq_true c)])) fun c => .ret (by rw [if_neg (fun z => c (decide_eq_true z))])) ?_))
    dsimp only
    rw [due_eq]
    have ansA : ∀ x, x ∈ sortT ((fa E r.1).map (·.1)) → Asc x := fun x hx => by
      have hx := (sortT_perm _).mem_iff.mp hx
      rw [fa_keys] at hx
      obtain ⟨q, hq, e⟩ := List.mem_map.mp hx
      rw [← e]; exact (W.asc q (List.mem_filter.mp hq).1).1
    refine .need (le_line (by rw [List.length_map]; omega)) (.lets (.bindE (answers_eq h p (by omega) r.1) (.bindE (is_list_ok ansA (by rw [(sortT_perm _).length_eq, List.length_map]; omega)) (.bind (Q := fun b => b = true) (.ifT rfl (.bindE e2 (.bindE e3 (.ret rfl)))) fun b hb => .ret hb))))
  · rw [decide_eq_true_eq]
    obtain ⟨y, dy, e⟩ := (ths_mem l).mp hl
    constructor
    · intro q
      rw [← e] at q ⊢
      exact thr_same nd (((thrC_is nd y).mem r.1).mp q).2
    · intro q
      rw [q]; exact thr_self nd dx
theorem rows_ok {r1 : List Int} (hl : r1.length = 20) (hr : ∀ x, x ∈ r1 → 0 ≤ x ∧ x < 2147483629) {n : Nat} (n1 : 10 ≤ n) (n2 : n ≤ 64) : Ok (m_law_rows r1 (n : Int)) fun E => WD E ∧ E.length = n := by
  unfold m_law_rows
  obtain ⟨b, hb0⟩ : ∃ b, r1[(0 : Int).toNat]? = some b := ⟨_, List.getElem?_eq_getElem (by show 0 < r1.length; omega)⟩
  have hbm := hr b (List.mem_of_getElem? hb0)
  have hb : 0 ≤ b ∧ b < 2147483647 := ⟨hbm.1, by omega⟩
  have eb : idxR r1 0 = .ok b := idxR_ok (by decide) hb0
  rw [Int.toNat_natCast]
  refine .need (by omega) (.need (by rw [rngL_len]; exact le_line (by omega)) (.compM (nameF b) (fun k hk => ?_) ?_))
  · have hk := rngL_mem hk
    exact .bindE eb (.bindE (nameF_ok hb ⟨hk.1, by omega⟩).1 (.ret rfl))
  · dsimp only
    have ln : ((rngL 0 n).map (nameF b)).length = n := by rw [List.length_map, rngL_len]
    have nm : ∀ x, x ∈ (rngL 0 n).map (nameF b) → Nm x := fun x hx => by
      obtain ⟨k, hk, rfl⟩ := List.mem_map.mp hx
      have hk := rngL_mem hk
      exact (nameF_ok hb ⟨hk.1, by omega⟩).2.1
    have nd : ((rngL 0 n).map (nameF b)).Nodup := by
      have ndr : (rngL 0 n).Nodup := by
        unfold rngL
        exact List.pairwise_map.mpr ((List.nodup_range (n := n)).imp fun h e => h (by omega))
      refine List.pairwise_map.mpr (List.Pairwise.imp_of_mem (fun {x y} hx hy hxy e => hxy ?_) ndr)
      have hx := rngL_mem hx
      have hy := rngL_mem hy
      exact nameF_inj hb ⟨hx.1, by omega⟩ ⟨hy.1, by omega⟩ e
    generalize (rngL 0 n).map (nameF b) = N at *
    refine .idx (by decide) (by omega) fun x2 _ _ => .lets (.need (by omega) (.forI (fun p (s : Rw) => s.map (·.1) = N.take p.length ∧ ∀ r, r ∈ s → Asc r.2) ⟨rfl, fun r hr => by cases hr⟩ (fun p x q s ep I => ?_) fun s I => ?_))
    · obtain ⟨I1, I2⟩ := I
      obtain ⟨rfl, hp⟩ := rng_pre ep
      have ls : s.length = p.length := by
        have := congrArg List.length I1
        rw [List.length_map, List.length_take] at this
        omega
      have bound : 0 ≤ (if (((p.length : Int) + 1) - (2 * ((p.length : Int) % 2))) < ((n : Int) - 1) then ((p.length : Int) + 1) - (2 * ((p.length : Int) % 2)) else (n : Int) - 1) ∧ (if (((p.length : Int) + 1) - (2 * ((p.length : Int) % 2))) < ((n : Int) - 1) then ((p.length : Int) + 1) - (2 * ((p.length : Int) % 2)) else (n : Int) - 1) < (n : Int) := by
        split <;> omega
      have bound2 : 0 ≤ (if ((p.length : Int) - 1) > 0 then (p.length : Int) - 1 else 0) ∧ (if ((p.length : Int) - 1) > 0 then (p.length : Int) - 1 else 0) < (n : Int) := by
        split <;> omega
      refine .idx bound.1 (by rw [ln]; exact bound.2) fun a1 m1 _ => .idx bound2.1 (by rw [ln]; exact bound2.2) fun a2 m2 _ => .idx (by decide) (by omega) fun a3 m3 _ => .idx (by decide) (by omega) fun a4 m4 _ => ?_
      have l4 := (nm a4 m4).len
      have lz : ("zz" : Str).length = 2 := by decide
      have lc : (cutS a4 none (some (18))).length ≤ a4.length := by rw [len_tl, cutS_tl, len_tl]; exact cutL_len
      refine .need (le_line (by omega)) (.need (le_line (by omega)) (.need (by omega) (.idx (Int.emod_nonneg _ (by omega)) (by rw [ln]; exact Int.emod_lt_of_pos _ (by omega)) fun a5 m5 _ => .lets (.idx (by omega) (by omega) fun a6 m6 i6 => .idx (by decide) (by omega) fun b3 _ _ => .idx (by decide) (by omega) fun b4 _ _ => ?_))))
      refine .idx (by split <;> decide) (by simp only [List.length_cons, List.length_nil]; split <;> decide) fun w hw _ => ?_
      have hw : 0 ≤ w ∧ w < 6 := by
        simp only [List.mem_cons, List.not_mem_nil, or_false] at hw
        have := Int.emod_nonneg b3 (show (5 : Int) ≠ 0 by decide)
        have := Int.emod_lt_of_pos b3 (show (0 : Int) < 5 by decide)
        have := Int.emod_nonneg b4 (show (6 : Int) ≠ 0 by decide)
        have := Int.emod_lt_of_pos b4 (show (0 : Int) < 6 by decide)
        rcases hw with rfl | rfl <;> omega
      refine .idx hw.1 (by simp only [List.length_cons, List.length_nil]; omega) fun a7 m7 _ => .need (line9 (by omega)) (.ret ⟨?_, fun r hr => ?_⟩)
      · have i6 : N[p.length]? = some a6 := by rw [Int.toNat_natCast] at i6; exact i6
        rw [List.map_append, I1, List.length_append, List.length_singleton, List.take_succ, i6]; rfl
      · rcases List.mem_append.mp hr with z | z
        · exact I2 r z
        · rw [List.mem_singleton.mp z]
          show Asc a7
          simp only [List.mem_cons, List.not_mem_nil, or_false] at m7
          rcases m7 with rfl | rfl | rfl | rfl | rfl | rfl
          · exact (nm _ m2).asc
          · exact (nm _ m3).asc
          · refine Asc.app (Asc.lit (by decide +kernel)) fun c hc => (nm a4 m4).asc c ?_
            rw [cutS_tl] at hc
            exact cutL_mem hc
          · exact (nm _ m5).asc
          · exact (nm _ m1).asc
          · exact asc_empty
    · obtain ⟨I1, I2⟩ := I
      rw [rngL_len, List.take_of_length_le (by omega)] at I1
      have ls : s.length = n := by rw [← ln, ← I1, List.length_map]
      have key : ∀ r, r ∈ s → Nm r.1 := fun r hr => nm _ (by rw [← I1]; exact List.mem_map.mpr ⟨r, hr, rfl⟩)
      exact .ret ⟨⟨by rw [I1]; exact nd, fun r hr => (key r hr).ne, fun r hr => ⟨(key r hr).asc, I2 r hr⟩, by omega⟩, ls⟩
theorem drop_split {E : Rw} (nd : (E.map (·.1)).Nodup) {r : Str × Str} (hr : r ∈ E) : E.Perm (r :: ddrop E r.1) ∧ ¬ r.1 ∈ (ddrop E r.1).map (·.1) := by
  obtain ⟨a, b, e1, e2, _⟩ := dget_split nd (dget_of_mem nd (show (r.1, r.2) ∈ E from hr))
  refine ⟨?_, fun c => ?_⟩
  · rw [e2, e1]; exact List.perm_middle
  · obtain ⟨z, hz, e⟩ := List.mem_map.mp c
    exact (mem_ddrop.mp hz).2 e
theorem WD.drop {E : Rw} (W : WD E) (n : Str) : WD (ddrop E n) := ⟨nodup_ddrop W.nd n, fun r hr => W.ne r (mem_ddrop.mp hr).1, fun r hr => W.asc r (mem_ddrop.mp hr).1, Nat.le_trans (len_ddrop E n) W.few⟩
theorem law_ok (s : Script) (_ : s.ns.length ≤ 63) : m_law s = .ok true := by
  refine Ok.eq ?_
  unfold m_law
  refine .bind (draws_ok s (n := 20) (by decide)) fun r1 ⟨l1, hr⟩ => ?_
  have l1 : r1.length = 20 := by omega
  refine .idx (by decide) (by omega) fun x3 _ _ => .lets (.idx (by decide) (by omega) fun x5 _ _ => .bind (Q := fun n : Int => 10 ≤ n ∧ n ≤ 64) (.ite (fun _ => .idx (by decide) (by omega) fun x7 _ _ => .lets (.ret ?_)) fun _ => .ret ?_) fun n hn => ?_)
  · have := Int.emod_nonneg x7 (show (25 : Int) ≠ 0 by decide)
    have := Int.emod_lt_of_pos x7 (show (0 : Int) < 25 by decide)
    omega
  · have := Int.emod_nonneg x3 (show (15 : Int) ≠ 0 by decide)
    have := Int.emod_lt_of_pos x3 (show (0 : Int) < 15 by decide)
    omega
  obtain ⟨m, rfl⟩ : ∃ m : Nat, n = (m : Int) := ⟨n.toNat, by omega⟩
  refine .bind (rows_ok l1 hr (by omega) (by omega)) fun E ⟨W, lE⟩ => .bindE (a := ⟨[], [], [], [], 0⟩) rfl (.idx (by decide) (by omega) fun x14 _ _ => .bind (order_ok W.few x14) fun o po => ?_)
  have ndo : (o.map (·.1)).Nodup := (po.map _).nodup_iff.mpr W.nd
  have lo := po.length_eq
  refine .forI (fun p T => TH p T) th0 (fun p x q T ep hT => ?_) fun T hT => ?_
  · have hp := pre_lt ep
    rw [ep, List.map_append, List.map_cons] at ndo
    have no : dhas p x.1 = false := dhas_false.mpr fun c => (List.nodup_append.mp ndo).2.2 x.1 c x.1 (by simp) rfl
    exact .bind (tadd_ok hT (by omega) no) fun T' h' => .ret h'
  · have neE : E ≠ [] := fun e => by rw [e] at lE; simp at lE; omega
    refine .idx (by decide) (by omega) fun x32 _ _ => .bindE (stands_ok hT po W neE x32) (.ifF (by decide) (.idx (by decide) (by omega) fun x35 m35 _ => .idx (by decide) (by omega) fun x44 _ _ => ?_))
    have t0 := Int.emod_nonneg x44 (show (3 : Int) ≠ 0 by decide)
    have t1 := Int.emod_lt_of_pos x44 (show (0 : Int) < 3 by decide)
    refine .need (by omega) ?_
    obtain ⟨k, ek, k1, k3⟩ : ∃ k : Nat, (1 + x44 % 3).toNat = k ∧ 1 ≤ k ∧ k ≤ 3 := ⟨_, rfl, by omega, by omega⟩
    rw [ek]
    refine .forFI (fun p (s : Rw × Threads × (Str × Str)) => ∃ D, TH D s.2.1 ∧ D.Perm s.1 ∧ WD s.1 ∧ s.1.length + p.length = m ∧ Asc s.2.2.1 ∧ s.2.2.1 ≠ ("" : Str) ∧ (p ≠ [] → ¬ s.2.2.1 ∈ s.1.map (·.1))) ⟨o, hT, po, W, lE, (W.asc x35 m35).1, W.ne x35 m35, fun c => absurd rfl c⟩ (fun p x q s ep I => ?_) fun s I => ?_
    · obtain ⟨D, hD, pD, WS, ls, _, _, _⟩ := I
      obtain ⟨rfl, hp⟩ := rng_pre ep
      refine .idx (by omega) (by omega) fun x54 _ _ => .need (by omega) (.idx (Int.emod_nonneg _ (by omega)) (Int.emod_lt_of_pos _ (by omega)) fun r hr2 _ => ?_)
      have lD := pD.length_eq
      have few := WS.few
      have gr : dget s.1 r.1 = some r.2 := dget_of_mem WS.nd (show (r.1, r.2) ∈ s.1 from hr2)
      have gD : dget D r.1 = some r.2 := by rw [get_perm hD.nd pD]; exact gr
      obtain ⟨d1, d2⟩ := drop_split WS.nd hr2
      have ld := d1.length_eq
      rw [List.length_cons] at ld
      have er : remP s.1 r = ddrop s.1 r.1 := remP_drop WS.nd gr
      refine .need (WS.lay fun z hz => hz) (.need (WS.lay1 hr2) (.need hr2 (.bind (ttake_ok hD (by omega) gD) fun T' hT' => .idx (by omega) (by omega) fun x76 _ _ => ?_)))
      rw [er]
      have pd : (ddrop D r.1).Perm (ddrop s.1 r.1) := pD.filter _
      have nee : ddrop s.1 r.1 ≠ [] := fun e => by rw [e] at ld; simp at ld; omega
      exact .bindE (stands_ok hT' pd (WS.drop r.1) nee x76) (.ifF (by decide) (.ret ⟨_, rfl, _, hT', pd, WS.drop r.1, by rw [List.length_append, List.length_singleton]; dsimp only; omega, (WS.asc r hr2).1, WS.ne r hr2, fun _ => d2⟩))
    · obtain ⟨D, hD, pD, WS, ls, ga, gne, gno⟩ := I
      rw [rngL_len] at ls
      have gno := gno (fun e => by have := congrArg List.length e; rw [rngL_len] at this; simp at this; omega)
      have few := WS.few
      have lD := pD.length_eq
      show Ok (R.bind _ _) _
      refine .idx (by decide) (by omega) fun x79 _ _ => .need (by omega) (.idx (Int.emod_nonneg _ (by omega)) (Int.emod_lt_of_pos _ (by omega)) fun r hr2 _ => .need (line9 (by omega)) ?_)
      have noD : dhas D s.2.2.1 = false := by
        rw [has_perm pD]; exact dhas_false.mpr gno
      refine .bind (tadd_ok hD (by omega) (a := r.1) noD) fun T' hT' => .idx (by decide) (by omega) fun x110 _ _ => ?_
      have W2 : WD (s.1 ++ [(s.2.2.1, r.1)]) := by
        refine ⟨?_, fun z hz => ?_, fun z hz => ?_, by rw [List.length_append, List.length_singleton]; omega⟩
        · rw [List.map_append]
          exact List.nodup_append.mpr ⟨WS.nd, by simp, fun a ha b hb e => by
            have : b = s.2.2.1 := by simpa using hb
            rw [e, this] at ha
            exact gno ha⟩
        · rcases List.mem_append.mp hz with q | q
          · exact WS.ne z q
          · rw [List.mem_singleton.mp q]; exact gne
        · rcases List.mem_append.mp hz with q | q
          · exact WS.asc z q
          · rw [List.mem_singleton.mp q]; exact ⟨ga, (WS.asc r hr2).1⟩
      exact .bindE (stands_ok hT' (pD.append_right _) W2 (by simp) x110) (.ret rfl)
end Lw
namespace Lw
open PySem PySem.Spec PyProof.Rows L2 Ml
def ThreadsA {G : Gx} (a : Addr) (x : Threads) : Asn G := exA fun (dx : Addr) => exA fun (p_goes_to : Addr) => exA fun (p_pile_of : Addr) => exA fun (p_piles : Addr) => exA fun (p_comes_from : Addr) => star [cell a (.ins (G.cl 2) dx [("goes_to", .ref p_goes_to), ("pile_of", .ref p_pile_of), ("piles", .ref p_piles), ("comes_from", .ref p_comes_from), ("made", (.int (x.made)))]), dictA p_goes_to (x.goes_to : (List (Str × Str))), dictA p_pile_of (x.pile_of : (List (Str × Int))), dictE lstA p_piles (x.piles : (List (Int × (List Str)))), dictE dictA p_comes_from (x.comes_from : (List (Str × (List (Str × Bool)))))]
theorem open_Threads {G : Gx} {H : Hp} {a : Addr} {x : Threads} {M : List (Asn G)} (h : Sep H (ThreadsA a x :: M)) : ∃ (dx : Addr) (p_goes_to : Addr) (p_pile_of : Addr) (p_piles : Addr) (p_comes_from : Addr), Sep H ([cell a (.ins (G.cl 2) dx [("goes_to", .ref p_goes_to), ("pile_of", .ref p_pile_of), ("piles", .ref p_piles), ("comes_from", .ref p_comes_from), ("made", (.int (x.made)))]), dictA p_goes_to (x.goes_to : (List (Str × Str))), dictA p_pile_of (x.pile_of : (List (Str × Int))), dictE lstA p_piles (x.piles : (List (Int × (List Str)))), dictE dictA p_comes_from (x.comes_from : (List (Str × (List (Str × Bool)))))] ++ M : List (Asn G)) := by
  unfold ThreadsA at h
  obtain ⟨dx, h⟩ := Sep.ex h
  obtain ⟨p_goes_to, h⟩ := Sep.ex h
  obtain ⟨p_pile_of, h⟩ := Sep.ex h
  obtain ⟨p_piles, h⟩ := Sep.ex h
  obtain ⟨p_comes_from, h⟩ := Sep.ex h
  exact ⟨dx, p_goes_to, p_pile_of, p_piles, p_comes_from, Sep.star1 h⟩
theorem ins_Threads {G : Gx} {H : Hp} {L : List (Asn G)} {i : Nat} {a : Addr} {x : Threads} (h : Sep H L) (e : L[i]? = some (ThreadsA a x)) : ∃ (dx : Addr) (p_goes_to : Addr) (p_pile_of : Addr) (p_piles : Addr) (p_comes_from : Addr), H a = some (.ins (G.cl 2) dx [("goes_to", .ref p_goes_to), ("pile_of", .ref p_pile_of), ("piles", .ref p_piles), ("comes_from", .ref p_comes_from), ("made", (.int (x.made)))]) := by
  obtain ⟨fp, dx, p_goes_to, p_pile_of, p_piles, p_comes_from, f1, f2, _, ⟨_, hO⟩, _⟩ := h.at e
  exact ⟨dx, p_goes_to, p_pile_of, p_piles, p_comes_from, hO⟩
theorem pack_Threads {G : Gx} {H : Hp} {a : Addr} {x : Threads} {M : List (Asn G)} {dx : Addr} {p_goes_to : Addr} {p_pile_of : Addr} {p_piles : Addr} {p_comes_from : Addr} (h : Sep H ([cell a (.ins (G.cl 2) dx [("goes_to", .ref p_goes_to), ("pile_of", .ref p_pile_of), ("piles", .ref p_piles), ("comes_from", .ref p_comes_from), ("made", (.int (x.made)))]), dictA p_goes_to (x.goes_to : (List (Str × Str))), dictA p_pile_of (x.pile_of : (List (Str × Int))), dictE lstA p_piles (x.piles : (List (Int × (List Str)))), dictE dictA p_comes_from (x.comes_from : (List (Str × (List (Str × Bool)))))] ++ M : List (Asn G))) : Sep H (ThreadsA a x :: M) := Sep.exI dx (Sep.exI p_goes_to (Sep.exI p_pile_of (Sep.exI p_piles (Sep.exI p_comes_from (Sep.unstar1 h)))))
structure Txt (G : Gx) (mg : Str → Option Value) where
  a_Threads___init__ : Addr
  fd_Threads___init__ : FuncData
  F_Threads___init__ : Fun G.K "__init__" "Threads.__init__" s_Threads___init__ a_Threads___init__ fd_Threads___init__
  b_Threads___init__ : Binds G.K fd_Threads___init__ ["self"] []
  kp_Threads___init__ : PySem.W.keepIn G.K (.ref a_Threads___init__) = true
  k_Threads : Mk G.K (G.cl 2) a_Threads___init__
  a_Threads_pile : Addr
  fd_Threads_pile : FuncData
  F_Threads_pile : Fun G.K "pile" "Threads.pile" s_Threads_pile a_Threads_pile fd_Threads_pile
  b_Threads_pile : Binds G.K fd_Threads_pile ["self", "name"] []
  kp_Threads_pile : PySem.W.keepIn G.K (.ref a_Threads_pile) = true
  m_Threads_pile : Meth G.K (G.cl 2) "pile" a_Threads_pile
  a_Threads_put_together : Addr
  fd_Threads_put_together : FuncData
  F_Threads_put_together : Fun G.K "put_together" "Threads.put_together" s_Threads_put_together a_Threads_put_together fd_Threads_put_together
  b_Threads_put_together : Binds G.K fd_Threads_put_together ["self", "one", "other"] []
  kp_Threads_put_together : PySem.W.keepIn G.K (.ref a_Threads_put_together) = true
  m_Threads_put_together : Meth G.K (G.cl 2) "put_together" a_Threads_put_together
  a_Threads_hang : Addr
  fd_Threads_hang : FuncData
  F_Threads_hang : Fun G.K "hang" "Threads.hang" s_Threads_hang a_Threads_hang fd_Threads_hang
  b_Threads_hang : Binds G.K fd_Threads_hang ["self", "name"] []
  kp_Threads_hang : PySem.W.keepIn G.K (.ref a_Threads_hang) = true
  m_Threads_hang : Meth G.K (G.cl 2) "hang" a_Threads_hang
  a_Threads_sure : Addr
  fd_Threads_sure : FuncData
  F_Threads_sure : Fun G.K "sure" "Threads.sure" s_Threads_sure a_Threads_sure fd_Threads_sure
  b_Threads_sure : Binds G.K fd_Threads_sure ["self", "name"] []
  kp_Threads_sure : PySem.W.keepIn G.K (.ref a_Threads_sure) = true
  m_Threads_sure : Meth G.K (G.cl 2) "sure" a_Threads_sure
  a_Threads_add : Addr
  fd_Threads_add : FuncData
  F_Threads_add : FunD G.K "add" "Threads.add" (defArgs s_Threads_add) (defBody s_Threads_add) (defScope s_Threads_add) [.str ("" : Str)] [] a_Threads_add fd_Threads_add
  b_Threads_add : Binds G.K fd_Threads_add ["self", "name", "answers"] []
  kp_Threads_add : PySem.W.keepIn G.K (.ref a_Threads_add) = true
  m_Threads_add : Meth G.K (G.cl 2) "add" a_Threads_add
  a_Threads_take_out : Addr
  fd_Threads_take_out : FuncData
  F_Threads_take_out : Fun G.K "take_out" "Threads.take_out" s_Threads_take_out a_Threads_take_out fd_Threads_take_out
  b_Threads_take_out : Binds G.K fd_Threads_take_out ["self", "name"] []
  kp_Threads_take_out : PySem.W.keepIn G.K (.ref a_Threads_take_out) = true
  m_Threads_take_out : Meth G.K (G.cl 2) "take_out" a_Threads_take_out
  a_Threads_names : Addr
  fd_Threads_names : FuncData
  F_Threads_names : Fun G.K "names" "Threads.names" s_Threads_names a_Threads_names fd_Threads_names
  b_Threads_names : Binds G.K fd_Threads_names ["self"] []
  kp_Threads_names : PySem.W.keepIn G.K (.ref a_Threads_names) = true
  m_Threads_names : Meth G.K (G.cl 2) "names" a_Threads_names
  a_Threads_thread : Addr
  fd_Threads_thread : FuncData
  F_Threads_thread : Fun G.K "thread" "Threads.thread" s_Threads_thread a_Threads_thread fd_Threads_thread
  b_Threads_thread : Binds G.K fd_Threads_thread ["self", "name"] []
  kp_Threads_thread : PySem.W.keepIn G.K (.ref a_Threads_thread) = true
  m_Threads_thread : Meth G.K (G.cl 2) "thread" a_Threads_thread
  a_Threads_threads : Addr
  fd_Threads_threads : FuncData
  F_Threads_threads : Fun G.K "threads" "Threads.threads" s_Threads_threads a_Threads_threads fd_Threads_threads
  b_Threads_threads : Binds G.K fd_Threads_threads ["self"] []
  kp_Threads_threads : PySem.W.keepIn G.K (.ref a_Threads_threads) = true
  m_Threads_threads : Meth G.K (G.cl 2) "threads" a_Threads_threads
  a_Threads_answers_to : Addr
  fd_Threads_answers_to : FuncData
  F_Threads_answers_to : Fun G.K "answers_to" "Threads.answers_to" s_Threads_answers_to a_Threads_answers_to fd_Threads_answers_to
  b_Threads_answers_to : Binds G.K fd_Threads_answers_to ["self", "name"] []
  kp_Threads_answers_to : PySem.W.keepIn G.K (.ref a_Threads_answers_to) = true
  m_Threads_answers_to : Meth G.K (G.cl 2) "answers_to" a_Threads_answers_to
  a_Threads_depth : Addr
  fd_Threads_depth : FuncData
  F_Threads_depth : Fun G.K "depth" "Threads.depth" s_Threads_depth a_Threads_depth fd_Threads_depth
  b_Threads_depth : Binds G.K fd_Threads_depth ["self", "name"] []
  kp_Threads_depth : PySem.W.keepIn G.K (.ref a_Threads_depth) = true
  m_Threads_depth : Meth G.K (G.cl 2) "depth" a_Threads_depth
  a_law_draws : Addr
  fd_law_draws : FuncData
  F_law_draws : Fun G.K "_law_draws" "_law_draws" s_law_draws a_law_draws fd_law_draws
  b_law_draws : Binds G.K fd_law_draws ["_law_script", "_law_many"] []
  kp_law_draws : PySem.W.keepIn G.K (.ref a_law_draws) = true
  g_law_draws : mg "_law_draws" = some (.ref a_law_draws)
  a_law_name_by : Addr
  fd_law_name_by : FuncData
  F_law_name_by : Fun G.K "_law_name_by" "_law_name_by" s_law_name_by a_law_name_by fd_law_name_by
  b_law_name_by : Binds G.K fd_law_name_by ["_law_shape", "_law_k"] []
  kp_law_name_by : PySem.W.keepIn G.K (.ref a_law_name_by) = true
  g_law_name_by : mg "_law_name_by" = some (.ref a_law_name_by)
  a_law_is_list : Addr
  fd_law_is_list : FuncData
  F_law_is_list : Fun G.K "_law_is_list" "_law_is_list" s_law_is_list a_law_is_list fd_law_is_list
  b_law_is_list : Binds G.K fd_law_is_list ["_law_found", "_law_due"] []
  kp_law_is_list : PySem.W.keepIn G.K (.ref a_law_is_list) = true
  g_law_is_list : mg "_law_is_list" = some (.ref a_law_is_list)
  a_law_rows : Addr
  fd_law_rows : FuncData
  F_law_rows : Fun G.K "_law_rows" "_law_rows" s_law_rows a_law_rows fd_law_rows
  b_law_rows : Binds G.K fd_law_rows ["_law_draws_here", "_law_many"] []
  kp_law_rows : PySem.W.keepIn G.K (.ref a_law_rows) = true
  g_law_rows : mg "_law_rows" = some (.ref a_law_rows)
  a_law_order : Addr
  fd_law_order : FuncData
  F_law_order : Fun G.K "_law_order" "_law_order" s_law_order a_law_order fd_law_order
  b_law_order : Binds G.K fd_law_order ["_law_rows_here", "_law_draw"] []
  kp_law_order : PySem.W.keepIn G.K (.ref a_law_order) = true
  g_law_order : mg "_law_order" = some (.ref a_law_order)
  a_law_joined : Addr
  fd_law_joined : FuncData
  F_law_joined : Fun G.K "_law_joined" "_law_joined" s_law_joined a_law_joined fd_law_joined
  b_law_joined : Binds G.K fd_law_joined ["_law_rows_here"] []
  kp_law_joined : PySem.W.keepIn G.K (.ref a_law_joined) = true
  g_law_joined : mg "_law_joined" = some (.ref a_law_joined)
  a_law_deep : Addr
  fd_law_deep : FuncData
  F_law_deep : Fun G.K "_law_deep" "_law_deep" s_law_deep a_law_deep fd_law_deep
  b_law_deep : Binds G.K fd_law_deep ["_law_rows_here", "_law_name"] []
  kp_law_deep : PySem.W.keepIn G.K (.ref a_law_deep) = true
  g_law_deep : mg "_law_deep" = some (.ref a_law_deep)
  a_law_stands : Addr
  fd_law_stands : FuncData
  F_law_stands : Fun G.K "_law_stands" "_law_stands" s_law_stands a_law_stands fd_law_stands
  b_law_stands : Binds G.K fd_law_stands ["_law_threads", "_law_rows_here", "_law_draw"] []
  kp_law_stands : PySem.W.keepIn G.K (.ref a_law_stands) = true
  g_law_stands : mg "_law_stands" = some (.ref a_law_stands)
  a_law : Addr
  fd_law : FuncData
  F_law : Fun G.K "law" "law" s_law a_law fd_law
  b_law : Binds G.K fd_law ["_law_script"] []
  kp_law : PySem.W.keepIn G.K (.ref a_law) = true
  g_law : mg "law" = some (.ref a_law)
  g_MailError : mg "MailError" = some (.ref (G.cl 0))
  g_NoName : mg "NoName" = some (.ref (G.cl 1))
  x_NoName : PySem.W.excIn G.K (G.cl 1) [.type "ValueError", .type "Exception", .type "BaseException", .type "object"] "ValueError.__new__" = true
  kp_NoName : PySem.W.keepIn G.K (.ref (G.cl 1)) = true
  r_NoName : ∀ {X : Cx}, X.K = G.K → Raises X (.ref (G.cl 1))
  g_Threads : mg "Threads" = some (.ref (G.cl 2))
  cl_Threads : Cls G.K (G.cl 2)
  n_Threads_goes_to : NoAttr G.K (G.cl 2) "goes_to"
  n_Threads_pile_of : NoAttr G.K (G.cl 2) "pile_of"
  n_Threads_piles : NoAttr G.K (G.cl 2) "piles"
  n_Threads_comes_from : NoAttr G.K (G.cl 2) "comes_from"
  n_Threads_made : NoAttr G.K (G.cl 2) "made"
  fz_Threads : G.fz (G.cl 2) = none
  z_all : mg "all" = none
  z_dict : mg "dict" = none
  z_int : mg "int" = none
  z_isinstance : mg "isinstance" = none
  z_len : mg "len" = none
  z_list : mg "list" = none
  z_max : mg "max" = none
  z_min : mg "min" = none
  z_range : mg "range" = none
  z_sorted : mg "sorted" = none
  z_str : mg "str" = none
section
variable {P : Program} {w : World} {G : Gx} {mg : Str → Option Value} {base : Heap}
def sp_Threads___init__ (G : Gx) : Sp := fun vs H Q E => ∃ (a_v_self d_v_self : Addr) (F : Asn G), vs = [.ref a_v_self] ∧ Sep H ([cell a_v_self (.ins (G.cl 2) d_v_self []), F] : List (Asn G)) ∧ R.wp (m_Threads___init__ ) (fun r => ∀ H', Sep H' ([ThreadsA a_v_self r, F] : List (Asn G)) → Q .non H') (fun _ => False)
abbrev N_Threads___init__ : List Str := ["self"]
theorem sc_Threads___init__ : FnScope N_Threads___init__ ["self"] (defScope s_Threads___init__) := ⟨rfl, rfl, rfl, by decide +kernel, rfl, by decide +kernel, by decide +kernel⟩
theorem ok_Threads___init__ (T : Txt G mg) : FnOk P w G.K mg base CX0 1 T.a_Threads___init__ T.fd_Threads___init__ ["self"] (sp_Threads___init__ G) := by
  have nd := sc_Threads___init__.nd
  refine Fun.ok T.F_Threads___init__ sc_Threads___init__ (fun vs H Q E h => ?_) (fun cdv A outer s H vs Q E hr h => ?_)
  · obtain ⟨a_v_self, d_v_self, F, rfl, _⟩ := h; rfl
  · obtain ⟨a_v_self, d_v_self, F, rfl, hS, hm⟩ := h
    refine ⟨_, (pss_cons (ps_fld (pv 0) pe_dnewK rfl)
      (pss_cons (ps_fld (pv 0) pe_dnewK rfl)
      (pss_cons (ps_fld (pv 0) pe_dnewK rfl)
      (pss_cons (ps_fld (pv 0) pe_dnewK rfl)
      (pss_one (ps_fld (pv 0) pe_int rfl)))))), ?_⟩
    unfold m_Threads___init__ at hm
    refine f_seq ?_
    refine c_sfld ?_
    refine k_dnew (κ := Str) (β := Str) hS fun p1 H hS => ?_
    refine ev_to (ev_var rfl) ?_
    refine k_sfld (fs' := [("goes_to", (.ref p1))]) hS (i := 1) rfl T.cl_Threads T.n_Threads_goes_to rfl (by show 0 < 1000; decide) (by show decide (G.fz (G.cl 2) = some 1) = false; rw [T.fz_Threads]; rfl) rfl fun H hS => ?_
    have hS : Sep H ([dictA p1 (([] : (List (Str × Str))) : (List (Str × Str))), cell a_v_self (.ins (G.cl 2) d_v_self [("goes_to", (.ref p1))]), F] : List (Asn G)) := hS
    refine sq_nx ?_
    refine f_seq ?_
    refine c_sfld ?_
    refine k_dnew (κ := Str) (β := Int) hS fun p2 H hS => ?_
    refine ev_to (ev_var rfl) ?_
    refine k_sfld (fs' := [("goes_to", (.ref p1)), ("pile_of", (.ref p2))]) hS (i := 2) rfl T.cl_Threads T.n_Threads_pile_of rfl (by show 1 < 1000; decide) (by show decide (G.fz (G.cl 2) = some 2) = false; rw [T.fz_Threads]; rfl) rfl fun H hS => ?_
    have hS : Sep H ([dictA p2 (([] : (List (Str × Int))) : (List (Str × Int))), dictA p1 (([] : (List (Str × Str))) : (List (Str × Str))), cell a_v_self (.ins (G.cl 2) d_v_self [("goes_to", (.ref p1)), ("pile_of", (.ref p2))]), F] : List (Asn G)) := hS
    refine sq_nx ?_
    refine f_seq ?_
    refine c_sfld ?_
    refine k_dnewE (κ := Int) (β := (List Str)) (E := lstA) hS fun p3 H hS => ?_
    refine ev_to (ev_var rfl) ?_
    refine k_sfld (fs' := [("goes_to", (.ref p1)), ("pile_of", (.ref p2)), ("piles", (.ref p3))]) hS (i := 3) rfl T.cl_Threads T.n_Threads_piles rfl (by show 2 < 1000; decide) (by show decide (G.fz (G.cl 2) = some 3) = false; rw [T.fz_Threads]; rfl) rfl fun H hS => ?_
    have hS : Sep H ([dictE lstA p3 (([] : (List (Int × (List Str)))) : (List (Int × (List Str)))), dictA p2 (([] : (List (Str × Int))) : (List (Str × Int))), dictA p1 (([] : (List (Str × Str))) : (List (Str × Str))), cell a_v_self (.ins (G.cl 2) d_v_self [("goes_to", (.ref p1)), ("pile_of", (.ref p2)), ("piles", (.ref p3))]), F] : List (Asn G)) := hS
    refine sq_nx ?_
    refine f_seq ?_
    refine c_sfld ?_
    refine k_dnewE (κ := Str) (β := (List (Str × Bool))) (E := dictA) hS fun p4 H hS => ?_
    refine ev_to (ev_var rfl) ?_
    refine k_sfld (fs' := [("goes_to", (.ref p1)), ("pile_of", (.ref p2)), ("piles", (.ref p3)), ("comes_from", (.ref p4))]) hS (i := 4) rfl T.cl_Threads T.n_Threads_comes_from rfl (by show 3 < 1000; decide) (by show decide (G.fz (G.cl 2) = some 4) = false; rw [T.fz_Threads]; rfl) rfl fun H hS => ?_
    have hS : Sep H ([dictE dictA p4 (([] : (List (Str × (List (Str × Bool))))) : (List (Str × (List (Str × Bool))))), dictE lstA p3 (([] : (List (Int × (List Str)))) : (List (Int × (List Str)))), dictA p2 (([] : (List (Str × Int))) : (List (Str × Int))), dictA p1 (([] : (List (Str × Str))) : (List (Str × Str))), cell a_v_self (.ins (G.cl 2) d_v_self [("goes_to", (.ref p1)), ("pile_of", (.ref p2)), ("piles", (.ref p3)), ("comes_from", (.ref p4))]), F] : List (Asn G)) := hS
    refine sq_nx ?_
    refine c_sfld ?_
    refine ev_to ev_c ?_
    refine ev_to (ev_var rfl) ?_
    refine k_sfld (fs' := [("goes_to", (.ref p1)), ("pile_of", (.ref p2)), ("piles", (.ref p3)), ("comes_from", (.ref p4)), ("made", (.int (0)))]) hS (i := 4) rfl T.cl_Threads T.n_Threads_made rfl (by show 4 < 1000; decide) (by show decide (G.fz (G.cl 2) = some 5) = false; rw [T.fz_Threads]; rfl) rfl fun H hS => ?_
    have hS : Sep H ([dictE dictA p4 (([] : (List (Str × (List (Str × Bool))))) : (List (Str × (List (Str × Bool))))), dictE lstA p3 (([] : (List (Int × (List Str)))) : (List (Int × (List Str)))), dictA p2 (([] : (List (Str × Int))) : (List (Str × Int))), dictA p1 (([] : (List (Str × Str))) : (List (Str × Str))), cell a_v_self (.ins (G.cl 2) d_v_self [("goes_to", (.ref p1)), ("pile_of", (.ref p2)), ("piles", (.ref p3)), ("comes_from", (.ref p4)), ("made", (.int (0)))]), F] : List (Asn G)) := hS
    have hS : Sep H (ThreadsA a_v_self (⟨([] : (List (Str × Str))), ([] : (List (Str × Int))), ([] : (List (Int × (List Str)))), ([] : (List (Str × (List (Str × Bool))))), 0⟩ : Threads) :: [F] : List (Asn G)) := pack_Threads (hS.sel [4, 3, 2, 1, 0, 5] (by decide) rfl)
    exact hm _ (hS.sel [0, 1] (by decide) rfl)
def sp_Threads_pile (G : Gx) : Sp := fun vs H Q E => ∃ (a_v_self : Addr) (v_self : Threads) (v_name : Str) (F : Asn G), vs = [.ref a_v_self, (.str (v_name))] ∧ Sep H ([ThreadsA a_v_self v_self, F] : List (Asn G)) ∧ R.wp (m_Threads_pile v_self v_name) (fun r => ∀ H', Sep H' ([ThreadsA a_v_self r.2, F] : List (Asn G)) → Q (.int (r.1)) H') (fun _ => False)
abbrev N_Threads_pile : List Str := ["self", "name"]
theorem sc_Threads_pile : FnScope N_Threads_pile ["self", "name"] (defScope s_Threads_pile) := ⟨rfl, rfl, rfl, by decide +kernel, rfl, by decide +kernel, by decide +kernel⟩
theorem ok_Threads_pile (T : Txt G mg) : FnOk P w G.K mg base CX0 1 T.a_Threads_pile T.fd_Threads_pile ["self", "name"] (sp_Threads_pile G) := by
  have nd := sc_Threads_pile.nd
  refine Fun.ok T.F_Threads_pile sc_Threads_pile (fun vs H Q E h => ?_) (fun cdv A outer s H vs Q E hr h => ?_)
  · obtain ⟨a_v_self, v_self, v_name, F, rfl, _⟩ := h; rfl
  · obtain ⟨a_v_self, v_self, v_name, F, rfl, hS, hm⟩ := h
    refine ⟨_, (pss_cons (ps_if (pt_cmp (pc_dnotin (hu_of hr) (pv 1) (pe_fld (pv 0) rfl))) (pss_cons (ps_fldaug (pv 0) pe_int ip_add)
      (pss_cons (ps_asg (pe_fld (pv 0) rfl) (pg_sub (pe_fld (pv 0) rfl) (pv 1) (set_dict (hu_of hr))))
      (pss_one (ps_asg (pe_fz (pe_lst (pa_cons (pv 1) pa_nil))) (pg_sub (pe_fld (pv 0) rfl) (pe_fld (pv 0) rfl) (set_dict (hu_of hr))))))) pss_nil)
      (pss_one (ps_ret (pe_dget (hu_of hr) (pe_fld (pv 0) rfl) (pv 1) (fun _ _ => rfl))))), ?_⟩
    unfold m_Threads_pile at hm
    have hS : Sep H (ThreadsA a_v_self v_self :: [F] : List (Asn G)) := hS.sel [0, 1] (by decide) rfl
    obtain ⟨dx1, p2, p3, p4, p5, hS⟩ := open_Threads hS
    have hS : Sep H ([cell a_v_self (.ins (G.cl 2) dx1 [("goes_to", (.ref p2)), ("pile_of", (.ref p3)), ("piles", (.ref p4)), ("comes_from", (.ref p5)), ("made", (.int (v_self.made)))]), dictA p2 (v_self.goes_to : (List (Str × Str))), dictA p3 (v_self.pile_of : (List (Str × Int))), dictE lstA p4 (v_self.piles : (List (Int × (List Str)))), dictE dictA p5 (v_self.comes_from : (List (Str × (List (Str × Bool))))), F] : List (Asn G)) := hS
    refine f_seq ?_
    refine f_if ?_
    refine et_to (et_B (ev_dnotin hS (i := 2) (k := v_name) rfl (ev_var rfl) (ev_fld (ev_var rfl) (hS.getCell (i := 0) rfl) T.cl_Threads T.n_Threads_pile_of rfl))) ?_
    refine ifK_J (τ := (List (Str × Int)) × (List (Int × (List Str))) × Int) (fun (s6 : (List (Str × Int)) × (List (Int × (List Str))) × Int) (σ : L2.St) (H : Hp) => σ = [some (.ref a_v_self), some (.str (v_name))] ∧ Sep H ([cell a_v_self (.ins (G.cl 2) dx1 [("goes_to", (.ref p2)), ("pile_of", (.ref p3)), ("piles", (.ref p4)), ("comes_from", (.ref p5)), ("made", (.int (s6.2.2)))]), dictA p2 (v_self.goes_to : (List (Str × Str))), dictA p3 (s6.1 : (List (Str × Int))), dictE lstA p4 (s6.2.1 : (List (Int × (List Str)))), dictE dictA p5 (v_self.comes_from : (List (Str × (List (Str × Bool))))), F] : List (Asn G))) hm (fun hb q hm nx => ?_) (fun hb q hm nx => ?_) (fun s6 σ H hm hI => ?_)
    ·
      refine f_seq ?_
      refine c_fldaug ?_
      refine ev_to (ev_var rfl) ?_
      refine ⟨_, _, _, _, _, rfl, hS.getCell (i := 0) rfl, T.cl_Threads, T.n_Threads_made, rfl, ?_⟩
      refine ev_to ev_c ?_
      refine ⟨_, _, rfl, rfl, ?_⟩
      refine k_fldaug2 hS (i := 0) rfl (by show 5 < 1000; decide) (by show decide (G.fz (G.cl 2) = some 5) = false; rw [T.fz_Threads]; rfl) rfl fun H hS => ?_
      have hS : Sep H ([cell a_v_self (.ins (G.cl 2) dx1 [("goes_to", (.ref p2)), ("pile_of", (.ref p3)), ("piles", (.ref p4)), ("comes_from", (.ref p5)), ("made", (.int (v_self.made + 1)))]), dictA p2 (v_self.goes_to : (List (Str × Str))), dictA p3 (v_self.pile_of : (List (Str × Int))), dictE lstA p4 (v_self.piles : (List (Int × (List Str)))), dictE dictA p5 (v_self.comes_from : (List (Str × (List (Str × Bool))))), F] : List (Asn G)) := hS
      refine sq_nx ?_
      refine f_seq ?_
      refine c_asgS ?_
      refine ev_to (ev_fld (ev_var rfl) (hS.getCell (i := 0) rfl) T.cl_Threads T.n_Threads_made rfl) ?_
      refine ev_to (ev_fld (ev_var rfl) (hS.getCell (i := 0) rfl) T.cl_Threads T.n_Threads_pile_of rfl) ?_
      refine ev_to (ev_var rfl) ?_
      obtain ⟨h7, hm⟩ := R.wp_need hm
      refine k_setD (k := v_name) (y := v_self.made + 1) hS (i := 2) rfl rfl h7 rfl fun H hS => ?_
      have hS : Sep H ([cell a_v_self (.ins (G.cl 2) dx1 [("goes_to", (.ref p2)), ("pile_of", (.ref p3)), ("piles", (.ref p4)), ("comes_from", (.ref p5)), ("made", (.int (v_self.made + 1)))]), dictA p2 (v_self.goes_to : (List (Str × Str))), dictA p3 (dput v_self.pile_of v_name (v_self.made + 1) : (List (Str × Int))), dictE lstA p4 (v_self.piles : (List (Int × (List Str)))), dictE dictA p5 (v_self.comes_from : (List (Str × (List (Str × Bool))))), F] : List (Asn G)) := hS
      refine sq_nx ?_
      refine c_asgS ?_
      refine c_fz ?_
      refine c_lst ?_
      refine ea_to (ea_cons (ev_var rfl) ea_nil) ?_
      refine k_lst (α := Str) (vs := [(.str (v_name))]) (xs := [v_name]) hS ⟨rfl, True.intro⟩ (by show 1 ≤ sizeLine; decide) fun p8 H hS => ?_
      refine fz_no ?_
      refine ev_to (ev_fld (ev_var rfl) (hS.getCell (i := 1) rfl) T.cl_Threads T.n_Threads_piles rfl) ?_
      refine ev_to (ev_fld (ev_var rfl) (hS.getCell (i := 1) rfl) T.cl_Threads T.n_Threads_made rfl) ?_
      obtain ⟨h9, hm⟩ := R.wp_need hm
      obtain ⟨h10, hm⟩ := R.wp_need hm
      refine k_newE' (k := v_self.made + 1) (hS.sel [4, 0, 1, 2, 3, 5, 6] (by decide) rfl : Sep H (dictE lstA p4 (v_self.piles : (List (Int × (List Str)))) :: lstA p8 ([v_name] : (List Str)) :: [cell a_v_self (.ins (G.cl 2) dx1 [("goes_to", (.ref p2)), ("pile_of", (.ref p3)), ("piles", (.ref p4)), ("comes_from", (.ref p5)), ("made", (.int (v_self.made + 1)))]), dictA p2 (v_self.goes_to : (List (Str × Str))), dictA p3 (dput v_self.pile_of v_name (v_self.made + 1) : (List (Str × Int))), dictE dictA p5 (v_self.comes_from : (List (Str × (List (Str × Bool))))), F] : List (Asn G))) h10 h9 fun H hS => ?_
      have hS : Sep H ([dictE lstA p4 (v_self.piles ++ [(v_self.made + 1, [v_name])] : (List (Int × (List Str)))), cell a_v_self (.ins (G.cl 2) dx1 [("goes_to", (.ref p2)), ("pile_of", (.ref p3)), ("piles", (.ref p4)), ("comes_from", (.ref p5)), ("made", (.int (v_self.made + 1)))]), dictA p2 (v_self.goes_to : (List (Str × Str))), dictA p3 (dput v_self.pile_of v_name (v_self.made + 1) : (List (Str × Int))), dictE dictA p5 (v_self.comes_from : (List (Str × (List (Str × Bool))))), F] : List (Asn G)) := hS
      exact nx _ _ _ hm ⟨rfl, hS.sel [1, 2, 3, 0, 4, 5] (by decide) rfl⟩
    ·
      refine st_nx ?_
      exact nx _ _ _ hm ⟨rfl, hS.sel [0, 1, 2, 3, 4, 5] (by decide) rfl⟩
    · obtain ⟨rfl, hS⟩ := hI
      refine sq_nx ?_
      refine c_ret ?_
      obtain ⟨y11, hy11, hm⟩ := wp_dget hm
      obtain ⟨v12, g13, hv14⟩ := dget_some hS (i := 2) rfl hy11
      have hv14 : v12 = (.int (y11)) := hv14
      subst hv14
      refine ev_to (ev_dget (y := y11) hS (i := 2) rfl (ev_fld (ev_var rfl) (hS.getCell (i := 0) rfl) T.cl_Threads T.n_Threads_pile_of rfl) (ev_var rfl) g13) ?_
      have hS : Sep H (ThreadsA a_v_self (⟨v_self.goes_to, s6.1, s6.2.1, v_self.comes_from, s6.2.2⟩ : Threads) :: [F] : List (Asn G)) := pack_Threads (hS.sel [0, 1, 2, 3, 4, 5] (by decide) rfl)
      exact hm _ (hS.sel [0, 1] (by decide) rfl)
def sp_Threads_put_together (G : Gx) : Sp := fun vs H Q E => ∃ (a_v_self : Addr) (v_self : Threads) (v_one : Int) (v_other : Int) (F : Asn G), vs = [.ref a_v_self, (.int (v_one)), (.int (v_other))] ∧ Sep H ([ThreadsA a_v_self v_self, F] : List (Asn G)) ∧ R.wp (m_Threads_put_together v_self v_one v_other) (fun r => ∀ H', Sep H' ([ThreadsA a_v_self r, F] : List (Asn G)) → Q .non H') (fun _ => False)
abbrev N_Threads_put_together : List Str := ["self", "one", "other", "moved", "name"]
theorem sc_Threads_put_together : FnScope N_Threads_put_together ["self", "one", "other"] (defScope s_Threads_put_together) := ⟨rfl, rfl, rfl, by decide +kernel, rfl, by decide +kernel, by decide +kernel⟩
theorem ok_Threads_put_together (T : Txt G mg) : FnOk P w G.K mg base CX0 1 T.a_Threads_put_together T.fd_Threads_put_together ["self", "one", "other"] (sp_Threads_put_together G) := by
  have nd := sc_Threads_put_together.nd
  refine Fun.ok T.F_Threads_put_together sc_Threads_put_together (fun vs H Q E h => ?_) (fun cdv A outer s H vs Q E hr h => ?_)
  · obtain ⟨a_v_self, v_self, v_one, v_other, F, rfl, _⟩ := h; rfl
  · obtain ⟨a_v_self, v_self, v_one, v_other, F, rfl, hS, hm⟩ := h
    refine ⟨_, (pss_cons (ps_if (pt_cmpR op_eq (pv 1) (pv 2) (nomark _)) (pss_one ps_retN) pss_nil)
      (pss_cons (ps_if (pt_cmpR op_lt (pe_callB (lenSqK G.K) (by rfl) T.z_len PySem.boot_len (pa_cons (pe_fz (pe_dget (hu_of hr) (pe_fld (pv 0) rfl) (pv 1) (fun _ _ => rfl))) pa_nil)) (pe_callB (lenSqK G.K) (by rfl) T.z_len PySem.boot_len (pa_cons (pe_fz (pe_dget (hu_of hr) (pe_fld (pv 0) rfl) (pv 2) (fun _ _ => rfl))) pa_nil)) (nomark _)) (pss_one (ps_par (i := 1) (j := 2) rfl nd rfl rfl (by decide) rfl rfl (pa_cons (pv 2) (pa_cons (pv 1) pa_nil)) rfl)) pss_nil)
      (pss_cons (ps_set (i := 3) nd rfl (Or.inl rfl) (pe_fz (pe_dpop1 (pe_fld (pv 0) rfl) (pv 2) m1)))
      (pss_cons (ps_for PassesOwn.never rfl (pi_listK G.K (pe_fz (pv 3))) (pg_name (i := 4) nd rfl (Or.inl rfl)) (pss_one (ps_asg (pv 1) (pg_sub (pe_fld (pv 0) rfl) (pv 4) (set_dict (hu_of hr))))))
      (pss_one (ps_daug (hu_of hr) (pe_fld (pv 0) rfl) (pv 1) (pe_fz (pv 3)) iop_ext (fun _ _ _ => rfl))))))), ?_⟩
    unfold m_Threads_put_together at hm
    have hS : Sep H (ThreadsA a_v_self v_self :: [F] : List (Asn G)) := hS.sel [0, 1] (by decide) rfl
    obtain ⟨dx1, p2, p3, p4, p5, hS⟩ := open_Threads hS
    have hS : Sep H ([cell a_v_self (.ins (G.cl 2) dx1 [("goes_to", (.ref p2)), ("pile_of", (.ref p3)), ("piles", (.ref p4)), ("comes_from", (.ref p5)), ("made", (.int (v_self.made)))]), dictA p2 (v_self.goes_to : (List (Str × Str))), dictA p3 (v_self.pile_of : (List (Str × Int))), dictE lstA p4 (v_self.piles : (List (Int × (List Str)))), dictE dictA p5 (v_self.comes_from : (List (Str × (List (Str × Bool))))), F] : List (Asn G)) := hS
    refine f_seq ?_
    refine f_if ?_
    refine et_to (et_test (ev_eqI (ev_var rfl) (ev_var rfl))) ?_
    refine ifK_2 (fun hb6 => ?_) (fun hb6 => ?_)
    · have hm := R.wp_ifY hm hb6
      refine c_retN ?_
      have hS : Sep H (ThreadsA a_v_self v_self :: [F] : List (Asn G)) := pack_Threads (hS.sel [0, 1, 2, 3, 4, 5] (by decide) rfl)
      exact hm _ (hS.sel [0, 1] (by decide) rfl)
    · have hm := R.wp_ifN hm (by first | (rw [hb6]; decide) | simpa using hb6)
      refine st_nx ?_
      refine sq_nx ?_
      refine f_seq ?_
      refine f_if ?_
      refine f_test ?_
      refine c_op ?_
      refine c_cb ?_
      refine c_cons ?_
      refine c_fz ?_
      refine c_dget ?_
      refine ev_to (ev_fld (ev_var rfl) (hS.getCell (i := 0) rfl) T.cl_Threads T.n_Threads_piles rfl) ?_
      refine k_dget1 ?_
      refine ev_to (ev_var rfl) ?_
      obtain ⟨x7, h8, hm⟩ := wp_dgetX hm
      refine k_dgetE (y := (x7 : (List Str))) (hS.sel [3, 0, 1, 2, 4, 5] (by decide) rfl : Sep _ (dictE lstA p4 (v_self.piles : (List (Int × (List Str)))) :: [cell a_v_self (.ins (G.cl 2) dx1 [("goes_to", (.ref p2)), ("pile_of", (.ref p3)), ("piles", (.ref p4)), ("comes_from", (.ref p5)), ("made", (.int (v_self.made)))]), dictA p2 (v_self.goes_to : (List (Str × Str))), dictA p3 (v_self.pile_of : (List (Str × Int))), dictE dictA p5 (v_self.comes_from : (List (Str × (List (Str × Bool))))), F] : List (Asn G))) h8 fun ps9 p10 j11 hl12 hj13 hp14 hS => ?_
      have hS : Sep H ([lstA p10 (x7 : (List Str)), dictXH id lstA p4 ps9 (v_self.piles : (List (Int × (List Str)))) j11, cell a_v_self (.ins (G.cl 2) dx1 [("goes_to", (.ref p2)), ("pile_of", (.ref p3)), ("piles", (.ref p4)), ("comes_from", (.ref p5)), ("made", (.int (v_self.made)))]), dictA p2 (v_self.goes_to : (List (Str × Str))), dictA p3 (v_self.pile_of : (List (Str × Int))), dictE dictA p5 (v_self.comes_from : (List (Str × (List (Str × Bool))))), F] : List (Asn G)) := hS
      refine fz_no ?_
      refine c_nil ?_
      refine k_lenG (hS.sq (i := 0) rfl) ?_
      have hS : Sep H ([dictE lstA p4 (v_self.piles : (List (Int × (List Str)))), cell a_v_self (.ins (G.cl 2) dx1 [("goes_to", (.ref p2)), ("pile_of", (.ref p3)), ("piles", (.ref p4)), ("comes_from", (.ref p5)), ("made", (.int (v_self.made)))]), dictA p2 (v_self.goes_to : (List (Str × Str))), dictA p3 (v_self.pile_of : (List (Str × Int))), dictE dictA p5 (v_self.comes_from : (List (Str × (List (Str × Bool))))), F] : List (Asn G)) := unfocDE0 hl12 hj13 hp14 (hS.sel [0, 1, 2, 3, 4, 5, 6] (by decide) rfl)
      refine c_cb ?_
      refine c_cons ?_
      refine c_fz ?_
      refine c_dget ?_
      refine ev_to (ev_fld (ev_var rfl) (hS.getCell (i := 1) rfl) T.cl_Threads T.n_Threads_piles rfl) ?_
      refine k_dget1 ?_
      refine ev_to (ev_var rfl) ?_
      obtain ⟨x15, h16, hm⟩ := wp_dgetX hm
      refine k_dgetE (y := (x15 : (List Str))) (hS.sel [0, 1, 2, 3, 4, 5] (by decide) rfl : Sep _ (dictE lstA p4 (v_self.piles : (List (Int × (List Str)))) :: [cell a_v_self (.ins (G.cl 2) dx1 [("goes_to", (.ref p2)), ("pile_of", (.ref p3)), ("piles", (.ref p4)), ("comes_from", (.ref p5)), ("made", (.int (v_self.made)))]), dictA p2 (v_self.goes_to : (List (Str × Str))), dictA p3 (v_self.pile_of : (List (Str × Int))), dictE dictA p5 (v_self.comes_from : (List (Str × (List (Str × Bool))))), F] : List (Asn G))) h16 fun ps17 p18 j19 hl20 hj21 hp22 hS => ?_
      have hS : Sep H ([lstA p18 (x15 : (List Str)), dictXH id lstA p4 ps17 (v_self.piles : (List (Int × (List Str)))) j19, cell a_v_self (.ins (G.cl 2) dx1 [("goes_to", (.ref p2)), ("pile_of", (.ref p3)), ("piles", (.ref p4)), ("comes_from", (.ref p5)), ("made", (.int (v_self.made)))]), dictA p2 (v_self.goes_to : (List (Str × Str))), dictA p3 (v_self.pile_of : (List (Str × Int))), dictE dictA p5 (v_self.comes_from : (List (Str × (List (Str × Bool))))), F] : List (Asn G)) := hS
      refine fz_no ?_
      refine c_nil ?_
      refine k_lenG (hS.sq (i := 0) rfl) ?_
      have hS : Sep H ([dictE lstA p4 (v_self.piles : (List (Int × (List Str)))), cell a_v_self (.ins (G.cl 2) dx1 [("goes_to", (.ref p2)), ("pile_of", (.ref p3)), ("piles", (.ref p4)), ("comes_from", (.ref p5)), ("made", (.int (v_self.made)))]), dictA p2 (v_self.goes_to : (List (Str × Str))), dictA p3 (v_self.pile_of : (List (Str × Int))), dictE dictA p5 (v_self.comes_from : (List (Str × (List (Str × Bool))))), F] : List (Asn G)) := unfocDE0 hl20 hj21 hp22 (hS.sel [0, 1, 2, 3, 4, 5, 6] (by decide) rfl)
      refine ev_op2 (ev_i0 ev_c ev_c) ?_
      refine f_bl ?_
      refine ifK_J (τ := Int × Int) (fun (s23 : Int × Int) (σ : L2.St) (H : Hp) => σ = [some (.ref a_v_self), some (.int (s23.1)), some (.int (s23.2)), none, none] ∧ Sep H ([dictE lstA p4 (v_self.piles : (List (Int × (List Str)))), cell a_v_self (.ins (G.cl 2) dx1 [("goes_to", (.ref p2)), ("pile_of", (.ref p3)), ("piles", (.ref p4)), ("comes_from", (.ref p5)), ("made", (.int (v_self.made)))]), dictA p2 (v_self.goes_to : (List (Str × Str))), dictA p3 (v_self.pile_of : (List (Str × Int))), dictE dictA p5 (v_self.comes_from : (List (Str × (List (Str × Bool))))), F] : List (Asn G))) hm (fun hb q hm nx => ?_) (fun hb q hm nx => ?_) (fun s23 σ H hm hI => ?_)
      ·
        refine ea_to (ea_cons (ev_var rfl) (ea_cons (ev_var rfl) ea_nil)) ?_
        refine ⟨_, _, rfl, ?_⟩
        refine c_set (σ' := [some (.ref a_v_self), some (.int (v_other)), some (.int (v_one)), none, none]) rfl ?_
        exact nx _ _ _ hm ⟨rfl, hS.sel [0, 1, 2, 3, 4, 5] (by decide) rfl⟩
      ·
        refine st_nx ?_
        exact nx _ _ _ hm ⟨rfl, hS.sel [0, 1, 2, 3, 4, 5] (by decide) rfl⟩
      · obtain ⟨rfl, hS⟩ := hI
        refine sq_nx ?_
        refine f_seq ?_
        refine c_asg ?_
        refine c_fz ?_
        refine c_dpop1 ?_
        refine ev_to (ev_fld (ev_var rfl) (hS.getCell (i := 1) rfl) T.cl_Threads T.n_Threads_piles rfl) ?_
        refine k_pop1a (isD_Ei hS (i := 0) rfl) ?_
        refine ev_to (ev_var rfl) ?_
        obtain ⟨y24, hy24, hm⟩ := wp_dgetX hm
        refine k_pop1E (hS.sel [0, 1, 2, 3, 4, 5] (by decide) rfl : Sep _ (dictE lstA p4 (v_self.piles : (List (Int × (List Str)))) :: [cell a_v_self (.ins (G.cl 2) dx1 [("goes_to", (.ref p2)), ("pile_of", (.ref p3)), ("piles", (.ref p4)), ("comes_from", (.ref p5)), ("made", (.int (v_self.made)))]), dictA p2 (v_self.goes_to : (List (Str × Str))), dictA p3 (v_self.pile_of : (List (Str × Int))), dictE dictA p5 (v_self.comes_from : (List (Str × (List (Str × Bool))))), F] : List (Asn G))) hy24 fun v25 H hS => ?_
        have hS : Sep H ([lstA v25 (y24 : (List Str)), dictE lstA p4 (ddrop v_self.piles s23.2 : (List (Int × (List Str)))), cell a_v_self (.ins (G.cl 2) dx1 [("goes_to", (.ref p2)), ("pile_of", (.ref p3)), ("piles", (.ref p4)), ("comes_from", (.ref p5)), ("made", (.int (v_self.made)))]), dictA p2 (v_self.goes_to : (List (Str × Str))), dictA p3 (v_self.pile_of : (List (Str × Int))), dictE dictA p5 (v_self.comes_from : (List (Str × (List (Str × Bool))))), F] : List (Asn G)) := hS
        refine fz_no ?_
        refine c_set (σ' := [some (.ref a_v_self), some (.int (s23.1)), some (.int (s23.2)), some (.ref v25), none]) rfl ?_
        refine sq_nx ?_
        refine f_seq ?_
        refine c_for ?_
        refine c_il ?_
        refine ev_to (ev_fz (ev_var rfl)) ?_
        refine k_il hS (i := 0) rfl ?_
        refine k_for (τ := (List (Str × Int))) (fun (s26 : (List (Str × Int))) (σ : L2.St) (H : Hp) => ∃ (w29 : Option V), σ = [some (.ref a_v_self), some (.int (s23.1)), some (.int (s23.2)), some (.ref v25), w29] ∧ Sep H ([lstA v25 (y24 : (List Str)), dictE lstA p4 (ddrop v_self.piles s23.2 : (List (Int × (List Str)))), cell a_v_self (.ins (G.cl 2) dx1 [("goes_to", (.ref p2)), ("pile_of", (.ref p3)), ("piles", (.ref p4)), ("comes_from", (.ref p5)), ("made", (.int (v_self.made)))]), dictA p2 (v_self.goes_to : (List (Str × Str))), dictA p3 (s26 : (List (Str × Int))), dictE dictA p5 (v_self.comes_from : (List (Str × (List (Str × Bool))))), F] : List (Asn G))) (im := (Im.im G)) (s := (v_self.pile_of)) (fun _ => wk_list fun _ _ ⟨_, _, h⟩ => h.sq (i := 0) rfl) ⟨_, rfl, hS.sel [0, 1, 2, 3, 4, 5, 6] (by decide) rfl⟩ hm (fun s26 x27 v28 σ H q N hI hx hm nx => ?_) (fun s26 σ H hm hI => ?_)
        ·
          obtain ⟨w29, rfl, hS⟩ := hI
          cases hx
          refine c_gN (σ' := [some (.ref a_v_self), some (.int (s23.1)), some (.int (s23.2)), some (.ref v25), some (.str (x27))]) rfl ?_
          refine c_asgS ?_
          refine ev_to (ev_var rfl) ?_
          refine ev_to (ev_fld (ev_var rfl) (hS.getCell (i := 2) rfl) T.cl_Threads T.n_Threads_pile_of rfl) ?_
          refine ev_to (ev_var rfl) ?_
          obtain ⟨h30, hm⟩ := R.wp_need hm
          refine k_setD (k := x27) (y := s23.1) hS (i := 4) rfl rfl h30 rfl fun H hS => ?_
          have hS : Sep H ([lstA v25 (y24 : (List Str)), dictE lstA p4 (ddrop v_self.piles s23.2 : (List (Int × (List Str)))), cell a_v_self (.ins (G.cl 2) dx1 [("goes_to", (.ref p2)), ("pile_of", (.ref p3)), ("piles", (.ref p4)), ("comes_from", (.ref p5)), ("made", (.int (v_self.made)))]), dictA p2 (v_self.goes_to : (List (Str × Str))), dictA p3 (dput s26 x27 s23.1 : (List (Str × Int))), dictE dictA p5 (v_self.comes_from : (List (Str × (List (Str × Bool))))), F] : List (Asn G)) := hS
          exact nx _ _ _ hm ⟨_, rfl, hS.sel [0, 1, 2, 3, 4, 5, 6] (by decide) rfl⟩
        · obtain ⟨w29, rfl, hS⟩ := hI
          refine sq_nx ?_
          obtain ⟨y31, hy31, hm⟩ := wp_dgetX hm
          obtain ⟨h32, hm⟩ := R.wp_need hm
          obtain ⟨h33, hm⟩ := R.wp_need hm
          refine k_daugE (k := s23.1) (hS.sel [1, 0, 2, 3, 4, 5, 6] (by decide) rfl : Sep _ (dictE lstA p4 (ddrop v_self.piles s23.2 : (List (Int × (List Str)))) :: lstA v25 (y24 : (List Str)) :: [cell a_v_self (.ins (G.cl 2) dx1 [("goes_to", (.ref p2)), ("pile_of", (.ref p3)), ("piles", (.ref p4)), ("comes_from", (.ref p5)), ("made", (.int (v_self.made)))]), dictA p2 (v_self.goes_to : (List (Str × Str))), dictA p3 (s26 : (List (Str × Int))), dictE dictA p5 (v_self.comes_from : (List (Str × (List (Str × Bool))))), F] : List (Asn G))) (ev_fld (ev_var rfl) (hS.getCell (i := 2) rfl) T.cl_Threads T.n_Threads_piles rfl) (ev_var rfl) (ev_fz (ev_var rfl)) hy31 h32 h33 fun H hS => ?_
          have hS : Sep H ([dictE lstA p4 (dput (ddrop v_self.piles s23.2) s23.1 (y31 ++ y24) : (List (Int × (List Str)))), lstA v25 (y24 : (List Str)), cell a_v_self (.ins (G.cl 2) dx1 [("goes_to", (.ref p2)), ("pile_of", (.ref p3)), ("piles", (.ref p4)), ("comes_from", (.ref p5)), ("made", (.int (v_self.made)))]), dictA p2 (v_self.goes_to : (List (Str × Str))), dictA p3 (s26 : (List (Str × Int))), dictE dictA p5 (v_self.comes_from : (List (Str × (List (Str × Bool))))), F] : List (Asn G)) := hS
          have hS : Sep H (ThreadsA a_v_self (⟨v_self.goes_to, s26, dput (ddrop v_self.piles s23.2) s23.1 (y31 ++ y24), v_self.comes_from, v_self.made⟩ : Threads) :: [lstA v25 (y24 : (List Str)), F] : List (Asn G)) := pack_Threads (hS.sel [2, 3, 4, 0, 5, 1, 6] (by decide) rfl)
          exact hm _ (hS.sel [0, 2] (by decide) rfl)
def sp_Threads_hang (G : Gx) : Sp := fun vs H Q E => ∃ (a_v_self : Addr) (v_self : Threads) (v_name : Str) (F : Asn G), vs = [.ref a_v_self, (.str (v_name))] ∧ Sep H ([ThreadsA a_v_self v_self, F] : List (Asn G)) ∧ R.wp (m_Threads_hang v_self v_name) (fun r => ∀ H', Sep H' ([ThreadsA a_v_self r, F] : List (Asn G)) → Q .non H') (fun _ => False)
abbrev N_Threads_hang : List Str := ["self", "name", "here"]
theorem sc_Threads_hang : FnScope N_Threads_hang ["self", "name"] (defScope s_Threads_hang) := ⟨rfl, rfl, rfl, by decide +kernel, rfl, by decide +kernel, by decide +kernel⟩
theorem ok_Threads_hang (T : Txt G mg) : FnOk P w G.K mg base CX0 2 T.a_Threads_hang T.fd_Threads_hang ["self", "name"] (sp_Threads_hang G) := by
  have nd := sc_Threads_hang.nd
  refine Fun.ok T.F_Threads_hang sc_Threads_hang (fun vs H Q E h => ?_) (fun cdv A outer s H vs Q E hr h => ?_)
  · obtain ⟨a_v_self, v_self, v_name, F, rfl, _⟩ := h; rfl
  · obtain ⟨a_v_self, v_self, v_name, F, rfl, hS, hm⟩ := h
    refine ⟨_, (pss_cons (ps_set (i := 2) nd rfl (Or.inl rfl) (pe_meth (pv 0) T.cl_Threads T.m_Threads_pile (ok_Threads_pile T) (hr.mono (by decide)) T.b_Threads_pile .nil pass0 (pa_cons (pv 1) pa_nil)))
      (pss_one (ps_if (pt_cmpR op_ne (pe_dget (hu_of hr) (pe_fld (pv 0) rfl) (pv 1) (fun _ _ => rfl)) pe_str (nomark _)) (pss_one (ps_expr (pe_meth (pv 0) T.cl_Threads T.m_Threads_put_together (ok_Threads_put_together T) (hr.mono (by decide)) T.b_Threads_put_together .nil pass0 (pa_cons (pv 2) (pa_cons (pe_meth (pv 0) T.cl_Threads T.m_Threads_pile (ok_Threads_pile T) (hr.mono (by decide)) T.b_Threads_pile .nil pass0 (pa_cons (pe_dget (hu_of hr) (pe_fld (pv 0) rfl) (pv 1) (fun _ _ => rfl)) pa_nil)) pa_nil))))) pss_nil))), ?_⟩
    unfold m_Threads_hang at hm
    have hS : Sep H (ThreadsA a_v_self v_self :: [F] : List (Asn G)) := hS.sel [0, 1] (by decide) rfl
    obtain ⟨dx1, p2, p3, p4, p5, hS⟩ := open_Threads hS
    have hS : Sep H ([cell a_v_self (.ins (G.cl 2) dx1 [("goes_to", (.ref p2)), ("pile_of", (.ref p3)), ("piles", (.ref p4)), ("comes_from", (.ref p5)), ("made", (.int (v_self.made)))]), dictA p2 (v_self.goes_to : (List (Str × Str))), dictA p3 (v_self.pile_of : (List (Str × Int))), dictE lstA p4 (v_self.piles : (List (Int × (List Str)))), dictE dictA p5 (v_self.comes_from : (List (Str × (List (Str × Bool))))), F] : List (Asn G)) := hS
    refine f_seq ?_
    refine c_asg ?_
    refine c_meth ?_
    refine ev_to (ev_var rfl) ?_
    refine ⟨_, _, _, rfl, (hS.getCell (i := 0) rfl), rfl, ?_⟩
    refine ea_to (ea_cons (ev_var rfl) ea_nil) ?_
    have hS : Sep H (ThreadsA a_v_self v_self :: [F] : List (Asn G)) := pack_Threads (hS.sel [0, 1, 2, 3, 4, 5] (by decide) rfl)
    refine ⟨a_v_self, (v_self : Threads), v_name, star [F], rfl, Sep.unstar (M := [ThreadsA a_v_self v_self]) (hS.sel [0, 1] (by decide) rfl : Sep H (([ThreadsA a_v_self v_self] ++ [F] : List (Asn G)))), R.wp_mono (R.wp_bind hm) (fun r6 hm H hS => ?_) (fun _ z => z)⟩
    have hS : Sep H ([ThreadsA a_v_self r6.2, F] : List (Asn G)) := Sep.star (M := [ThreadsA a_v_self r6.2]) hS
    have hS : Sep H (ThreadsA a_v_self r6.2 :: [F] : List (Asn G)) := hS.sel [0, 1] (by decide) rfl
    obtain ⟨dx7, p8, p9, p10, p11, hS⟩ := open_Threads hS
    have hS : Sep H ([cell a_v_self (.ins (G.cl 2) dx7 [("goes_to", (.ref p8)), ("pile_of", (.ref p9)), ("piles", (.ref p10)), ("comes_from", (.ref p11)), ("made", (.int (r6.2.made)))]), dictA p8 (r6.2.goes_to : (List (Str × Str))), dictA p9 (r6.2.pile_of : (List (Str × Int))), dictE lstA p10 (r6.2.piles : (List (Int × (List Str)))), dictE dictA p11 (r6.2.comes_from : (List (Str × (List (Str × Bool))))), F] : List (Asn G)) := hS
    refine c_set (σ' := [some (.ref a_v_self), some (.str (v_name)), some (.int (r6.1))]) rfl ?_
    refine sq_nx ?_
    refine f_if ?_
    obtain ⟨y12, hy12, hm⟩ := wp_dget hm
    obtain ⟨v13, g14, hv15⟩ := dget_some hS (i := 1) rfl hy12
    have hv15 : v13 = (.str (y12)) := hv15
    subst hv15
    refine et_to (et_test (ev_neS (ev_dget (y := y12) hS (i := 1) rfl (ev_fld (ev_var rfl) (hS.getCell (i := 0) rfl) T.cl_Threads T.n_Threads_goes_to rfl) (ev_var rfl) g14) ev_c)) ?_
    have hS : Sep H (ThreadsA a_v_self r6.2 :: [F] : List (Asn G)) := pack_Threads (hS.sel [0, 1, 2, 3, 4, 5] (by decide) rfl)
    refine ifK_J (τ := Threads) (fun (s16 : Threads) (σ : L2.St) (H : Hp) => σ = [some (.ref a_v_self), some (.str (v_name)), some (.int (r6.1))] ∧ Sep H ([ThreadsA a_v_self s16, F] : List (Asn G))) hm (fun hb q hm nx => ?_) (fun hb q hm nx => ?_) (fun s16 σ H hm hI => ?_)
    ·
      have hS : Sep H (ThreadsA a_v_self r6.2 :: [F] : List (Asn G)) := hS.sel [0, 1] (by decide) rfl
      obtain ⟨dx17, p18, p19, p20, p21, hS⟩ := open_Threads hS
      have hS : Sep H ([cell a_v_self (.ins (G.cl 2) dx17 [("goes_to", (.ref p18)), ("pile_of", (.ref p19)), ("piles", (.ref p20)), ("comes_from", (.ref p21)), ("made", (.int (r6.2.made)))]), dictA p18 (r6.2.goes_to : (List (Str × Str))), dictA p19 (r6.2.pile_of : (List (Str × Int))), dictE lstA p20 (r6.2.piles : (List (Int × (List Str)))), dictE dictA p21 (r6.2.comes_from : (List (Str × (List (Str × Bool))))), F] : List (Asn G)) := hS
      refine c_drop ?_
      refine c_meth ?_
      refine ev_to (ev_var rfl) ?_
      refine ⟨_, _, _, rfl, (hS.getCell (i := 0) rfl), rfl, ?_⟩
      refine c_cons ?_
      refine ev_to (ev_var rfl) ?_
      refine c_cons ?_
      refine c_meth ?_
      refine ev_to (ev_var rfl) ?_
      refine ⟨_, _, _, rfl, (hS.getCell (i := 0) rfl), rfl, ?_⟩
      obtain ⟨y22, hy22, hm⟩ := wp_dget hm
      obtain ⟨v23, g24, hv25⟩ := dget_some hS (i := 1) rfl hy22
      have hv25 : v23 = (.str (y22)) := hv25
      subst hv25
      refine ea_to (ea_cons (ev_dget (y := y22) hS (i := 1) rfl (ev_fld (ev_var rfl) (hS.getCell (i := 0) rfl) T.cl_Threads T.n_Threads_goes_to rfl) (ev_var rfl) g24) ea_nil) ?_
      have hS : Sep H (ThreadsA a_v_self r6.2 :: [F] : List (Asn G)) := pack_Threads (hS.sel [0, 1, 2, 3, 4, 5] (by decide) rfl)
      refine ⟨a_v_self, (r6.2 : Threads), y22, star [F], rfl, Sep.unstar (M := [ThreadsA a_v_self r6.2]) (hS.sel [0, 1] (by decide) rfl : Sep H (([ThreadsA a_v_self r6.2] ++ [F] : List (Asn G)))), R.wp_mono (R.wp_bind hm) (fun r26 hm H hS => ?_) (fun _ z => z)⟩
      have hS : Sep H ([ThreadsA a_v_self r26.2, F] : List (Asn G)) := Sep.star (M := [ThreadsA a_v_self r26.2]) hS
      have hS : Sep H (ThreadsA a_v_self r26.2 :: [F] : List (Asn G)) := hS.sel [0, 1] (by decide) rfl
      obtain ⟨dx27, p28, p29, p30, p31, hS⟩ := open_Threads hS
      have hS : Sep H ([cell a_v_self (.ins (G.cl 2) dx27 [("goes_to", (.ref p28)), ("pile_of", (.ref p29)), ("piles", (.ref p30)), ("comes_from", (.ref p31)), ("made", (.int (r26.2.made)))]), dictA p28 (r26.2.goes_to : (List (Str × Str))), dictA p29 (r26.2.pile_of : (List (Str × Int))), dictE lstA p30 (r26.2.piles : (List (Int × (List Str)))), dictE dictA p31 (r26.2.comes_from : (List (Str × (List (Str × Bool))))), F] : List (Asn G)) := hS
      refine c_nil ?_
      have hS : Sep H (ThreadsA a_v_self r26.2 :: [F] : List (Asn G)) := pack_Threads (hS.sel [0, 1, 2, 3, 4, 5] (by decide) rfl)
      refine ⟨a_v_self, (r26.2 : Threads), r6.1, r26.1, star [F], rfl, Sep.unstar (M := [ThreadsA a_v_self r26.2]) (hS.sel [0, 1] (by decide) rfl : Sep H (([ThreadsA a_v_self r26.2] ++ [F] : List (Asn G)))), R.wp_mono (R.wp_bind hm) (fun r32 hm H hS => ?_) (fun _ z => z)⟩
      have hS : Sep H ([ThreadsA a_v_self r32, F] : List (Asn G)) := Sep.star (M := [ThreadsA a_v_self r32]) hS
      have hS : Sep H (ThreadsA a_v_self r32 :: [F] : List (Asn G)) := hS.sel [0, 1] (by decide) rfl
      obtain ⟨dx33, p34, p35, p36, p37, hS⟩ := open_Threads hS
      have hS : Sep H ([cell a_v_self (.ins (G.cl 2) dx33 [("goes_to", (.ref p34)), ("pile_of", (.ref p35)), ("piles", (.ref p36)), ("comes_from", (.ref p37)), ("made", (.int (r32.made)))]), dictA p34 (r32.goes_to : (List (Str × Str))), dictA p35 (r32.pile_of : (List (Str × Int))), dictE lstA p36 (r32.piles : (List (Int × (List Str)))), dictE dictA p37 (r32.comes_from : (List (Str × (List (Str × Bool))))), F] : List (Asn G)) := hS
      have hS : Sep H (ThreadsA a_v_self r32 :: [F] : List (Asn G)) := pack_Threads (hS.sel [0, 1, 2, 3, 4, 5] (by decide) rfl)
      exact nx _ _ _ hm ⟨rfl, hS.sel [0, 1] (by decide) rfl⟩
    ·
      have hS : Sep H (ThreadsA a_v_self r6.2 :: [F] : List (Asn G)) := hS.sel [0, 1] (by decide) rfl
      obtain ⟨dx38, p39, p40, p41, p42, hS⟩ := open_Threads hS
      have hS : Sep H ([cell a_v_self (.ins (G.cl 2) dx38 [("goes_to", (.ref p39)), ("pile_of", (.ref p40)), ("piles", (.ref p41)), ("comes_from", (.ref p42)), ("made", (.int (r6.2.made)))]), dictA p39 (r6.2.goes_to : (List (Str × Str))), dictA p40 (r6.2.pile_of : (List (Str × Int))), dictE lstA p41 (r6.2.piles : (List (Int × (List Str)))), dictE dictA p42 (r6.2.comes_from : (List (Str × (List (Str × Bool))))), F] : List (Asn G)) := hS
      refine st_nx ?_
      have hS : Sep H (ThreadsA a_v_self r6.2 :: [F] : List (Asn G)) := pack_Threads (hS.sel [0, 1, 2, 3, 4, 5] (by decide) rfl)
      exact nx _ _ _ hm ⟨rfl, hS.sel [0, 1] (by decide) rfl⟩
    · obtain ⟨rfl, hS⟩ := hI
      have hS : Sep H (ThreadsA a_v_self s16 :: [F] : List (Asn G)) := hS.sel [0, 1] (by decide) rfl
      obtain ⟨dx43, p44, p45, p46, p47, hS⟩ := open_Threads hS
      have hS : Sep H ([cell a_v_self (.ins (G.cl 2) dx43 [("goes_to", (.ref p44)), ("pile_of", (.ref p45)), ("piles", (.ref p46)), ("comes_from", (.ref p47)), ("made", (.int (s16.made)))]), dictA p44 (s16.goes_to : (List (Str × Str))), dictA p45 (s16.pile_of : (List (Str × Int))), dictE lstA p46 (s16.piles : (List (Int × (List Str)))), dictE dictA p47 (s16.comes_from : (List (Str × (List (Str × Bool))))), F] : List (Asn G)) := hS
      have hS : Sep H (ThreadsA a_v_self s16 :: [F] : List (Asn G)) := pack_Threads (hS.sel [0, 1, 2, 3, 4, 5] (by decide) rfl)
      exact hm _ (hS.sel [0, 1] (by decide) rfl)
def sp_Threads_sure (G : Gx) : Sp := fun vs H Q E => ∃ (a_v_self : Addr) (v_self : Threads) (v_name : Str) (F : Asn G), vs = [.ref a_v_self, (.str (v_name))] ∧ Sep H ([ThreadsA a_v_self v_self, F] : List (Asn G)) ∧ R.wp (m_Threads_sure v_self v_name) (fun r => ∀ H', Sep H' ([ThreadsA a_v_self v_self, F] : List (Asn G)) → Q .non H') (fun x => ∀ H', Sep H' ([ThreadsA a_v_self v_self, F] : List (Asn G)) → Eok G x E H')
abbrev N_Threads_sure : List Str := ["self", "name"]
theorem sc_Threads_sure : FnScope N_Threads_sure ["self", "name"] (defScope s_Threads_sure) := ⟨rfl, rfl, rfl, by decide +kernel, rfl, by decide +kernel, by decide +kernel⟩
theorem ok_Threads_sure (T : Txt G mg) : FnOk P w G.K mg base (L2.CX P w) 1 T.a_Threads_sure T.fd_Threads_sure ["self", "name"] (sp_Threads_sure G) := by
  have nd := sc_Threads_sure.nd
  refine Fun.okX T.F_Threads_sure sc_Threads_sure (fun vs H Q E h => ?_) (fun cdv A outer s H vs Q E hr h => ?_)
  · obtain ⟨a_v_self, v_self, v_name, F, rfl, _⟩ := h; rfl
  · obtain ⟨a_v_self, v_self, v_name, F, rfl, hS, hm⟩ := h
    refine ⟨_, (pss_one (ps_if (pt_cmp (pc_dnotin (hu_of hr) (pv 1) (pe_fld (pv 0) rfl))) (pss_one (ps_raise rfl (takes_of rfl rfl rfl rfl) (SkE.pmk_own1 PySem.F.excBase_ValueError T.x_NoName T.g_NoName T.kp_NoName (T.r_NoName rfl) rfl (pe_joined (.cons (pe_fmt (pv 1)) (.cons pe_str .nil)))))) pss_nil)), ?_⟩
    unfold m_Threads_sure at hm
    have hS : Sep H (ThreadsA a_v_self v_self :: [F] : List (Asn G)) := hS.sel [0, 1] (by decide) rfl
    obtain ⟨dx1, p2, p3, p4, p5, hS⟩ := open_Threads hS
    have hS : Sep H ([cell a_v_self (.ins (G.cl 2) dx1 [("goes_to", (.ref p2)), ("pile_of", (.ref p3)), ("piles", (.ref p4)), ("comes_from", (.ref p5)), ("made", (.int (v_self.made)))]), dictA p2 (v_self.goes_to : (List (Str × Str))), dictA p3 (v_self.pile_of : (List (Str × Int))), dictE lstA p4 (v_self.piles : (List (Int × (List Str)))), dictE dictA p5 (v_self.comes_from : (List (Str × (List (Str × Bool))))), F] : List (Asn G)) := hS
    refine f_if ?_
    refine et_to (et_B (ev_dnotin hS (i := 1) (k := v_name) rfl (ev_var rfl) (ev_fld (ev_var rfl) (hS.getCell (i := 0) rfl) T.cl_Threads T.n_Threads_goes_to rfl))) ?_
    refine ifK_2 (fun hb6 => ?_) (fun hb6 => ?_)
    · have hm := R.wp_ifY hm hb6
      obtain ⟨h7, hm⟩ := R.wp_need hm
      obtain ⟨h8, hm⟩ := R.wp_need hm
      refine f_fs (ev_var rfl) h7 h8 ?_
      revert hm; refine R.need_rev fun h9 hm => ?_
      refine f_fc ev_c h9 ?_
      refine f_je ?_
      have hS : Sep H (ThreadsA a_v_self v_self :: [F] : List (Asn G)) := pack_Threads (hS.sel [0, 1, 2, 3, 4, 5] (by decide) rfl)
      exact hm _ (hS.sel [0, 1] (by decide) rfl)
    · have hm := R.wp_ifN hm (by first | (rw [hb6]; decide) | simpa using hb6)
      refine st_nx ?_
      have hS : Sep H (ThreadsA a_v_self v_self :: [F] : List (Asn G)) := pack_Threads (hS.sel [0, 1, 2, 3, 4, 5] (by decide) rfl)
      exact hm _ (hS.sel [0, 1] (by decide) rfl)
def sp_Threads_add (G : Gx) : Sp := fun vs H Q E => ∃ (a_v_self : Addr) (v_self : Threads) (v_name : Str) (v_answers : Str) (F : Asn G), vs = [.ref a_v_self, (.str (v_name)), (.str (v_answers))] ∧ Sep H ([ThreadsA a_v_self v_self, F] : List (Asn G)) ∧ R.wp (m_Threads_add v_self v_name v_answers) (fun r => ∀ H', Sep H' ([ThreadsA a_v_self r, F] : List (Asn G)) → Q .non H') (fun x => ∀ H', Sep H' ([ThreadsA a_v_self v_self, F] : List (Asn G)) → Eok G x E H')
abbrev N_Threads_add : List Str := ["self", "name", "answers"]
theorem sc_Threads_add : FnScope N_Threads_add ["self", "name", "answers"] (defScope s_Threads_add) := ⟨rfl, rfl, rfl, by decide +kernel, rfl, by decide +kernel, by decide +kernel⟩
theorem ok_Threads_add (T : Txt G mg) : FnOk P w G.K mg base (L2.CX P w) 3 T.a_Threads_add T.fd_Threads_add ["self", "name", "answers"] (sp_Threads_add G) := by
  have nd := sc_Threads_add.nd
  refine FunD.ok T.F_Threads_add sc_Threads_add (fun vs H Q E h => ?_) (fun cdv A outer s H vs Q E hr h => ?_)
  · obtain ⟨a_v_self, v_self, v_name, v_answers, F, rfl, _⟩ := h; rfl
  · obtain ⟨a_v_self, v_self, v_name, v_answers, F, rfl, hS, hm⟩ := h
    refine ⟨_, (pss_cons (ps_if (pt_cmp (pc_din (hu_of hr) (pv 1) (pe_fld (pv 0) rfl))) (pss_one (ps_raise rfl (takes_of rfl rfl rfl rfl) (SkE.pmk_own1 PySem.F.excBase_ValueError T.x_NoName T.g_NoName T.kp_NoName (T.r_NoName rfl) rfl (pe_joined (.cons (pe_fmt (pv 1)) (.cons pe_str .nil)))))) pss_nil)
      (pss_cons (ps_asg (pv 2) (pg_sub (pe_fld (pv 0) rfl) (pv 1) (set_dict (hu_of hr))))
      (pss_cons (ps_asg pe_bl (pg_sub (pe_dsetd (pe_fld (pv 0) rfl) (pv 2) pe_dnewK m2) (pv 1) (set_dict (hu_of hr))))
      (pss_one (ps_expr (pe_meth (pv 0) T.cl_Threads T.m_Threads_hang (ok_Threads_hang T) (hr.mono (by decide)) T.b_Threads_hang .nil pass0 (pa_cons (pv 1) pa_nil))))))), ?_⟩
    unfold m_Threads_add at hm
    have hS : Sep H (ThreadsA a_v_self v_self :: [F] : List (Asn G)) := hS.sel [0, 1] (by decide) rfl
    obtain ⟨dx1, p2, p3, p4, p5, hS⟩ := open_Threads hS
    have hS : Sep H ([cell a_v_self (.ins (G.cl 2) dx1 [("goes_to", (.ref p2)), ("pile_of", (.ref p3)), ("piles", (.ref p4)), ("comes_from", (.ref p5)), ("made", (.int (v_self.made)))]), dictA p2 (v_self.goes_to : (List (Str × Str))), dictA p3 (v_self.pile_of : (List (Str × Int))), dictE lstA p4 (v_self.piles : (List (Int × (List Str)))), dictE dictA p5 (v_self.comes_from : (List (Str × (List (Str × Bool))))), F] : List (Asn G)) := hS
    refine f_seq ?_
    refine f_if ?_
    refine et_to (et_B (ev_din hS (i := 1) (k := v_name) rfl (ev_var rfl) (ev_fld (ev_var rfl) (hS.getCell (i := 0) rfl) T.cl_Threads T.n_Threads_goes_to rfl))) ?_
    refine ifK_2 (fun hb6 => ?_) (fun hb6 => ?_)
    · have hm := R.wp_ifY hm hb6
      obtain ⟨h7, hm⟩ := R.wp_need hm
      obtain ⟨h8, hm⟩ := R.wp_need hm
      refine f_fs (ev_var rfl) h7 h8 ?_
      revert hm; refine R.need_rev fun h9 hm => ?_
      refine f_fc ev_c h9 ?_
      refine f_je ?_
      have hS : Sep H (ThreadsA a_v_self v_self :: [F] : List (Asn G)) := pack_Threads (hS.sel [0, 1, 2, 3, 4, 5] (by decide) rfl)
      exact hm _ (hS.sel [0, 1] (by decide) rfl)
    · have hm := R.wp_ifN hm (by first | (rw [hb6]; decide) | simpa using hb6)
      refine st_nx ?_
      refine sq_nx ?_
      refine f_seq ?_
      refine c_asgS ?_
      refine ev_to (ev_var rfl) ?_
      refine ev_to (ev_fld (ev_var rfl) (hS.getCell (i := 0) rfl) T.cl_Threads T.n_Threads_goes_to rfl) ?_
      refine ev_to (ev_var rfl) ?_
      obtain ⟨h10, hm⟩ := R.wp_need hm
      refine k_setD (k := v_name) (y := v_answers) hS (i := 1) rfl rfl h10 rfl fun H hS => ?_
      have hS : Sep H ([cell a_v_self (.ins (G.cl 2) dx1 [("goes_to", (.ref p2)), ("pile_of", (.ref p3)), ("piles", (.ref p4)), ("comes_from", (.ref p5)), ("made", (.int (v_self.made)))]), dictA p2 (dput v_self.goes_to v_name v_answers : (List (Str × Str))), dictA p3 (v_self.pile_of : (List (Str × Int))), dictE lstA p4 (v_self.piles : (List (Int × (List Str)))), dictE dictA p5 (v_self.comes_from : (List (Str × (List (Str × Bool))))), F] : List (Asn G)) := hS
      refine sq_nx ?_
      refine f_seq ?_
      refine c_asgS ?_
      refine ev_to ev_c ?_
      refine c_dsetd ?_
      refine ev_to (ev_fld (ev_var rfl) (hS.getCell (i := 0) rfl) T.cl_Threads T.n_Threads_comes_from rfl) ?_
      refine k_setda (isD_Ei hS (i := 4) rfl) ?_
      refine ev_to (ev_var rfl) ?_
      refine k_setdb ?_
      refine k_dnew (κ := Str) (β := Bool) hS fun p11 H hS => ?_
      obtain ⟨h13, hm⟩ := R.wp_need hm
      refine k_setdE3 (k := v_answers) (hS.sel [5, 0, 1, 2, 3, 4, 6] (by decide) rfl : Sep _ (dictE dictA p5 (v_self.comes_from : (List (Str × (List (Str × Bool))))) :: dictA p11 (([] : (List (Str × Bool))) : (List (Str × Bool))) :: [cell a_v_self (.ins (G.cl 2) dx1 [("goes_to", (.ref p2)), ("pile_of", (.ref p3)), ("piles", (.ref p4)), ("comes_from", (.ref p5)), ("made", (.int (v_self.made)))]), dictA p2 (dput v_self.goes_to v_name v_answers : (List (Str × Str))), dictA p3 (v_self.pile_of : (List (Str × Int))), dictE lstA p4 (v_self.piles : (List (Int × (List Str)))), F] : List (Asn G))) h13 fun ps14 p15 j16 H hl17 hj18 hp19 hS => ?_
      have hS : Sep H ([dictA p15 ((dget v_self.comes_from v_answers).getD ([] : (List (Str × Bool))) : (List (Str × Bool))), dictXH id dictA p5 ps14 (setE v_self.comes_from v_answers ([] : (List (Str × Bool))) : (List (Str × (List (Str × Bool))))) j16, cell a_v_self (.ins (G.cl 2) dx1 [("goes_to", (.ref p2)), ("pile_of", (.ref p3)), ("piles", (.ref p4)), ("comes_from", (.ref p5)), ("made", (.int (v_self.made)))]), dictA p2 (dput v_self.goes_to v_name v_answers : (List (Str × Str))), dictA p3 (v_self.pile_of : (List (Str × Int))), dictE lstA p4 (v_self.piles : (List (Int × (List Str)))), F] : List (Asn G)) := hS
      refine ev_to (ev_var rfl) ?_
      obtain ⟨h20, hm⟩ := R.wp_need hm
      refine k_setD (k := v_name) (y := true) hS (i := 0) rfl rfl h20 rfl fun H hS => ?_
      have hS : Sep H ([dictA p15 (dput ((dget v_self.comes_from v_answers).getD ([] : (List (Str × Bool)))) v_name true : (List (Str × Bool))), dictXH id dictA p5 ps14 (setE v_self.comes_from v_answers ([] : (List (Str × Bool))) : (List (Str × (List (Str × Bool))))) j16, cell a_v_self (.ins (G.cl 2) dx1 [("goes_to", (.ref p2)), ("pile_of", (.ref p3)), ("piles", (.ref p4)), ("comes_from", (.ref p5)), ("made", (.int (v_self.made)))]), dictA p2 (dput v_self.goes_to v_name v_answers : (List (Str × Str))), dictA p3 (v_self.pile_of : (List (Str × Int))), dictE lstA p4 (v_self.piles : (List (Int × (List Str)))), F] : List (Asn G)) := hS
      have hS : Sep H ([dictE dictA p5 (dput (setE v_self.comes_from v_answers ([] : (List (Str × Bool)))) v_answers (dput ((dget v_self.comes_from v_answers).getD ([] : (List (Str × Bool)))) v_name true) : (List (Str × (List (Str × Bool))))), cell a_v_self (.ins (G.cl 2) dx1 [("goes_to", (.ref p2)), ("pile_of", (.ref p3)), ("piles", (.ref p4)), ("comes_from", (.ref p5)), ("made", (.int (v_self.made)))]), dictA p2 (dput v_self.goes_to v_name v_answers : (List (Str × Str))), dictA p3 (v_self.pile_of : (List (Str × Int))), dictE lstA p4 (v_self.piles : (List (Int × (List Str)))), F] : List (Asn G)) := unfocDE (z := (dput ((dget v_self.comes_from v_answers).getD ([] : (List (Str × Bool)))) v_name true : (List (Str × Bool)))) hl17 hj18 hp19 (hS.sel [0, 1, 2, 3, 4, 5, 6] (by decide) rfl)
      refine sq_nx ?_
      refine c_drop ?_
      refine c_meth ?_
      refine ev_to (ev_var rfl) ?_
      refine ⟨_, _, _, rfl, (hS.getCell (i := 1) rfl), rfl, ?_⟩
      refine ea_to (ea_cons (ev_var rfl) ea_nil) ?_
      have hS : Sep H (ThreadsA a_v_self (⟨dput v_self.goes_to v_name v_answers, v_self.pile_of, v_self.piles, dput (setE v_self.comes_from v_answers ([] : (List (Str × Bool)))) v_answers (dput ((dget v_self.comes_from v_answers).getD ([] : (List (Str × Bool)))) v_name true), v_self.made⟩ : Threads) :: [F] : List (Asn G)) := pack_Threads (hS.sel [1, 2, 3, 4, 0, 5] (by decide) rfl)
      refine ⟨a_v_self, ((⟨dput v_self.goes_to v_name v_answers, v_self.pile_of, v_self.piles, dput (setE v_self.comes_from v_answers ([] : (List (Str × Bool)))) v_answers (dput ((dget v_self.comes_from v_answers).getD ([] : (List (Str × Bool)))) v_name true), v_self.made⟩ : Threads) : Threads), v_name, star [F], rfl, Sep.unstar (M := [ThreadsA a_v_self (⟨dput v_self.goes_to v_name v_answers, v_self.pile_of, v_self.piles, dput (setE v_self.comes_from v_answers ([] : (List (Str × Bool)))) v_answers (dput ((dget v_self.comes_from v_answers).getD ([] : (List (Str × Bool)))) v_name true), v_self.made⟩ : Threads)]) (hS.sel [0, 1] (by decide) rfl : Sep H (([ThreadsA a_v_self (⟨dput v_self.goes_to v_name v_answers, v_self.pile_of, v_self.piles, dput (setE v_self.comes_from v_answers ([] : (List (Str × Bool)))) v_answers (dput ((dget v_self.comes_from v_answers).getD ([] : (List (Str × Bool)))) v_name true), v_self.made⟩ : Threads)] ++ [F] : List (Asn G)))), R.wp_mono (R.wp_noexc hm) (fun r21 hm H hS => ?_) (fun _ z => z)⟩
      have hS : Sep H ([ThreadsA a_v_self r21, F] : List (Asn G)) := Sep.star (M := [ThreadsA a_v_self r21]) hS
      have hS : Sep H (ThreadsA a_v_self r21 :: [F] : List (Asn G)) := hS.sel [0, 1] (by decide) rfl
      obtain ⟨dx22, p23, p24, p25, p26, hS⟩ := open_Threads hS
      have hS : Sep H ([cell a_v_self (.ins (G.cl 2) dx22 [("goes_to", (.ref p23)), ("pile_of", (.ref p24)), ("piles", (.ref p25)), ("comes_from", (.ref p26)), ("made", (.int (r21.made)))]), dictA p23 (r21.goes_to : (List (Str × Str))), dictA p24 (r21.pile_of : (List (Str × Int))), dictE lstA p25 (r21.piles : (List (Int × (List Str)))), dictE dictA p26 (r21.comes_from : (List (Str × (List (Str × Bool))))), F] : List (Asn G)) := hS
      have hS : Sep H (ThreadsA a_v_self r21 :: [F] : List (Asn G)) := pack_Threads (hS.sel [0, 1, 2, 3, 4, 5] (by decide) rfl)
      exact hm _ (hS.sel [0, 1] (by decide) rfl)
def sp_Threads_take_out (G : Gx) : Sp := fun vs H Q E => ∃ (a_v_self : Addr) (v_self : Threads) (v_name : Str) (F : Asn G), vs = [.ref a_v_self, (.str (v_name))] ∧ Sep H ([ThreadsA a_v_self v_self, F] : List (Asn G)) ∧ R.wp (m_Threads_take_out v_self v_name) (fun r => ∀ H', Sep H' ([ThreadsA a_v_self r, F] : List (Asn G)) → Q .non H') (fun x => ∀ H', Sep H' ([ThreadsA a_v_self v_self, F] : List (Asn G)) → Eok G x E H')
abbrev N_Threads_take_out : List Str := ["self", "name", "answers", "old", "one"]
theorem sc_Threads_take_out : FnScope N_Threads_take_out ["self", "name"] (defScope s_Threads_take_out) := ⟨rfl, rfl, rfl, by decide +kernel, rfl, by decide +kernel, by decide +kernel⟩
theorem ok_Threads_take_out (T : Txt G mg) : FnOk P w G.K mg base (L2.CX P w) 3 T.a_Threads_take_out T.fd_Threads_take_out ["self", "name"] (sp_Threads_take_out G) := by
  have nd := sc_Threads_take_out.nd
  refine Fun.okX T.F_Threads_take_out sc_Threads_take_out (fun vs H Q E h => ?_) (fun cdv A outer s H vs Q E hr h => ?_)
  · obtain ⟨a_v_self, v_self, v_name, F, rfl, _⟩ := h; rfl
  · obtain ⟨a_v_self, v_self, v_name, F, rfl, hS, hm⟩ := h
    refine ⟨_, (pss_cons (ps_expr (pe_meth (pv 0) T.cl_Threads T.m_Threads_sure (ok_Threads_sure T) (hr.mono (by decide)) T.b_Threads_sure .nil (passes_call (takes_of rfl rfl rfl rfl) (fun _ _ _ _ h => h)) (pa_cons (pv 1) pa_nil)))
      (pss_cons (ps_set (i := 2) nd rfl (Or.inl rfl) (pe_dpop1 (pe_fld (pv 0) rfl) (pv 1) m1))
      (pss_cons (ps_expr (pe_dpop1 (pe_dget (hu_of hr) (pe_fld (pv 0) rfl) (pv 2) (fun _ _ => rfl)) (pv 1) m1))
      (pss_cons (ps_if (pt_cmpR op_eq (pe_callB call_lenD (by rfl) T.z_len PySem.boot_len (pa_cons (pe_dget (hu_of hr) (pe_fld (pv 0) rfl) (pv 2) (fun _ _ => rfl)) pa_nil)) pe_int (nomark _)) (pss_one (ps_expr (pe_dpop1 (pe_fld (pv 0) rfl) (pv 2) m1))) pss_nil)
      (pss_cons (ps_set (i := 3) nd rfl (Or.inl rfl) (pe_fz (pe_dpop1 (pe_fld (pv 0) rfl) (pe_dget (hu_of hr) (pe_fld (pv 0) rfl) (pv 1) (fun _ _ => rfl)) m1)))
      (pss_cons (ps_for (passes_of rfl) rfl (pi_listK G.K (pe_fz (pv 3))) (pg_name (i := 4) nd rfl (Or.inl rfl)) (pss_one (ps_expr (pe_dpop1 (pe_fld (pv 0) rfl) (pv 4) m1))))
      (pss_one (ps_for (passes_of rfl) rfl (pi_listK G.K (pe_fz (pv 3))) (pg_name (i := 4) nd rfl (Or.inl rfl)) (pss_one (ps_if (pt_cmp (pc_din (hu_of hr) (pv 4) (pe_fld (pv 0) rfl))) (pss_one (ps_expr (pe_meth (pv 0) T.cl_Threads T.m_Threads_hang (ok_Threads_hang T) (hr.mono (by decide)) T.b_Threads_hang .nil pass0 (pa_cons (pv 4) pa_nil)))) pss_nil)))))))))), ?_⟩
    unfold m_Threads_take_out at hm
    have hS : Sep H (ThreadsA a_v_self v_self :: [F] : List (Asn G)) := hS.sel [0, 1] (by decide) rfl
    obtain ⟨dx1, p2, p3, p4, p5, hS⟩ := open_Threads hS
    have hS : Sep H ([cell a_v_self (.ins (G.cl 2) dx1 [("goes_to", (.ref p2)), ("pile_of", (.ref p3)), ("piles", (.ref p4)), ("comes_from", (.ref p5)), ("made", (.int (v_self.made)))]), dictA p2 (v_self.goes_to : (List (Str × Str))), dictA p3 (v_self.pile_of : (List (Str × Int))), dictE lstA p4 (v_self.piles : (List (Int × (List Str)))), dictE dictA p5 (v_self.comes_from : (List (Str × (List (Str × Bool))))), F] : List (Asn G)) := hS
    refine f_seq ?_
    refine c_drop ?_
    refine c_meth ?_
    refine ev_to (ev_var rfl) ?_
    refine ⟨_, _, _, rfl, (hS.getCell (i := 0) rfl), rfl, ?_⟩
    refine ea_to (ea_cons (ev_var rfl) ea_nil) ?_
    have hS : Sep H (ThreadsA a_v_self v_self :: [F] : List (Asn G)) := pack_Threads (hS.sel [0, 1, 2, 3, 4, 5] (by decide) rfl)
    refine ⟨a_v_self, (v_self : Threads), v_name, star [F], rfl, Sep.unstar (M := [ThreadsA a_v_self v_self]) (hS.sel [0, 1] (by decide) rfl : Sep H (([ThreadsA a_v_self v_self] ++ [F] : List (Asn G)))), R.wp_mono (R.wp_bind hm) (fun r6 hm H hS => ?_) (fun x hx H hS => ?_)⟩
    ·
      have hS : Sep H ([ThreadsA a_v_self v_self, F] : List (Asn G)) := Sep.star (M := [ThreadsA a_v_self v_self]) hS
      have hS : Sep H (ThreadsA a_v_self v_self :: [F] : List (Asn G)) := hS.sel [0, 1] (by decide) rfl
      obtain ⟨dx7, p8, p9, p10, p11, hS⟩ := open_Threads hS
      have hS : Sep H ([cell a_v_self (.ins (G.cl 2) dx7 [("goes_to", (.ref p8)), ("pile_of", (.ref p9)), ("piles", (.ref p10)), ("comes_from", (.ref p11)), ("made", (.int (v_self.made)))]), dictA p8 (v_self.goes_to : (List (Str × Str))), dictA p9 (v_self.pile_of : (List (Str × Int))), dictE lstA p10 (v_self.piles : (List (Int × (List Str)))), dictE dictA p11 (v_self.comes_from : (List (Str × (List (Str × Bool))))), F] : List (Asn G)) := hS
      refine sq_nx ?_
      refine f_seq ?_
      refine c_asg ?_
      refine c_dpop1 ?_
      refine ev_to (ev_fld (ev_var rfl) (hS.getCell (i := 0) rfl) T.cl_Threads T.n_Threads_goes_to rfl) ?_
      refine k_pop1a (isD_of hS (i := 1) rfl) ?_
      refine ev_to (ev_var rfl) ?_
      obtain ⟨y12, hy12, hm⟩ := wp_dgetX hm
      refine k_pop1A (k := v_name) hS (i := 1) rfl hy12 rfl fun v13 H hS => ?_
      obtain rfl : v13 = (.str (y12)) := hS.im (i := 0) rfl
      have hS := hS.tail
      have hS : Sep H ([cell a_v_self (.ins (G.cl 2) dx7 [("goes_to", (.ref p8)), ("pile_of", (.ref p9)), ("piles", (.ref p10)), ("comes_from", (.ref p11)), ("made", (.int (v_self.made)))]), dictA p8 (ddrop v_self.goes_to v_name : (List (Str × Str))), dictA p9 (v_self.pile_of : (List (Str × Int))), dictE lstA p10 (v_self.piles : (List (Int × (List Str)))), dictE dictA p11 (v_self.comes_from : (List (Str × (List (Str × Bool))))), F] : List (Asn G)) := hS
      refine c_set (σ' := [some (.ref a_v_self), some (.str (v_name)), some (.str (y12)), none, none]) rfl ?_
      refine sq_nx ?_
      refine f_seq ?_
      refine c_drop ?_
      refine c_dpop1 ?_
      refine c_dget ?_
      refine ev_to (ev_fld (ev_var rfl) (hS.getCell (i := 0) rfl) T.cl_Threads T.n_Threads_comes_from rfl) ?_
      refine k_dget1 ?_
      refine ev_to (ev_var rfl) ?_
      obtain ⟨x14, h15, hm⟩ := wp_dgetX hm
      refine k_dgetE (y := (x14 : (List (Str × Bool)))) (hS.sel [4, 0, 1, 2, 3, 5] (by decide) rfl : Sep _ (dictE dictA p11 (v_self.comes_from : (List (Str × (List (Str × Bool))))) :: [cell a_v_self (.ins (G.cl 2) dx7 [("goes_to", (.ref p8)), ("pile_of", (.ref p9)), ("piles", (.ref p10)), ("comes_from", (.ref p11)), ("made", (.int (v_self.made)))]), dictA p8 (ddrop v_self.goes_to v_name : (List (Str × Str))), dictA p9 (v_self.pile_of : (List (Str × Int))), dictE lstA p10 (v_self.piles : (List (Int × (List Str)))), F] : List (Asn G))) h15 fun ps16 p17 j18 hl19 hj20 hp21 hS => ?_
      have hS : Sep H ([dictA p17 (x14 : (List (Str × Bool))), dictXH id dictA p11 ps16 (v_self.comes_from : (List (Str × (List (Str × Bool))))) j18, cell a_v_self (.ins (G.cl 2) dx7 [("goes_to", (.ref p8)), ("pile_of", (.ref p9)), ("piles", (.ref p10)), ("comes_from", (.ref p11)), ("made", (.int (v_self.made)))]), dictA p8 (ddrop v_self.goes_to v_name : (List (Str × Str))), dictA p9 (v_self.pile_of : (List (Str × Int))), dictE lstA p10 (v_self.piles : (List (Int × (List Str)))), F] : List (Asn G)) := hS
      refine k_pop1a (isD_of hS (i := 0) rfl) ?_
      refine ev_to (ev_var rfl) ?_
      obtain ⟨y22, hy22, hm⟩ := wp_dgetX hm
      refine k_pop1A (k := v_name) hS (i := 0) rfl hy22 rfl fun v23 H hS => ?_
      obtain rfl : v23 = (.bl (y22)) := hS.im (i := 0) rfl
      have hS := hS.tail
      have hS : Sep H ([dictA p17 (ddrop x14 v_name : (List (Str × Bool))), dictXH id dictA p11 ps16 (v_self.comes_from : (List (Str × (List (Str × Bool))))) j18, cell a_v_self (.ins (G.cl 2) dx7 [("goes_to", (.ref p8)), ("pile_of", (.ref p9)), ("piles", (.ref p10)), ("comes_from", (.ref p11)), ("made", (.int (v_self.made)))]), dictA p8 (ddrop v_self.goes_to v_name : (List (Str × Str))), dictA p9 (v_self.pile_of : (List (Str × Int))), dictE lstA p10 (v_self.piles : (List (Int × (List Str)))), F] : List (Asn G)) := hS
      have hS : Sep H ([dictE dictA p11 (dput v_self.comes_from y12 (ddrop x14 v_name) : (List (Str × (List (Str × Bool))))), cell a_v_self (.ins (G.cl 2) dx7 [("goes_to", (.ref p8)), ("pile_of", (.ref p9)), ("piles", (.ref p10)), ("comes_from", (.ref p11)), ("made", (.int (v_self.made)))]), dictA p8 (ddrop v_self.goes_to v_name : (List (Str × Str))), dictA p9 (v_self.pile_of : (List (Str × Int))), dictE lstA p10 (v_self.piles : (List (Int × (List Str)))), F] : List (Asn G)) := unfocDE (z := (ddrop x14 v_name : (List (Str × Bool)))) hl19 hj20 hp21 (hS.sel [0, 1, 2, 3, 4, 5, 6] (by decide) rfl)
      refine sq_nx ?_
      refine f_seq ?_
      refine f_if ?_
      refine f_test ?_
      refine c_op ?_
      refine c_cb ?_
      refine c_cons ?_
      refine c_dget ?_
      refine ev_to (ev_fld (ev_var rfl) (hS.getCell (i := 1) rfl) T.cl_Threads T.n_Threads_comes_from rfl) ?_
      refine k_dget1 ?_
      refine ev_to (ev_var rfl) ?_
      obtain ⟨x24, h25, hm⟩ := wp_dgetX hm
      refine k_dgetE (y := (x24 : (List (Str × Bool)))) (hS.sel [0, 1, 2, 3, 4, 5] (by decide) rfl : Sep _ (dictE dictA p11 (dput v_self.comes_from y12 (ddrop x14 v_name) : (List (Str × (List (Str × Bool))))) :: [cell a_v_self (.ins (G.cl 2) dx7 [("goes_to", (.ref p8)), ("pile_of", (.ref p9)), ("piles", (.ref p10)), ("comes_from", (.ref p11)), ("made", (.int (v_self.made)))]), dictA p8 (ddrop v_self.goes_to v_name : (List (Str × Str))), dictA p9 (v_self.pile_of : (List (Str × Int))), dictE lstA p10 (v_self.piles : (List (Int × (List Str)))), F] : List (Asn G))) h25 fun ps26 p27 j28 hl29 hj30 hp31 hS => ?_
      have hS : Sep H ([dictA p27 (x24 : (List (Str × Bool))), dictXH id dictA p11 ps26 (dput v_self.comes_from y12 (ddrop x14 v_name) : (List (Str × (List (Str × Bool))))) j28, cell a_v_self (.ins (G.cl 2) dx7 [("goes_to", (.ref p8)), ("pile_of", (.ref p9)), ("piles", (.ref p10)), ("comes_from", (.ref p11)), ("made", (.int (v_self.made)))]), dictA p8 (ddrop v_self.goes_to v_name : (List (Str × Str))), dictA p9 (v_self.pile_of : (List (Str × Int))), dictE lstA p10 (v_self.piles : (List (Int × (List Str)))), F] : List (Asn G)) := hS
      refine c_nil ?_
      obtain ⟨ps32, hp33, hl34⟩ := lenD_at hS (i := 0) rfl
      refine ⟨_, ps32, rfl, hp33, ?_⟩
      rw [hl34]
      have hS : Sep H ([dictE dictA p11 (dput v_self.comes_from y12 (ddrop x14 v_name) : (List (Str × (List (Str × Bool))))), cell a_v_self (.ins (G.cl 2) dx7 [("goes_to", (.ref p8)), ("pile_of", (.ref p9)), ("piles", (.ref p10)), ("comes_from", (.ref p11)), ("made", (.int (v_self.made)))]), dictA p8 (ddrop v_self.goes_to v_name : (List (Str × Str))), dictA p9 (v_self.pile_of : (List (Str × Int))), dictE lstA p10 (v_self.piles : (List (Int × (List Str)))), F] : List (Asn G)) := unfocDE0 hl29 hj30 hp31 (hS.sel [0, 1, 2, 3, 4, 5, 6] (by decide) rfl)
      refine ev_to ev_c ?_
      refine ev_op2 (ev_eqI ev_c ev_c) ?_
      refine f_bl ?_
      refine ifK_J (τ := (List (Str × (List (Str × Bool))))) (fun (s35 : (List (Str × (List (Str × Bool))))) (σ : L2.St) (H : Hp) => σ = [some (.ref a_v_self), some (.str (v_name)), some (.str (y12)), none, none] ∧ Sep H ([dictE dictA p11 (s35 : (List (Str × (List (Str × Bool))))), cell a_v_self (.ins (G.cl 2) dx7 [("goes_to", (.ref p8)), ("pile_of", (.ref p9)), ("piles", (.ref p10)), ("comes_from", (.ref p11)), ("made", (.int (v_self.made)))]), dictA p8 (ddrop v_self.goes_to v_name : (List (Str × Str))), dictA p9 (v_self.pile_of : (List (Str × Int))), dictE lstA p10 (v_self.piles : (List (Int × (List Str)))), F] : List (Asn G))) hm (fun hb q hm nx => ?_) (fun hb q hm nx => ?_) (fun s35 σ H hm hI => ?_)
      ·
        refine c_drop ?_
        refine c_dpop1 ?_
        refine ev_to (ev_fld (ev_var rfl) (hS.getCell (i := 1) rfl) T.cl_Threads T.n_Threads_comes_from rfl) ?_
        refine k_pop1a (isD_Ei hS (i := 0) rfl) ?_
        refine ev_to (ev_var rfl) ?_
        obtain ⟨y36, hy36, hm⟩ := wp_dgetX hm
        refine k_pop1E (hS.sel [0, 1, 2, 3, 4, 5] (by decide) rfl : Sep _ (dictE dictA p11 (dput v_self.comes_from y12 (ddrop x14 v_name) : (List (Str × (List (Str × Bool))))) :: [cell a_v_self (.ins (G.cl 2) dx7 [("goes_to", (.ref p8)), ("pile_of", (.ref p9)), ("piles", (.ref p10)), ("comes_from", (.ref p11)), ("made", (.int (v_self.made)))]), dictA p8 (ddrop v_self.goes_to v_name : (List (Str × Str))), dictA p9 (v_self.pile_of : (List (Str × Int))), dictE lstA p10 (v_self.piles : (List (Int × (List Str)))), F] : List (Asn G))) hy36 fun v37 H hS => ?_
        have hS : Sep H ([dictA v37 (y36 : (List (Str × Bool))), dictE dictA p11 (ddrop (dput v_self.comes_from y12 (ddrop x14 v_name)) y12 : (List (Str × (List (Str × Bool))))), cell a_v_self (.ins (G.cl 2) dx7 [("goes_to", (.ref p8)), ("pile_of", (.ref p9)), ("piles", (.ref p10)), ("comes_from", (.ref p11)), ("made", (.int (v_self.made)))]), dictA p8 (ddrop v_self.goes_to v_name : (List (Str × Str))), dictA p9 (v_self.pile_of : (List (Str × Int))), dictE lstA p10 (v_self.piles : (List (Int × (List Str)))), F] : List (Asn G)) := hS
        exact nx _ _ _ hm ⟨rfl, hS.sel [1, 2, 3, 4, 5, 6] (by decide) rfl⟩
      ·
        refine st_nx ?_
        exact nx _ _ _ hm ⟨rfl, hS.sel [0, 1, 2, 3, 4, 5] (by decide) rfl⟩
      · obtain ⟨rfl, hS⟩ := hI
        refine sq_nx ?_
        refine f_seq ?_
        refine c_asg ?_
        refine c_fz ?_
        refine c_dpop1 ?_
        refine ev_to (ev_fld (ev_var rfl) (hS.getCell (i := 1) rfl) T.cl_Threads T.n_Threads_piles rfl) ?_
        refine k_pop1a (isD_Ei hS (i := 4) rfl) ?_
        obtain ⟨y38, hy38, hm⟩ := wp_dget hm
        obtain ⟨v39, g40, hv41⟩ := dget_some hS (i := 3) rfl hy38
        have hv41 : v39 = (.int (y38)) := hv41
        subst hv41
        refine ev_to (ev_dget (y := y38) hS (i := 3) rfl (ev_fld (ev_var rfl) (hS.getCell (i := 1) rfl) T.cl_Threads T.n_Threads_pile_of rfl) (ev_var rfl) g40) ?_
        obtain ⟨y42, hy42, hm⟩ := wp_dgetX hm
        refine k_pop1E (hS.sel [4, 0, 1, 2, 3, 5] (by decide) rfl : Sep _ (dictE lstA p10 (v_self.piles : (List (Int × (List Str)))) :: [dictE dictA p11 (s35 : (List (Str × (List (Str × Bool))))), cell a_v_self (.ins (G.cl 2) dx7 [("goes_to", (.ref p8)), ("pile_of", (.ref p9)), ("piles", (.ref p10)), ("comes_from", (.ref p11)), ("made", (.int (v_self.made)))]), dictA p8 (ddrop v_self.goes_to v_name : (List (Str × Str))), dictA p9 (v_self.pile_of : (List (Str × Int))), F] : List (Asn G))) hy42 fun v43 H hS => ?_
        have hS : Sep H ([lstA v43 (y42 : (List Str)), dictE lstA p10 (ddrop v_self.piles y38 : (List (Int × (List Str)))), dictE dictA p11 (s35 : (List (Str × (List (Str × Bool))))), cell a_v_self (.ins (G.cl 2) dx7 [("goes_to", (.ref p8)), ("pile_of", (.ref p9)), ("piles", (.ref p10)), ("comes_from", (.ref p11)), ("made", (.int (v_self.made)))]), dictA p8 (ddrop v_self.goes_to v_name : (List (Str × Str))), dictA p9 (v_self.pile_of : (List (Str × Int))), F] : List (Asn G)) := hS
        refine fz_no ?_
        refine c_set (σ' := [some (.ref a_v_self), some (.str (v_name)), some (.str (y12)), some (.ref v43), none]) rfl ?_
        refine sq_nx ?_
        refine f_seq ?_
        refine c_for ?_
        refine c_il ?_
        refine ev_to (ev_fz (ev_var rfl)) ?_
        refine k_il hS (i := 0) rfl ?_
        refine k_for (τ := (List (Str × Int))) (fun (s44 : (List (Str × Int))) (σ : L2.St) (H : Hp) => ∃ (w47 : Option V), σ = [some (.ref a_v_self), some (.str (v_name)), some (.str (y12)), some (.ref v43), w47] ∧ Sep H ([lstA v43 (y42 : (List Str)), dictE lstA p10 (ddrop v_self.piles y38 : (List (Int × (List Str)))), dictE dictA p11 (s35 : (List (Str × (List (Str × Bool))))), cell a_v_self (.ins (G.cl 2) dx7 [("goes_to", (.ref p8)), ("pile_of", (.ref p9)), ("piles", (.ref p10)), ("comes_from", (.ref p11)), ("made", (.int (v_self.made)))]), dictA p8 (ddrop v_self.goes_to v_name : (List (Str × Str))), dictA p9 (s44 : (List (Str × Int))), F] : List (Asn G))) (im := (Im.im G)) (s := (v_self.pile_of)) (fun _ => wk_list fun _ _ ⟨_, _, h⟩ => h.sq (i := 0) rfl) ⟨_, rfl, hS.sel [0, 1, 2, 3, 4, 5, 6] (by decide) rfl⟩ hm (fun s44 x45 v46 σ H q N hI hx hm nx => ?_) (fun s44 σ H hm hI => ?_)
        ·
          obtain ⟨w47, rfl, hS⟩ := hI
          cases hx
          refine c_gN (σ' := [some (.ref a_v_self), some (.str (v_name)), some (.str (y12)), some (.ref v43), some (.str (x45))]) rfl ?_
          refine c_drop ?_
          refine c_dpop1 ?_
          refine ev_to (ev_fld (ev_var rfl) (hS.getCell (i := 3) rfl) T.cl_Threads T.n_Threads_pile_of rfl) ?_
          refine k_pop1a (isD_of hS (i := 5) rfl) ?_
          refine ev_to (ev_var rfl) ?_
          obtain ⟨y48, hy48, hm⟩ := wp_dgetX hm
          refine k_pop1A (k := x45) hS (i := 5) rfl hy48 rfl fun v49 H hS => ?_
          obtain rfl : v49 = (.int (y48)) := hS.im (i := 0) rfl
          have hS := hS.tail
          have hS : Sep H ([lstA v43 (y42 : (List Str)), dictE lstA p10 (ddrop v_self.piles y38 : (List (Int × (List Str)))), dictE dictA p11 (s35 : (List (Str × (List (Str × Bool))))), cell a_v_self (.ins (G.cl 2) dx7 [("goes_to", (.ref p8)), ("pile_of", (.ref p9)), ("piles", (.ref p10)), ("comes_from", (.ref p11)), ("made", (.int (v_self.made)))]), dictA p8 (ddrop v_self.goes_to v_name : (List (Str × Str))), dictA p9 (ddrop s44 x45 : (List (Str × Int))), F] : List (Asn G)) := hS
          exact nx _ _ _ hm ⟨_, rfl, hS.sel [0, 1, 2, 3, 4, 5, 6] (by decide) rfl⟩
        · obtain ⟨w47, rfl, hS⟩ := hI
          refine sq_nx ?_
          refine c_for ?_
          refine c_il ?_
          refine ev_to (ev_fz (ev_var rfl)) ?_
          refine k_il hS (i := 0) rfl ?_
          have hS : Sep H (ThreadsA a_v_self (⟨ddrop v_self.goes_to v_name, s44, ddrop v_self.piles y38, s35, v_self.made⟩ : Threads) :: [lstA v43 (y42 : (List Str)), F] : List (Asn G)) := pack_Threads (hS.sel [3, 4, 5, 1, 2, 0, 6] (by decide) rfl)
          refine k_for (τ := Threads) (fun (s50 : Threads) (σ : L2.St) (H : Hp) => ∃ (w53 : Option V), σ = [some (.ref a_v_self), some (.str (v_name)), some (.str (y12)), some (.ref v43), w53] ∧ Sep H ([ThreadsA a_v_self s50, lstA v43 (y42 : (List Str)), F] : List (Asn G))) (im := (Im.im G)) (s := ((⟨ddrop v_self.goes_to v_name, s44, ddrop v_self.piles y38, s35, v_self.made⟩ : Threads))) (fun _ => wk_list fun _ _ ⟨_, _, h⟩ => h.sq (i := 1) rfl) ⟨_, rfl, hS.sel [0, 1, 2] (by decide) rfl⟩ hm (fun s50 x51 v52 σ H q N hI hx hm nx => ?_) (fun s50 σ H hm hI => ?_)
          ·
            obtain ⟨w53, rfl, hS⟩ := hI
            cases hx
            refine c_gN (σ' := [some (.ref a_v_self), some (.str (v_name)), some (.str (y12)), some (.ref v43), some (.str (x51))]) rfl ?_
            have hS : Sep H (ThreadsA a_v_self s50 :: [lstA v43 (y42 : (List Str)), F] : List (Asn G)) := hS.sel [0, 1, 2] (by decide) rfl
            obtain ⟨dx54, p55, p56, p57, p58, hS⟩ := open_Threads hS
            have hS : Sep H ([cell a_v_self (.ins (G.cl 2) dx54 [("goes_to", (.ref p55)), ("pile_of", (.ref p56)), ("piles", (.ref p57)), ("comes_from", (.ref p58)), ("made", (.int (s50.made)))]), dictA p55 (s50.goes_to : (List (Str × Str))), dictA p56 (s50.pile_of : (List (Str × Int))), dictE lstA p57 (s50.piles : (List (Int × (List Str)))), dictE dictA p58 (s50.comes_from : (List (Str × (List (Str × Bool))))), lstA v43 (y42 : (List Str)), F] : List (Asn G)) := hS
            refine f_if ?_
            refine et_to (et_B (ev_din hS (i := 1) (k := x51) rfl (ev_var rfl) (ev_fld (ev_var rfl) (hS.getCell (i := 0) rfl) T.cl_Threads T.n_Threads_goes_to rfl))) ?_
            have hS : Sep H (ThreadsA a_v_self s50 :: [lstA v43 (y42 : (List Str)), F] : List (Asn G)) := pack_Threads (hS.sel [0, 1, 2, 3, 4, 5, 6] (by decide) rfl)
            refine ifK_J (τ := Threads) (fun (s59 : Threads) (σ : L2.St) (H : Hp) => σ = [some (.ref a_v_self), some (.str (v_name)), some (.str (y12)), some (.ref v43), some (.str (x51))] ∧ Sep H ([ThreadsA a_v_self s59, lstA v43 (y42 : (List Str)), F] : List (Asn G))) hm (fun hb q hm nx => ?_) (fun hb q hm nx => ?_) (fun s59 σ H hm hI => ?_)
            ·
              have hS : Sep H (ThreadsA a_v_self s50 :: [lstA v43 (y42 : (List Str)), F] : List (Asn G)) := hS.sel [0, 1, 2] (by decide) rfl
              obtain ⟨dx60, p61, p62, p63, p64, hS⟩ := open_Threads hS
              have hS : Sep H ([cell a_v_self (.ins (G.cl 2) dx60 [("goes_to", (.ref p61)), ("pile_of", (.ref p62)), ("piles", (.ref p63)), ("comes_from", (.ref p64)), ("made", (.int (s50.made)))]), dictA p61 (s50.goes_to : (List (Str × Str))), dictA p62 (s50.pile_of : (List (Str × Int))), dictE lstA p63 (s50.piles : (List (Int × (List Str)))), dictE dictA p64 (s50.comes_from : (List (Str × (List (Str × Bool))))), lstA v43 (y42 : (List Str)), F] : List (Asn G)) := hS
              refine c_drop ?_
              refine c_meth ?_
              refine ev_to (ev_var rfl) ?_
              refine ⟨_, _, _, rfl, (hS.getCell (i := 0) rfl), rfl, ?_⟩
              refine ea_to (ea_cons (ev_var rfl) ea_nil) ?_
              have hS : Sep H (ThreadsA a_v_self s50 :: [lstA v43 (y42 : (List Str)), F] : List (Asn G)) := pack_Threads (hS.sel [0, 1, 2, 3, 4, 5, 6] (by decide) rfl)
              refine ⟨a_v_self, (s50 : Threads), x51, star [lstA v43 (y42 : (List Str)), F], rfl, Sep.unstar (M := [ThreadsA a_v_self s50]) (hS.sel [0, 1, 2] (by decide) rfl : Sep H (([ThreadsA a_v_self s50] ++ [lstA v43 (y42 : (List Str)), F] : List (Asn G)))), R.wp_mono (R.wp_noexc hm) (fun r65 hm H hS => ?_) (fun _ z => z)⟩
              have hS : Sep H ([ThreadsA a_v_self r65, lstA v43 (y42 : (List Str)), F] : List (Asn G)) := Sep.star (M := [ThreadsA a_v_self r65]) hS
              have hS : Sep H (ThreadsA a_v_self r65 :: [lstA v43 (y42 : (List Str)), F] : List (Asn G)) := hS.sel [0, 1, 2] (by decide) rfl
              obtain ⟨dx66, p67, p68, p69, p70, hS⟩ := open_Threads hS
              have hS : Sep H ([cell a_v_self (.ins (G.cl 2) dx66 [("goes_to", (.ref p67)), ("pile_of", (.ref p68)), ("piles", (.ref p69)), ("comes_from", (.ref p70)), ("made", (.int (r65.made)))]), dictA p67 (r65.goes_to : (List (Str × Str))), dictA p68 (r65.pile_of : (List (Str × Int))), dictE lstA p69 (r65.piles : (List (Int × (List Str)))), dictE dictA p70 (r65.comes_from : (List (Str × (List (Str × Bool))))), lstA v43 (y42 : (List Str)), F] : List (Asn G)) := hS
              have hS : Sep H (ThreadsA a_v_self r65 :: [lstA v43 (y42 : (List Str)), F] : List (Asn G)) := pack_Threads (hS.sel [0, 1, 2, 3, 4, 5, 6] (by decide) rfl)
              exact nx _ _ _ hm ⟨rfl, hS.sel [0, 1, 2] (by decide) rfl⟩
            ·
              have hS : Sep H (ThreadsA a_v_self s50 :: [lstA v43 (y42 : (List Str)), F] : List (Asn G)) := hS.sel [0, 1, 2] (by decide) rfl
              obtain ⟨dx71, p72, p73, p74, p75, hS⟩ := open_Threads hS
              have hS : Sep H ([cell a_v_self (.ins (G.cl 2) dx71 [("goes_to", (.ref p72)), ("pile_of", (.ref p73)), ("piles", (.ref p74)), ("comes_from", (.ref p75)), ("made", (.int (s50.made)))]), dictA p72 (s50.goes_to : (List (Str × Str))), dictA p73 (s50.pile_of : (List (Str × Int))), dictE lstA p74 (s50.piles : (List (Int × (List Str)))), dictE dictA p75 (s50.comes_from : (List (Str × (List (Str × Bool))))), lstA v43 (y42 : (List Str)), F] : List (Asn G)) := hS
              refine st_nx ?_
              have hS : Sep H (ThreadsA a_v_self s50 :: [lstA v43 (y42 : (List Str)), F] : List (Asn G)) := pack_Threads (hS.sel [0, 1, 2, 3, 4, 5, 6] (by decide) rfl)
              exact nx _ _ _ hm ⟨rfl, hS.sel [0, 1, 2] (by decide) rfl⟩
            · obtain ⟨rfl, hS⟩ := hI
              have hS : Sep H (ThreadsA a_v_self s59 :: [lstA v43 (y42 : (List Str)), F] : List (Asn G)) := hS.sel [0, 1, 2] (by decide) rfl
              obtain ⟨dx76, p77, p78, p79, p80, hS⟩ := open_Threads hS
              have hS : Sep H ([cell a_v_self (.ins (G.cl 2) dx76 [("goes_to", (.ref p77)), ("pile_of", (.ref p78)), ("piles", (.ref p79)), ("comes_from", (.ref p80)), ("made", (.int (s59.made)))]), dictA p77 (s59.goes_to : (List (Str × Str))), dictA p78 (s59.pile_of : (List (Str × Int))), dictE lstA p79 (s59.piles : (List (Int × (List Str)))), dictE dictA p80 (s59.comes_from : (List (Str × (List (Str × Bool))))), lstA v43 (y42 : (List Str)), F] : List (Asn G)) := hS
              have hS : Sep H (ThreadsA a_v_self s59 :: [lstA v43 (y42 : (List Str)), F] : List (Asn G)) := pack_Threads (hS.sel [0, 1, 2, 3, 4, 5, 6] (by decide) rfl)
              exact nx _ _ _ hm ⟨_, rfl, hS.sel [0, 1, 2] (by decide) rfl⟩
          · obtain ⟨w53, rfl, hS⟩ := hI
            have hS : Sep H (ThreadsA a_v_self s50 :: [lstA v43 (y42 : (List Str)), F] : List (Asn G)) := hS.sel [0, 1, 2] (by decide) rfl
            obtain ⟨dx81, p82, p83, p84, p85, hS⟩ := open_Threads hS
            have hS : Sep H ([cell a_v_self (.ins (G.cl 2) dx81 [("goes_to", (.ref p82)), ("pile_of", (.ref p83)), ("piles", (.ref p84)), ("comes_from", (.ref p85)), ("made", (.int (s50.made)))]), dictA p82 (s50.goes_to : (List (Str × Str))), dictA p83 (s50.pile_of : (List (Str × Int))), dictE lstA p84 (s50.piles : (List (Int × (List Str)))), dictE dictA p85 (s50.comes_from : (List (Str × (List (Str × Bool))))), lstA v43 (y42 : (List Str)), F] : List (Asn G)) := hS
            have hS : Sep H (ThreadsA a_v_self s50 :: [lstA v43 (y42 : (List Str)), F] : List (Asn G)) := pack_Threads (hS.sel [0, 1, 2, 3, 4, 5, 6] (by decide) rfl)
            exact hm _ (hS.sel [0, 2] (by decide) rfl)
    ·
      have hS : Sep H ([ThreadsA a_v_self v_self, F] : List (Asn G)) := Sep.star (M := [ThreadsA a_v_self v_self]) hS
      exact hx _ (hS.sel [0, 1] (by decide) rfl)
def sp_Threads_thread (G : Gx) : Sp := fun vs H Q E => ∃ (a_v_self : Addr) (v_self : Threads) (v_name : Str) (F : Asn G), vs = [.ref a_v_self, (.str (v_name))] ∧ Sep H ([ThreadsA a_v_self v_self, F] : List (Asn G)) ∧ R.wp (m_Threads_thread v_self v_name) (fun r => ∀ p H', Sep H' ([lstA p (r : (List Str)), ThreadsA a_v_self v_self, F] : List (Asn G)) → Q (.ref p) H') (fun x => ∀ H', Sep H' ([ThreadsA a_v_self v_self, F] : List (Asn G)) → Eok G x E H')
abbrev N_Threads_thread : List Str := ["self", "name", "one"]
theorem sc_Threads_thread : FnScope N_Threads_thread ["self", "name"] (defScope s_Threads_thread) := ⟨rfl, rfl, rfl, by decide +kernel, rfl, by decide +kernel, by decide +kernel⟩
theorem ok_Threads_thread (T : Txt G mg) : FnOk P w G.K mg base (L2.CX P w) 2 T.a_Threads_thread T.fd_Threads_thread ["self", "name"] (sp_Threads_thread G) := by
  have nd := sc_Threads_thread.nd
  refine Fun.okX T.F_Threads_thread sc_Threads_thread (fun vs H Q E h => ?_) (fun cdv A outer s H vs Q E hr h => ?_)
  · obtain ⟨a_v_self, v_self, v_name, F, rfl, _⟩ := h; rfl
  · obtain ⟨a_v_self, v_self, v_name, F, rfl, hS, hm⟩ := h
    refine ⟨_, (pss_cons (ps_expr (pe_meth (pv 0) T.cl_Threads T.m_Threads_sure (ok_Threads_sure T) (hr.mono (by decide)) T.b_Threads_sure .nil (passes_call (takes_of rfl rfl rfl rfl) (fun _ _ _ _ h => h)) (pa_cons (pv 1) pa_nil)))
      (pss_one (ps_ret (pe_fz (pe_callB (sortedSBK G.K) (by rfl) T.z_sorted (by decide +kernel) (pa_cons (pe_fz (pe_lc (own := [("one", 2)]) (g := gName 2) rfl nd (pi_listK G.K (pe_fz (pe_dget (hu_of hr) (pe_fld (pv 0) rfl) (pe_dget (hu_of hr) (pe_fld (pv 0) rfl) (pv 1) (fun _ _ => rfl)) (fun _ _ => rfl)))) (blkOk_by (own := [("one", 2)]) (N := N_Threads_thread) (sc := defScope s_Threads_thread) (by decide +kernel)) (fun _ _ _ _ _ => pg_name (i := 2) nd rfl (Or.inl rfl)) (fun _ _ _ _ _ => pts_one (pt_cmp (pc_din (hu_of hr) (pv 2) (pe_fldK G.K (pv 0))))) (fun _ _ _ _ _ => (pv 2)))) pa_nil)))))), ?_⟩
    unfold m_Threads_thread at hm
    have hS : Sep H (ThreadsA a_v_self v_self :: [F] : List (Asn G)) := hS.sel [0, 1] (by decide) rfl
    obtain ⟨dx1, p2, p3, p4, p5, hS⟩ := open_Threads hS
    have hS : Sep H ([cell a_v_self (.ins (G.cl 2) dx1 [("goes_to", (.ref p2)), ("pile_of", (.ref p3)), ("piles", (.ref p4)), ("comes_from", (.ref p5)), ("made", (.int (v_self.made)))]), dictA p2 (v_self.goes_to : (List (Str × Str))), dictA p3 (v_self.pile_of : (List (Str × Int))), dictE lstA p4 (v_self.piles : (List (Int × (List Str)))), dictE dictA p5 (v_self.comes_from : (List (Str × (List (Str × Bool))))), F] : List (Asn G)) := hS
    refine f_seq ?_
    refine c_drop ?_
    refine c_meth ?_
    refine ev_to (ev_var rfl) ?_
    refine ⟨_, _, _, rfl, (hS.getCell (i := 0) rfl), rfl, ?_⟩
    refine ea_to (ea_cons (ev_var rfl) ea_nil) ?_
    have hS : Sep H (ThreadsA a_v_self v_self :: [F] : List (Asn G)) := pack_Threads (hS.sel [0, 1, 2, 3, 4, 5] (by decide) rfl)
    refine ⟨a_v_self, (v_self : Threads), v_name, star [F], rfl, Sep.unstar (M := [ThreadsA a_v_self v_self]) (hS.sel [0, 1] (by decide) rfl : Sep H (([ThreadsA a_v_self v_self] ++ [F] : List (Asn G)))), R.wp_mono (R.wp_bind hm) (fun r6 hm H hS => ?_) (fun x hx H hS => ?_)⟩
    ·
      have hS : Sep H ([ThreadsA a_v_self v_self, F] : List (Asn G)) := Sep.star (M := [ThreadsA a_v_self v_self]) hS
      have hS : Sep H (ThreadsA a_v_self v_self :: [F] : List (Asn G)) := hS.sel [0, 1] (by decide) rfl
      obtain ⟨dx7, p8, p9, p10, p11, hS⟩ := open_Threads hS
      have hS : Sep H ([cell a_v_self (.ins (G.cl 2) dx7 [("goes_to", (.ref p8)), ("pile_of", (.ref p9)), ("piles", (.ref p10)), ("comes_from", (.ref p11)), ("made", (.int (v_self.made)))]), dictA p8 (v_self.goes_to : (List (Str × Str))), dictA p9 (v_self.pile_of : (List (Str × Int))), dictE lstA p10 (v_self.piles : (List (Int × (List Str)))), dictE dictA p11 (v_self.comes_from : (List (Str × (List (Str × Bool))))), F] : List (Asn G)) := hS
      refine sq_nx ?_
      refine c_ret ?_
      refine c_fz ?_
      refine c_cb ?_
      refine c_cons ?_
      refine c_fz ?_
      refine c_lc ?_
      refine c_il ?_
      refine c_fz ?_
      refine c_dget ?_
      refine ev_to (ev_fld (ev_var rfl) (hS.getCell (i := 0) rfl) T.cl_Threads T.n_Threads_piles rfl) ?_
      refine k_dget1 ?_
      obtain ⟨y12, hy12, hm⟩ := wp_dget hm
      obtain ⟨v13, g14, hv15⟩ := dget_some hS (i := 2) rfl hy12
      have hv15 : v13 = (.int (y12)) := hv15
      subst hv15
      refine ev_to (ev_dget (y := y12) hS (i := 2) rfl (ev_fld (ev_var rfl) (hS.getCell (i := 0) rfl) T.cl_Threads T.n_Threads_pile_of rfl) (ev_var rfl) g14) ?_
      obtain ⟨x16, h17, hm⟩ := wp_dgetX hm
      refine k_dgetE (y := (x16 : (List Str))) (hS.sel [3, 0, 1, 2, 4, 5] (by decide) rfl : Sep _ (dictE lstA p10 (v_self.piles : (List (Int × (List Str)))) :: [cell a_v_self (.ins (G.cl 2) dx7 [("goes_to", (.ref p8)), ("pile_of", (.ref p9)), ("piles", (.ref p10)), ("comes_from", (.ref p11)), ("made", (.int (v_self.made)))]), dictA p8 (v_self.goes_to : (List (Str × Str))), dictA p9 (v_self.pile_of : (List (Str × Int))), dictE dictA p11 (v_self.comes_from : (List (Str × (List (Str × Bool))))), F] : List (Asn G))) h17 fun ps18 p19 j20 hl21 hj22 hp23 hS => ?_
      have hS : Sep H ([lstA p19 (x16 : (List Str)), dictXH id lstA p10 ps18 (v_self.piles : (List (Int × (List Str)))) j20, cell a_v_self (.ins (G.cl 2) dx7 [("goes_to", (.ref p8)), ("pile_of", (.ref p9)), ("piles", (.ref p10)), ("comes_from", (.ref p11)), ("made", (.int (v_self.made)))]), dictA p8 (v_self.goes_to : (List (Str × Str))), dictA p9 (v_self.pile_of : (List (Str × Int))), dictE dictA p11 (v_self.comes_from : (List (Str × (List (Str × Bool))))), F] : List (Asn G)) := hS
      refine fz_no ?_
      refine k_il hS (i := 0) rfl ?_
      obtain ⟨h24, hm⟩ := R.wp_need hm
      refine lc_sep (β := Str) (fun (_ : Unit) => ([lstA p19 (x16 : (List Str)), dictXH id lstA p10 ps18 (v_self.piles : (List (Int × (List Str)))) j20, cell a_v_self (.ins (G.cl 2) dx7 [("goes_to", (.ref p8)), ("pile_of", (.ref p9)), ("piles", (.ref p10)), ("comes_from", (.ref p11)), ("made", (.int (v_self.made)))]), dictA p8 (v_self.goes_to : (List (Str × Str))), dictA p9 (v_self.pile_of : (List (Str × Int))), dictE dictA p11 (v_self.comes_from : (List (Str × (List (Str × Bool))))), F] : List (Asn G))) (s := ()) (im := (Im.im G)) hS (fun _ _ _ => wk_list fun _ _ h => h.sq (i := 1) rfl) h24 hm (fun p25 _ ys28 x26 v27 H q Nx hS hx hm kS kN => ?_) (fun p25 t H hm hS => ?_)
      ·
        cases hx
        refine c_gLc (σ' := [some (.ref a_v_self), some (.str (v_name)), some (.str (x26))]) rfl rfl ?_
        refine et_to (et_B (ev_din hS (i := 4) (k := x26) rfl (ev_var rfl) (ev_fld (ev_var rfl) (hS.getCell (i := 3) rfl) T.cl_Threads T.n_Threads_goes_to rfl))) ?_
        refine lc_if (fun hb29 => ?_) (fun hb29 => ?_)
        · have hm := R.wp_ifY hm hb29
          refine ev_to (ev_var rfl) ?_
          exact kS () _ _ _ hm rfl (hS.sel [0, 1, 2, 3, 4, 5, 6, 7] (by decide) rfl)
        · have hm := R.wp_ifN hm (by first | (rw [hb29]; decide) | simpa using hb29)
          exact kN () _ hm (hS.sel [0, 1, 2, 3, 4, 5, 6, 7] (by decide) rfl)
      · revert hm hS; generalize t = t30; intro hm hS
        refine fz_no ?_
        refine c_nil ?_
        obtain ⟨h32, hm⟩ := R.wp_need hm
        refine k_sortedB hS (hS.sqF (i := 0) rfl) h32 fun p31 H hS => ?_
        refine fz_no ?_
        have hS : Sep H ([dictE lstA p10 (v_self.piles : (List (Int × (List Str)))), lstA p31 (sortT t30.2 : (List Str)), lstA p25 (t30.2 : (List Str)), cell a_v_self (.ins (G.cl 2) dx7 [("goes_to", (.ref p8)), ("pile_of", (.ref p9)), ("piles", (.ref p10)), ("comes_from", (.ref p11)), ("made", (.int (v_self.made)))]), dictA p8 (v_self.goes_to : (List (Str × Str))), dictA p9 (v_self.pile_of : (List (Str × Int))), dictE dictA p11 (v_self.comes_from : (List (Str × (List (Str × Bool))))), F] : List (Asn G)) := unfocDE0 hl21 hj22 hp23 (hS.sel [2, 3, 0, 1, 4, 5, 6, 7, 8] (by decide) rfl)
        have hS : Sep H (ThreadsA a_v_self v_self :: [lstA p31 (sortT t30.2 : (List Str)), lstA p25 (t30.2 : (List Str)), F] : List (Asn G)) := pack_Threads (hS.sel [3, 4, 5, 0, 6, 1, 2, 7] (by decide) rfl)
        exact hm _ _ (hS.sel [1, 0, 3] (by decide) rfl)
    ·
      have hS : Sep H ([ThreadsA a_v_self v_self, F] : List (Asn G)) := Sep.star (M := [ThreadsA a_v_self v_self]) hS
      exact hx _ (hS.sel [0, 1] (by decide) rfl)
def sp_Threads_threads (G : Gx) : Sp := fun vs H Q E => ∃ (a_v_self : Addr) (v_self : Threads) (F : Asn G), vs = [.ref a_v_self] ∧ Sep H ([ThreadsA a_v_self v_self, F] : List (Asn G)) ∧ R.wp (m_Threads_threads v_self) (fun r => ∀ p H', Sep H' ([lstA p (r : (List (List Str))), ThreadsA a_v_self v_self, F] : List (Asn G)) → Q (.ref p) H') (fun _ => False)
abbrev N_Threads_threads : List Str := ["self", "found", "told", "name"]
theorem sc_Threads_threads : FnScope N_Threads_threads ["self"] (defScope s_Threads_threads) := ⟨rfl, rfl, rfl, by decide +kernel, rfl, by decide +kernel, by decide +kernel⟩
theorem ok_Threads_threads (T : Txt G mg) : FnOk P w G.K mg base CX0 3 T.a_Threads_threads T.fd_Threads_threads ["self"] (sp_Threads_threads G) := by
  have nd := sc_Threads_threads.nd
  refine Fun.ok T.F_Threads_threads sc_Threads_threads (fun vs H Q E h => ?_) (fun cdv A outer s H vs Q E hr h => ?_)
  · obtain ⟨a_v_self, v_self, F, rfl, _⟩ := h; rfl
  · obtain ⟨a_v_self, v_self, F, rfl, hS, hm⟩ := h
    refine ⟨_, (pss_cons (ps_set (i := 1) nd rfl (Or.inl rfl) (pe_fz (pe_lst pa_nil)))
      (pss_cons (ps_set (i := 2) nd rfl (Or.inl rfl) pe_dnewK)
      (pss_cons (ps_for PassesOwn.never rfl (pi_listK G.K (pe_fz (pe_callB (cr_sortDB rfl) (by rfl) T.z_sorted (by decide +kernel) (pa_cons (pe_fld (pv 0) rfl) pa_nil)))) (pg_name (i := 3) nd rfl (Or.inl rfl)) (pss_cons (ps_if (pt_cmp (pc_din (hu_of hr) (pe_dget (hu_of hr) (pe_fld (pv 0) rfl) (pv 3) (fun _ _ => rfl)) (pv 2))) (pss_one ps_continue) pss_nil)
      (pss_cons (ps_asg pe_bl (pg_sub (pv 2) (pe_dget (hu_of hr) (pe_fld (pv 0) rfl) (pv 3) (fun _ _ => rfl)) (set_dict (hu_of hr))))
      (pss_one (ps_expr (pe_bmK G.K PySem.F.plainAttrs_list PySem.F.slot_list_append PySem.F.type_list_append mt_append (pe_fz (pv 1)) (pa_cons (pe_fz (pe_meth (pv 0) T.cl_Threads T.m_Threads_thread (ok_Threads_thread T) (hr.mono (by decide)) T.b_Threads_thread .nil passL (pa_cons (pv 3) pa_nil))) pa_nil)))))))
      (pss_one (ps_ret (pe_fz (pv 1))))))), ?_⟩
    unfold m_Threads_threads at hm
    have hS : Sep H (ThreadsA a_v_self v_self :: [F] : List (Asn G)) := hS.sel [0, 1] (by decide) rfl
    obtain ⟨dx1, p2, p3, p4, p5, hS⟩ := open_Threads hS
    have hS : Sep H ([cell a_v_self (.ins (G.cl 2) dx1 [("goes_to", (.ref p2)), ("pile_of", (.ref p3)), ("piles", (.ref p4)), ("comes_from", (.ref p5)), ("made", (.int (v_self.made)))]), dictA p2 (v_self.goes_to : (List (Str × Str))), dictA p3 (v_self.pile_of : (List (Str × Int))), dictE lstA p4 (v_self.piles : (List (Int × (List Str)))), dictE dictA p5 (v_self.comes_from : (List (Str × (List (Str × Bool))))), F] : List (Asn G)) := hS
    refine f_seq ?_
    refine c_asg ?_
    refine c_fz ?_
    refine c_lst ?_
    refine ea_to ea_nil ?_
    refine k_lst (α := (List Str)) (vs := []) (xs := ([] : (List (List Str)))) hS True.intro (by show 0 ≤ sizeLine; decide) fun p6 H hS => ?_
    refine fz_no ?_
    refine c_set (σ' := [some (.ref a_v_self), some (.ref p6), none, none]) rfl ?_
    refine sq_nx ?_
    refine f_seq ?_
    refine c_asg ?_
    refine k_dnew (κ := Int) (β := Bool) hS fun p7 H hS => ?_
    refine c_set (σ' := [some (.ref a_v_self), some (.ref p6), some (.ref p7), none]) rfl ?_
    refine sq_nx ?_
    refine f_seq ?_
    refine c_for ?_
    refine c_il ?_
    refine c_fz ?_
    refine c_cb ?_
    refine ea_to (ea_cons (ev_fld (ev_var rfl) (hS.getCell (i := 2) rfl) T.cl_Threads T.n_Threads_goes_to rfl) ea_nil) ?_
    obtain ⟨h9, hm⟩ := R.wp_need hm
    refine k_sortDAB hS (i := 3) rfl h9 fun p8 H hS => ?_
    refine fz_no ?_
    refine k_il hS (i := 0) rfl ?_
    have hS : Sep H (ThreadsA a_v_self v_self :: [lstA p8 (sortT (v_self.goes_to.map (·.1)) : (List Str)), dictA p7 (([] : (List (Int × Bool))) : (List (Int × Bool))), lstA p6 (([] : (List (List Str))) : (List (List Str))), F] : List (Asn G)) := pack_Threads (hS.sel [3, 4, 5, 6, 7, 0, 1, 2, 8] (by decide) rfl)
    refine k_forF (τ := (List (List Str)) × (List (Int × Bool))) (fun (s10 : (List (List Str)) × (List (Int × Bool))) (σ : L2.St) (H : Hp) => ∃ (w13 : Option V), σ = [some (.ref a_v_self), some (.ref p6), some (.ref p7), w13] ∧ Sep H ([ThreadsA a_v_self v_self, lstA p8 (sortT (v_self.goes_to.map (·.1)) : (List Str)), dictA p7 (s10.2 : (List (Int × Bool))), lstA p6 (s10.1 : (List (List Str))), F] : List (Asn G))) (im := (Im.im G)) (s := (([] : (List (List Str))), ([] : (List (Int × Bool))))) (fun _ => wk_list fun _ _ ⟨_, _, h⟩ => h.sq (i := 1) rfl) ⟨_, rfl, hS.sel [0, 1, 2, 3, 4] (by decide) rfl⟩ hm (fun s10 x11 v12 σ H q N B hI hx hm nx bk ho14 => ?_) (fun s10 σ H hm hI => ?_)
    ·
      obtain ⟨w13, rfl, hS⟩ := hI
      cases hx
      refine c_gN (σ' := [some (.ref a_v_self), some (.ref p6), some (.ref p7), some (.str (x11))]) rfl ?_
      have hS : Sep H (ThreadsA a_v_self v_self :: [lstA p8 (sortT (v_self.goes_to.map (·.1)) : (List Str)), dictA p7 (s10.2 : (List (Int × Bool))), lstA p6 (s10.1 : (List (List Str))), F] : List (Asn G)) := hS.sel [0, 1, 2, 3, 4] (by decide) rfl
      obtain ⟨dx15, p16, p17, p18, p19, hS⟩ := open_Threads hS
      have hS : Sep H ([cell a_v_self (.ins (G.cl 2) dx15 [("goes_to", (.ref p16)), ("pile_of", (.ref p17)), ("piles", (.ref p18)), ("comes_from", (.ref p19)), ("made", (.int (v_self.made)))]), dictA p16 (v_self.goes_to : (List (Str × Str))), dictA p17 (v_self.pile_of : (List (Str × Int))), dictE lstA p18 (v_self.piles : (List (Int × (List Str)))), dictE dictA p19 (v_self.comes_from : (List (Str × (List (Str × Bool))))), lstA p8 (sortT (v_self.goes_to.map (·.1)) : (List Str)), dictA p7 (s10.2 : (List (Int × Bool))), lstA p6 (s10.1 : (List (List Str))), F] : List (Asn G)) := hS
      refine f_seq ?_
      refine f_if ?_
      obtain ⟨y20, hy20, hm⟩ := wp_dget hm
      obtain ⟨v21, g22, hv23⟩ := dget_some hS (i := 2) rfl hy20
      have hv23 : v21 = (.int (y20)) := hv23
      subst hv23
      refine et_to (et_B (ev_din hS (i := 6) (k := y20) rfl (ev_dget (y := y20) hS (i := 2) rfl (ev_fld (ev_var rfl) (hS.getCell (i := 0) rfl) T.cl_Threads T.n_Threads_pile_of rfl) (ev_var rfl) g22) (ev_var rfl))) ?_
      refine ifK_2 (fun hb24 => ?_) (fun hb24 => ?_)
      · have hm := R.wp_ifY hm hb24
        first | refine lp_ct ?_ | skip
        have hS : Sep H (ThreadsA a_v_self v_self :: [lstA p8 (sortT (v_self.goes_to.map (·.1)) : (List Str)), dictA p7 (s10.2 : (List (Int × Bool))), lstA p6 (s10.1 : (List (List Str))), F] : List (Asn G)) := pack_Threads (hS.sel [0, 1, 2, 3, 4, 5, 6, 7, 8] (by decide) rfl)
        exact nx _ _ _ hm ⟨_, rfl, hS.sel [0, 1, 2, 3, 4] (by decide) rfl⟩
      · have hm := R.wp_ifN hm (by first | (rw [hb24]; decide) | simpa using hb24)
        refine st_nx ?_
        refine sq_nx ?_
        refine f_seq ?_
        refine c_asgS ?_
        refine ev_to ev_c ?_
        refine ev_to (ev_var rfl) ?_
        obtain ⟨y25, hy25, hm⟩ := wp_dget hm
        obtain ⟨v26, g27, hv28⟩ := dget_some hS (i := 2) rfl hy25
        have hv28 : v26 = (.int (y25)) := hv28
        subst hv28
        refine ev_to (ev_dget (y := y25) hS (i := 2) rfl (ev_fld (ev_var rfl) (hS.getCell (i := 0) rfl) T.cl_Threads T.n_Threads_pile_of rfl) (ev_var rfl) g27) ?_
        obtain ⟨h29, hm⟩ := R.wp_need hm
        refine k_setD (k := y25) (y := true) hS (i := 6) rfl rfl h29 rfl fun H hS => ?_
        have hS : Sep H ([cell a_v_self (.ins (G.cl 2) dx15 [("goes_to", (.ref p16)), ("pile_of", (.ref p17)), ("piles", (.ref p18)), ("comes_from", (.ref p19)), ("made", (.int (v_self.made)))]), dictA p16 (v_self.goes_to : (List (Str × Str))), dictA p17 (v_self.pile_of : (List (Str × Int))), dictE lstA p18 (v_self.piles : (List (Int × (List Str)))), dictE dictA p19 (v_self.comes_from : (List (Str × (List (Str × Bool))))), lstA p8 (sortT (v_self.goes_to.map (·.1)) : (List Str)), dictA p7 (dput s10.2 y25 true : (List (Int × Bool))), lstA p6 (s10.1 : (List (List Str))), F] : List (Asn G)) := hS
        refine sq_nx ?_
        refine c_drop ?_
        refine c_bm ?_
        refine ev_to (ev_fz (ev_var rfl)) ⟨tyL hS (i := 7) rfl, ?_⟩
        refine c_cons ?_
        refine c_fz ?_
        refine c_meth ?_
        refine ev_to (ev_var rfl) ?_
        refine ⟨_, _, _, rfl, (hS.getCell (i := 0) rfl), rfl, ?_⟩
        refine ea_to (ea_cons (ev_var rfl) ea_nil) ?_
        have hS : Sep H (ThreadsA a_v_self v_self :: [lstA p8 (sortT (v_self.goes_to.map (·.1)) : (List Str)), dictA p7 (dput s10.2 y25 true : (List (Int × Bool))), lstA p6 (s10.1 : (List (List Str))), F] : List (Asn G)) := pack_Threads (hS.sel [0, 1, 2, 3, 4, 5, 6, 7, 8] (by decide) rfl)
        refine ⟨a_v_self, (v_self : Threads), x11, star [lstA p8 (sortT (v_self.goes_to.map (·.1)) : (List Str)), dictA p7 (dput s10.2 y25 true : (List (Int × Bool))), lstA p6 (s10.1 : (List (List Str))), F], rfl, Sep.unstar (M := [ThreadsA a_v_self v_self]) (hS.sel [0, 1, 2, 3, 4] (by decide) rfl : Sep H (([ThreadsA a_v_self v_self] ++ [lstA p8 (sortT (v_self.goes_to.map (·.1)) : (List Str)), dictA p7 (dput s10.2 y25 true : (List (Int × Bool))), lstA p6 (s10.1 : (List (List Str))), F] : List (Asn G)))), R.wp_mono (R.wp_bind hm) (fun r30 hm p31 H hS => ?_) (fun _ z => z.elim)⟩
        have hS : Sep H ([lstA p31 (r30 : (List Str)), ThreadsA a_v_self v_self, lstA p8 (sortT (v_self.goes_to.map (·.1)) : (List Str)), dictA p7 (dput s10.2 y25 true : (List (Int × Bool))), lstA p6 (s10.1 : (List (List Str))), F] : List (Asn G)) := Sep.star (M := [lstA p31 (r30 : (List Str)), ThreadsA a_v_self v_self]) hS
        have hS : Sep H (ThreadsA a_v_self v_self :: [lstA p31 (r30 : (List Str)), lstA p8 (sortT (v_self.goes_to.map (·.1)) : (List Str)), dictA p7 (dput s10.2 y25 true : (List (Int × Bool))), lstA p6 (s10.1 : (List (List Str))), F] : List (Asn G)) := hS.sel [1, 0, 2, 3, 4, 5] (by decide) rfl
        obtain ⟨dx32, p33, p34, p35, p36, hS⟩ := open_Threads hS
        have hS : Sep H ([cell a_v_self (.ins (G.cl 2) dx32 [("goes_to", (.ref p33)), ("pile_of", (.ref p34)), ("piles", (.ref p35)), ("comes_from", (.ref p36)), ("made", (.int (v_self.made)))]), dictA p33 (v_self.goes_to : (List (Str × Str))), dictA p34 (v_self.pile_of : (List (Str × Int))), dictE lstA p35 (v_self.piles : (List (Int × (List Str)))), dictE dictA p36 (v_self.comes_from : (List (Str × (List (Str × Bool))))), lstA p31 (r30 : (List Str)), lstA p8 (sortT (v_self.goes_to.map (·.1)) : (List Str)), dictA p7 (dput s10.2 y25 true : (List (Int × Bool))), lstA p6 (s10.1 : (List (List Str))), F] : List (Asn G)) := hS
        refine fz_yes (xs := (r30 : (List Str))) hS (i := 5) rfl fun H hS => ?_
        have hS : Sep H ([imA (.ref p31) (r30 : (List Str)), cell a_v_self (.ins (G.cl 2) dx32 [("goes_to", (.ref p33)), ("pile_of", (.ref p34)), ("piles", (.ref p35)), ("comes_from", (.ref p36)), ("made", (.int (v_self.made)))]), dictA p33 (v_self.goes_to : (List (Str × Str))), dictA p34 (v_self.pile_of : (List (Str × Int))), dictE lstA p35 (v_self.piles : (List (Int × (List Str)))), dictE dictA p36 (v_self.comes_from : (List (Str × (List (Str × Bool))))), lstA p8 (sortT (v_self.goes_to.map (·.1)) : (List Str)), dictA p7 (dput s10.2 y25 true : (List (Int × Bool))), lstA p6 (s10.1 : (List (List Str))), F] : List (Asn G)) := hS
        refine c_nil ?_
        obtain ⟨h38, hm⟩ := R.wp_need hm
        refine k_append (x := r30) hS (i := 8) rfl (hS.im (i := 0) rfl) h38 rfl fun H hS => ?_
        have hS : Sep H (ThreadsA a_v_self v_self :: [imA (.ref p31) (r30 : (List Str)), lstA p8 (sortT (v_self.goes_to.map (·.1)) : (List Str)), dictA p7 (dput s10.2 y25 true : (List (Int × Bool))), lstA p6 (s10.1 ++ [r30] : (List (List Str))), F] : List (Asn G)) := pack_Threads (hS.sel [1, 2, 3, 4, 5, 0, 6, 7, 8, 9] (by decide) rfl)
        exact nx _ _ _ hm ⟨_, rfl, hS.sel [0, 2, 3, 4, 5] (by decide) rfl⟩
    · obtain ⟨w13, rfl, hS⟩ := hI
      have hS : Sep H (ThreadsA a_v_self v_self :: [lstA p8 (sortT (v_self.goes_to.map (·.1)) : (List Str)), dictA p7 (s10.2 : (List (Int × Bool))), lstA p6 (s10.1 : (List (List Str))), F] : List (Asn G)) := hS.sel [0, 1, 2, 3, 4] (by decide) rfl
      obtain ⟨dx39, p40, p41, p42, p43, hS⟩ := open_Threads hS
      have hS : Sep H ([cell a_v_self (.ins (G.cl 2) dx39 [("goes_to", (.ref p40)), ("pile_of", (.ref p41)), ("piles", (.ref p42)), ("comes_from", (.ref p43)), ("made", (.int (v_self.made)))]), dictA p40 (v_self.goes_to : (List (Str × Str))), dictA p41 (v_self.pile_of : (List (Str × Int))), dictE lstA p42 (v_self.piles : (List (Int × (List Str)))), dictE dictA p43 (v_self.comes_from : (List (Str × (List (Str × Bool))))), lstA p8 (sortT (v_self.goes_to.map (·.1)) : (List Str)), dictA p7 (s10.2 : (List (Int × Bool))), lstA p6 (s10.1 : (List (List Str))), F] : List (Asn G)) := hS
      refine sq_nx ?_
      refine c_ret ?_
      refine ev_to (ev_fz (ev_var rfl)) ?_
      have hS : Sep H (ThreadsA a_v_self v_self :: [lstA p8 (sortT (v_self.goes_to.map (·.1)) : (List Str)), dictA p7 (s10.2 : (List (Int × Bool))), lstA p6 (s10.1 : (List (List Str))), F] : List (Asn G)) := pack_Threads (hS.sel [0, 1, 2, 3, 4, 5, 6, 7, 8] (by decide) rfl)
      exact hm _ _ (hS.sel [3, 0, 4] (by decide) rfl)
def sp_Threads_answers_to (G : Gx) : Sp := fun vs H Q E => ∃ (a_v_self : Addr) (v_self : Threads) (v_name : Str) (F : Asn G), vs = [.ref a_v_self, (.str (v_name))] ∧ Sep H ([ThreadsA a_v_self v_self, F] : List (Asn G)) ∧ R.wp (m_Threads_answers_to v_self v_name) (fun r => ∀ p H', Sep H' ([lstA p (r : (List Str)), ThreadsA a_v_self v_self, F] : List (Asn G)) → Q (.ref p) H') (fun _ => False)
abbrev N_Threads_answers_to : List Str := ["self", "name"]
theorem sc_Threads_answers_to : FnScope N_Threads_answers_to ["self", "name"] (defScope s_Threads_answers_to) := ⟨rfl, rfl, rfl, by decide +kernel, rfl, by decide +kernel, by decide +kernel⟩
theorem ok_Threads_answers_to (T : Txt G mg) : FnOk P w G.K mg base CX0 1 T.a_Threads_answers_to T.fd_Threads_answers_to ["self", "name"] (sp_Threads_answers_to G) := by
  have nd := sc_Threads_answers_to.nd
  refine Fun.ok T.F_Threads_answers_to sc_Threads_answers_to (fun vs H Q E h => ?_) (fun cdv A outer s H vs Q E hr h => ?_)
  · obtain ⟨a_v_self, v_self, v_name, F, rfl, _⟩ := h; rfl
  · obtain ⟨a_v_self, v_self, v_name, F, rfl, hS, hm⟩ := h
    refine ⟨_, (pss_one (ps_ret (pe_fz (pe_callB (cr_sortDB rfl) (by rfl) T.z_sorted (by decide +kernel) (pa_cons (pe_dget2 (hu_of hr) (pe_fld (pv 0) rfl) (pv 1) pe_dnewK m2) pa_nil))))), ?_⟩
    unfold m_Threads_answers_to at hm
    have hS : Sep H (ThreadsA a_v_self v_self :: [F] : List (Asn G)) := hS.sel [0, 1] (by decide) rfl
    obtain ⟨dx1, p2, p3, p4, p5, hS⟩ := open_Threads hS
    have hS : Sep H ([cell a_v_self (.ins (G.cl 2) dx1 [("goes_to", (.ref p2)), ("pile_of", (.ref p3)), ("piles", (.ref p4)), ("comes_from", (.ref p5)), ("made", (.int (v_self.made)))]), dictA p2 (v_self.goes_to : (List (Str × Str))), dictA p3 (v_self.pile_of : (List (Str × Int))), dictE lstA p4 (v_self.piles : (List (Int × (List Str)))), dictE dictA p5 (v_self.comes_from : (List (Str × (List (Str × Bool))))), F] : List (Asn G)) := hS
    refine c_ret ?_
    refine c_fz ?_
    refine c_cb ?_
    refine c_cons ?_
    refine c_dget2 ?_
    refine ev_to (ev_fld (ev_var rfl) (hS.getCell (i := 0) rfl) T.cl_Threads T.n_Threads_comes_from rfl) ?_
    refine k_get2a (isD_Ei hS (i := 4) rfl) ?_
    refine ev_to (ev_var rfl) ?_
    refine k_get2b ?_
    refine k_dnew (κ := Str) (β := Bool) hS fun p6 H hS => ?_
    refine k_get2E (k := v_name) (hS.sel [5, 0, 1, 2, 3, 4, 6] (by decide) rfl : Sep _ (dictE dictA p5 (v_self.comes_from : (List (Str × (List (Str × Bool))))) :: dictA p6 (([] : (List (Str × Bool))) : (List (Str × Bool))) :: [cell a_v_self (.ins (G.cl 2) dx1 [("goes_to", (.ref p2)), ("pile_of", (.ref p3)), ("piles", (.ref p4)), ("comes_from", (.ref p5)), ("made", (.int (v_self.made)))]), dictA p2 (v_self.goes_to : (List (Str × Str))), dictA p3 (v_self.pile_of : (List (Str × Int))), dictE lstA p4 (v_self.piles : (List (Int × (List Str)))), F] : List (Asn G))) fun p8 R9 hb10 hS => ?_
    have hS : Sep H ([dictA p8 ((dget v_self.comes_from v_name).getD ([] : (List (Str × Bool))) : (List (Str × Bool))), R9, cell a_v_self (.ins (G.cl 2) dx1 [("goes_to", (.ref p2)), ("pile_of", (.ref p3)), ("piles", (.ref p4)), ("comes_from", (.ref p5)), ("made", (.int (v_self.made)))]), dictA p2 (v_self.goes_to : (List (Str × Str))), dictA p3 (v_self.pile_of : (List (Str × Int))), dictE lstA p4 (v_self.piles : (List (Int × (List Str)))), F] : List (Asn G)) := hS
    refine c_nil ?_
    obtain ⟨h12, hm⟩ := R.wp_need hm
    refine k_sortDAB hS (i := 0) rfl h12 fun p11 H hS => ?_
    refine fz_no ?_
    have hS : Sep H ([dictE dictA p5 (v_self.comes_from : (List (Str × (List (Str × Bool))))), lstA p11 (sortT (((dget v_self.comes_from v_name).getD ([] : (List (Str × Bool)))).map (·.1)) : (List Str)), cell a_v_self (.ins (G.cl 2) dx1 [("goes_to", (.ref p2)), ("pile_of", (.ref p3)), ("piles", (.ref p4)), ("comes_from", (.ref p5)), ("made", (.int (v_self.made)))]), dictA p2 (v_self.goes_to : (List (Str × Str))), dictA p3 (v_self.pile_of : (List (Str × Int))), dictE lstA p4 (v_self.piles : (List (Int × (List Str)))), F] : List (Asn G)) := hb10 _ _ (hS.sel [1, 2, 0, 3, 4, 5, 6, 7] (by decide) rfl)
    have hS : Sep H (ThreadsA a_v_self v_self :: [lstA p11 (sortT (((dget v_self.comes_from v_name).getD ([] : (List (Str × Bool)))).map (·.1)) : (List Str)), F] : List (Asn G)) := pack_Threads (hS.sel [2, 3, 4, 5, 0, 1, 6] (by decide) rfl)
    exact hm _ _ (hS.sel [1, 0, 2] (by decide) rfl)
def sp_Threads_depth (G : Gx) : Sp := fun vs H Q E => ∃ (a_v_self : Addr) (v_self : Threads) (v_name : Str) (F : Asn G), vs = [.ref a_v_self, (.str (v_name))] ∧ Sep H ([ThreadsA a_v_self v_self, F] : List (Asn G)) ∧ R.wp (m_Threads_depth v_self v_name) (fun r => ∀ H', Sep H' ([ThreadsA a_v_self v_self, F] : List (Asn G)) → Q (.int (r)) H') (fun x => ∀ H', Sep H' ([ThreadsA a_v_self v_self, F] : List (Asn G)) → Eok G x E H')
abbrev N_Threads_depth : List Str := ["self", "name", "met", "above"]
theorem sc_Threads_depth : FnScope N_Threads_depth ["self", "name"] (defScope s_Threads_depth) := ⟨rfl, rfl, rfl, by decide +kernel, rfl, by decide +kernel, by decide +kernel⟩
theorem ok_Threads_depth (T : Txt G mg) : FnOk P w G.K mg base (L2.CX P w) 2 T.a_Threads_depth T.fd_Threads_depth ["self", "name"] (sp_Threads_depth G) := by
  have nd := sc_Threads_depth.nd
  refine Fun.okX T.F_Threads_depth sc_Threads_depth (fun vs H Q E h => ?_) (fun cdv A outer s H vs Q E hr h => ?_)
  · obtain ⟨a_v_self, v_self, v_name, F, rfl, _⟩ := h; rfl
  · obtain ⟨a_v_self, v_self, v_name, F, rfl, hS, hm⟩ := h
    refine ⟨_, (pss_cons (ps_expr (pe_meth (pv 0) T.cl_Threads T.m_Threads_sure (ok_Threads_sure T) (hr.mono (by decide)) T.b_Threads_sure .nil (passes_call (takes_of rfl rfl rfl rfl) (fun _ _ _ _ h => h)) (pa_cons (pv 1) pa_nil)))
      (pss_cons (ps_set (i := 2) nd rfl (Or.inl rfl) (pe_disp (pps_cons (pv 1) pe_bl pps_nil) rfl rfl (by simp) (by show 1 ≤ 15; decide)))
      (pss_cons (ps_set (i := 3) nd rfl (Or.inl rfl) (pe_dget (hu_of hr) (pe_fld (pv 0) rfl) (pv 1) (fun _ _ => rfl)))
      (pss_cons (ps_while (passes_of rfl) (PW.pt (pw_and (pt_cmp (pc_din (hu_of hr) (pv 3) (pe_fld (pv 0) rfl))) (pw_and1 (pt_cmp (pc_dnotin (hu_of hr) (pv 3) (pv 2)))))) (pss_cons (ps_asg pe_bl (pg_sub (pv 2) (pv 3) (set_dict (hu_of hr))))
      (pss_one (ps_set (i := 3) nd rfl (Or.inl rfl) (pe_dget (hu_of hr) (pe_fld (pv 0) rfl) (pv 3) (fun _ _ => rfl))))))
      (pss_one (ps_ret (pe_op op_sub (pe_callB call_lenD (by rfl) T.z_len PySem.boot_len (pa_cons (pv 2) pa_nil)) pe_int))))))), ?_⟩
    unfold m_Threads_depth at hm
    have hS : Sep H (ThreadsA a_v_self v_self :: [F] : List (Asn G)) := hS.sel [0, 1] (by decide) rfl
    obtain ⟨dx1, p2, p3, p4, p5, hS⟩ := open_Threads hS
    have hS : Sep H ([cell a_v_self (.ins (G.cl 2) dx1 [("goes_to", (.ref p2)), ("pile_of", (.ref p3)), ("piles", (.ref p4)), ("comes_from", (.ref p5)), ("made", (.int (v_self.made)))]), dictA p2 (v_self.goes_to : (List (Str × Str))), dictA p3 (v_self.pile_of : (List (Str × Int))), dictE lstA p4 (v_self.piles : (List (Int × (List Str)))), dictE dictA p5 (v_self.comes_from : (List (Str × (List (Str × Bool))))), F] : List (Asn G)) := hS
    refine f_seq ?_
    refine c_drop ?_
    refine c_meth ?_
    refine ev_to (ev_var rfl) ?_
    refine ⟨_, _, _, rfl, (hS.getCell (i := 0) rfl), rfl, ?_⟩
    refine ea_to (ea_cons (ev_var rfl) ea_nil) ?_
    have hS : Sep H (ThreadsA a_v_self v_self :: [F] : List (Asn G)) := pack_Threads (hS.sel [0, 1, 2, 3, 4, 5] (by decide) rfl)
    refine ⟨a_v_self, (v_self : Threads), v_name, star [F], rfl, Sep.unstar (M := [ThreadsA a_v_self v_self]) (hS.sel [0, 1] (by decide) rfl : Sep H (([ThreadsA a_v_self v_self] ++ [F] : List (Asn G)))), R.wp_mono (R.wp_bind hm) (fun r6 hm H hS => ?_) (fun x hx H hS => ?_)⟩
    ·
      have hS : Sep H ([ThreadsA a_v_self v_self, F] : List (Asn G)) := Sep.star (M := [ThreadsA a_v_self v_self]) hS
      have hS : Sep H (ThreadsA a_v_self v_self :: [F] : List (Asn G)) := hS.sel [0, 1] (by decide) rfl
      obtain ⟨dx7, p8, p9, p10, p11, hS⟩ := open_Threads hS
      have hS : Sep H ([cell a_v_self (.ins (G.cl 2) dx7 [("goes_to", (.ref p8)), ("pile_of", (.ref p9)), ("piles", (.ref p10)), ("comes_from", (.ref p11)), ("made", (.int (v_self.made)))]), dictA p8 (v_self.goes_to : (List (Str × Str))), dictA p9 (v_self.pile_of : (List (Str × Int))), dictE lstA p10 (v_self.piles : (List (Int × (List Str)))), dictE dictA p11 (v_self.comes_from : (List (Str × (List (Str × Bool))))), F] : List (Asn G)) := hS
      refine sq_nx ?_
      refine f_seq ?_
      refine c_asg ?_
      refine c_disp ?_
      refine k_disp (κ := Str) (β := Bool) hS fun p12 H hS => ?_
      have hS : Sep H ([dictA p12 (([] : (List (Str × Bool))) : (List (Str × Bool))), cell a_v_self (.ins (G.cl 2) dx7 [("goes_to", (.ref p8)), ("pile_of", (.ref p9)), ("piles", (.ref p10)), ("comes_from", (.ref p11)), ("made", (.int (v_self.made)))]), dictA p8 (v_self.goes_to : (List (Str × Str))), dictA p9 (v_self.pile_of : (List (Str × Int))), dictE lstA p10 (v_self.piles : (List (Int × (List Str)))), dictE dictA p11 (v_self.comes_from : (List (Str × (List (Str × Bool))))), F] : List (Asn G)) := hS
      refine pr_cons ?_
      refine ev_to (ev_var rfl) ?_
      refine pr_1 ?_
      refine ev_to ev_c ?_
      refine pr_2 ?_
      refine pr_nil ?_
      refine k_dispEnd (qs := ([(v_name, true)] : (List (Str × Bool)))) (kvs := [(Kx.key v_name, (.bl (true)))]) hS (i := 0) rfl rfl ⟨⟨rfl, rfl⟩, True.intro⟩ (by show 1 ≤ 15; decide) rfl fun H hS => ?_
      have hS : Sep H ([dictA p12 (mergeD [] ([(v_name, true)] : (List (Str × Bool))) : (List (Str × Bool))), cell a_v_self (.ins (G.cl 2) dx7 [("goes_to", (.ref p8)), ("pile_of", (.ref p9)), ("piles", (.ref p10)), ("comes_from", (.ref p11)), ("made", (.int (v_self.made)))]), dictA p8 (v_self.goes_to : (List (Str × Str))), dictA p9 (v_self.pile_of : (List (Str × Int))), dictE lstA p10 (v_self.piles : (List (Int × (List Str)))), dictE dictA p11 (v_self.comes_from : (List (Str × (List (Str × Bool))))), F] : List (Asn G)) := hS
      obtain ⟨y13, hy13, hm⟩ := wp_let hm
      have hS : Sep H ([dictA p12 (y13 : (List (Str × Bool))), cell a_v_self (.ins (G.cl 2) dx7 [("goes_to", (.ref p8)), ("pile_of", (.ref p9)), ("piles", (.ref p10)), ("comes_from", (.ref p11)), ("made", (.int (v_self.made)))]), dictA p8 (v_self.goes_to : (List (Str × Str))), dictA p9 (v_self.pile_of : (List (Str × Int))), dictE lstA p10 (v_self.piles : (List (Int × (List Str)))), dictE dictA p11 (v_self.comes_from : (List (Str × (List (Str × Bool))))), F] : List (Asn G)) := by rw [← hy13]; exact hS
      refine c_set (σ' := [some (.ref a_v_self), some (.str (v_name)), some (.ref p12), none]) rfl ?_
      refine sq_nx ?_
      refine f_seq ?_
      refine c_asg ?_
      obtain ⟨y14, hy14, hm⟩ := wp_dget hm
      obtain ⟨v15, g16, hv17⟩ := dget_some hS (i := 2) rfl hy14
      have hv17 : v15 = (.str (y14)) := hv17
      subst hv17
      refine ev_to (ev_dget (y := y14) hS (i := 2) rfl (ev_fld (ev_var rfl) (hS.getCell (i := 1) rfl) T.cl_Threads T.n_Threads_goes_to rfl) (ev_var rfl) g16) ?_
      refine c_set (σ' := [some (.ref a_v_self), some (.str (v_name)), some (.ref p12), some (.str (y14))]) rfl ?_
      refine sq_nx ?_
      refine f_seq ?_
      refine k_whileN (τ := (List (Str × Bool)) × Str) (n := 100) (c := fun (s18 : (List (Str × Bool)) × Str) => (dhas v_self.goes_to s18.2) && (!dhas s18.1 s18.2)) (s := (y13, y14)) (fun (s18 : (List (Str × Bool)) × Str) (σ : L2.St) (H : Hp) => σ = [some (.ref a_v_self), some (.str (v_name)), some (.ref p12), some (.str (s18.2))] ∧ Sep H ([dictA p12 (s18.1 : (List (Str × Bool))), cell a_v_self (.ins (G.cl 2) dx7 [("goes_to", (.ref p8)), ("pile_of", (.ref p9)), ("piles", (.ref p10)), ("comes_from", (.ref p11)), ("made", (.int (v_self.made)))]), dictA p8 (v_self.goes_to : (List (Str × Str))), dictA p9 (v_self.pile_of : (List (Str × Int))), dictE lstA p10 (v_self.piles : (List (Int × (List Str)))), dictE dictA p11 (v_self.comes_from : (List (Str × (List (Str × Bool))))), F] : List (Asn G))) ⟨rfl, hS.sel [0, 1, 2, 3, 4, 5, 6] (by decide) rfl⟩ hm (fun s18 σ H hI => by obtain ⟨rfl, hS⟩ := hI; exact (et_and (et_B (ev_din hS (i := 2) (k := s18.2) rfl (ev_var rfl) (ev_fld (ev_var rfl) (hS.getCell (i := 1) rfl) T.cl_Threads T.n_Threads_goes_to rfl))) fun _ => (et_B (ev_dnotin hS (i := 0) (k := s18.2) rfl (ev_var rfl) (ev_var rfl))))) (fun s18 σ H q N hI hm nx => ?_) (fun s18 σ H hm hI => ?_)
      ·
        obtain ⟨rfl, hS⟩ := hI
        refine f_seq ?_
        refine c_asgS ?_
        refine ev_to ev_c ?_
        refine ev_to (ev_var rfl) ?_
        refine ev_to (ev_var rfl) ?_
        obtain ⟨h19, hm⟩ := R.wp_need hm
        refine k_setD (k := s18.2) (y := true) hS (i := 0) rfl rfl h19 rfl fun H hS => ?_
        have hS : Sep H ([dictA p12 (dput s18.1 s18.2 true : (List (Str × Bool))), cell a_v_self (.ins (G.cl 2) dx7 [("goes_to", (.ref p8)), ("pile_of", (.ref p9)), ("piles", (.ref p10)), ("comes_from", (.ref p11)), ("made", (.int (v_self.made)))]), dictA p8 (v_self.goes_to : (List (Str × Str))), dictA p9 (v_self.pile_of : (List (Str × Int))), dictE lstA p10 (v_self.piles : (List (Int × (List Str)))), dictE dictA p11 (v_self.comes_from : (List (Str × (List (Str × Bool))))), F] : List (Asn G)) := hS
        refine sq_nx ?_
        refine c_asg ?_
        obtain ⟨y20, hy20, hm⟩ := wp_dget hm
        obtain ⟨v21, g22, hv23⟩ := dget_some hS (i := 2) rfl hy20
        have hv23 : v21 = (.str (y20)) := hv23
        subst hv23
        refine ev_to (ev_dget (y := y20) hS (i := 2) rfl (ev_fld (ev_var rfl) (hS.getCell (i := 1) rfl) T.cl_Threads T.n_Threads_goes_to rfl) (ev_var rfl) g22) ?_
        refine c_set (σ' := [some (.ref a_v_self), some (.str (v_name)), some (.ref p12), some (.str (y20))]) rfl ?_
        exact nx _ _ _ hm ⟨rfl, hS.sel [0, 1, 2, 3, 4, 5, 6] (by decide) rfl⟩
      · obtain ⟨rfl, hS⟩ := hI
        refine sq_nx ?_
        refine c_ret ?_
        refine ev_to (ev_sub (ev_lenD hS (i := 0) rfl (ev_var rfl)) ev_c) ?_
        have hS : Sep H (ThreadsA a_v_self v_self :: [dictA p12 (s18.1 : (List (Str × Bool))), F] : List (Asn G)) := pack_Threads (hS.sel [1, 2, 3, 4, 5, 0, 6] (by decide) rfl)
        exact hm _ (hS.sel [0, 2] (by decide) rfl)
    ·
      have hS : Sep H ([ThreadsA a_v_self v_self, F] : List (Asn G)) := Sep.star (M := [ThreadsA a_v_self v_self]) hS
      exact hx _ (hS.sel [0, 1] (by decide) rfl)
def sp_law_draws (G : Gx) : Sp := fun vs H Q E => ∃ (a_v_law_script : V) (v_law_script : Script) (v_law_many : Int) (F : Asn G), vs = [a_v_law_script, (.int (v_law_many))] ∧ Im.im G H a_v_law_script v_law_script ∧ Sep H ([F] : List (Asn G)) ∧ R.wp (m_law_draws v_law_script v_law_many) (fun r => ∀ p H', Sep H' ([lstA p (r : (List Int)), F] : List (Asn G)) → Q (.ref p) H') (fun _ => False)
abbrev N_law_draws : List Str := ["_law_script", "_law_many", "_law_found", "_law_more", "_law_k", "_law_cell"]
theorem sc_law_draws : FnScope N_law_draws ["_law_script", "_law_many"] (defScope s_law_draws) := ⟨rfl, rfl, rfl, by decide +kernel, rfl, by decide +kernel, by decide +kernel⟩
theorem ok_law_draws (T : Txt G mg) : FnOk P w G.K mg base CX0 1 T.a_law_draws T.fd_law_draws ["_law_script", "_law_many"] (sp_law_draws G) := by
  have nd := sc_law_draws.nd
  refine Fun.ok T.F_law_draws sc_law_draws (fun vs H Q E h => ?_) (fun cdv A outer s H vs Q E hr h => ?_)
  · obtain ⟨a_v_law_script, v_law_script, v_law_many, F, rfl, _⟩ := h; rfl
  · obtain ⟨a_v_law_script, v_law_script, v_law_many, F, rfl, him_v_law_script, hS, hm⟩ := h
    obtain ⟨ad_v_law_script, rfl, _⟩ := im_script him_v_law_script
    have hS := hS.addIm him_v_law_script
    refine ⟨_, (pss_cons (ps_set (i := 2) nd rfl (Or.inl rfl) (pe_fz (pe_lst pa_nil)))
      (pss_cons (ps_set (i := 3) nd rfl (Or.inl rfl) pe_int)
      (pss_cons (ps_for PassesOwn.never rfl (pi_range1 rfl T.z_range (pa_cons (pv 1) pa_nil)) (pg_name (i := 4) nd rfl (Or.inl rfl)) (pss_cons (ps_set (i := 5) nd rfl (Or.inl rfl) pe_int)
      (pss_cons (ps_if (pt_cmpR op_gt (pe_callB (lenSqK G.K) (by rfl) T.z_len PySem.boot_len (pa_cons (pv 0) pa_nil)) pe_int (nomark _)) (pss_one (ps_set (i := 5) nd rfl (Or.inl rfl) (pe_ix (ix_listK G.K) (pv 0) (pe_op op_mod (pv 4) (pe_callB (lenSqK G.K) (by rfl) T.z_len PySem.boot_len (pa_cons (pv 0) pa_nil))) (fun _ _ => rfl)))) pss_nil)
      (pss_cons (ps_set (i := 3) nd rfl (Or.inl rfl) (pe_op op_mod (pe_op op_add (pe_op op_add (pe_op op_add (pe_op op_mul (pv 3) pe_int) (pv 5)) (pv 4)) pe_int) pe_int))
      (pss_one (ps_expr (pe_bmK G.K PySem.F.plainAttrs_list PySem.F.slot_list_append PySem.F.type_list_append mt_append (pe_fz (pv 2)) (pa_cons (pe_op op_mod (pe_op op_mul (pv 3) (pv 3)) pe_int) pa_nil))))))))
      (pss_one (ps_ret (pe_fz (pv 2))))))), ?_⟩
    unfold m_law_draws at hm
    refine f_seq ?_
    refine c_asg ?_
    refine c_fz ?_
    refine c_lst ?_
    refine ea_to ea_nil ?_
    refine k_lst (α := Int) (vs := []) (xs := ([] : (List Int))) hS True.intro (by show 0 ≤ sizeLine; decide) fun p1 H hS => ?_
    refine fz_no ?_
    refine c_set (σ' := [some (.ref ad_v_law_script), some (.int (v_law_many)), some (.ref p1), none, none, none]) rfl ?_
    refine sq_nx ?_
    refine f_seq ?_
    refine c_asg ?_
    refine ev_to ev_c ?_
    refine c_set (σ' := [some (.ref ad_v_law_script), some (.int (v_law_many)), some (.ref p1), some (.int (7)), none, none]) rfl ?_
    refine sq_nx ?_
    refine f_seq ?_
    refine c_for ?_
    refine c_rng1 ?_
    refine ea_to (ea_cons (ev_var rfl) ea_nil) ?_
    obtain ⟨h2, hm⟩ := R.wp_need hm
    refine k_rng1 h2.1 h2.2 ?_
    refine k_for (τ := (List Int) × Int) (fun (s3 : (List Int) × Int) (σ : L2.St) (H : Hp) => ∃ (w6 w7 : Option V), σ = [some (.ref ad_v_law_script), some (.int (v_law_many)), some (.ref p1), some (.int (s3.2)), w6, w7] ∧ Sep H ([lstA p1 (s3.1 : (List Int)), imA (.ref ad_v_law_script) v_law_script, F] : List (Asn G))) (im := (fun _ v (x : Int) => v = .int x)) (s := (([] : (List Int)), 7)) (fun _ => wk_range) ⟨_, _, rfl, hS.sel [0, 1, 2] (by decide) rfl⟩ hm (fun s3 x4 v5 σ H q N hI hx hm nx => ?_) (fun s3 σ H hm hI => ?_)
    ·
      obtain ⟨w6, w7, rfl, hS⟩ := hI
      cases hx
      refine c_gN (σ' := [some (.ref ad_v_law_script), some (.int (v_law_many)), some (.ref p1), some (.int (s3.2)), some (.int (x4)), w7]) rfl ?_
      refine f_seq ?_
      refine c_asg ?_
      refine ev_to ev_c ?_
      refine c_set (σ' := [some (.ref ad_v_law_script), some (.int (v_law_many)), some (.ref p1), some (.int (s3.2)), some (.int (x4)), some (.int (0))]) rfl ?_
      refine sq_nx ?_
      refine f_seq ?_
      refine f_if ?_
      refine et_to (et_test (ev_i0 (ev_lenLm (ev_var rfl) (sq_script (hS.im (i := 1) rfl))) ev_c)) ?_
      refine ifK_J (τ := Int) (fun (s8 : Int) (σ : L2.St) (H : Hp) => σ = [some (.ref ad_v_law_script), some (.int (v_law_many)), some (.ref p1), some (.int (s3.2)), some (.int (x4)), some (.int (s8))] ∧ Sep H ([lstA p1 (s3.1 : (List Int)), imA (.ref ad_v_law_script) v_law_script, F] : List (Asn G))) hm (fun hb q hm nx => ?_) (fun hb q hm nx => ?_) (fun s8 σ H hm hI => ?_)
      ·
        refine c_asg ?_
        obtain ⟨h9, hm⟩ := R.wp_need hm
        obtain ⟨x10, hx10, hm⟩ := wp_idx hm
        refine ev_to (ev_ixSq (ev_var rfl) (ev_mod (ev_var rfl) (ev_lenLm (ev_var rfl) (sq_script (hS.im (i := 1) rfl))) h9) (sq_script (hS.im (i := 1) rfl)) (atI_map hx10)) ?_
        refine c_set (σ' := [some (.ref ad_v_law_script), some (.int (v_law_many)), some (.ref p1), some (.int (s3.2)), some (.int (x4)), some (.int (x10))]) rfl ?_
        exact nx _ _ _ hm ⟨rfl, hS.sel [0, 1, 2] (by decide) rfl⟩
      ·
        refine st_nx ?_
        exact nx _ _ _ hm ⟨rfl, hS.sel [0, 1, 2] (by decide) rfl⟩
      · obtain ⟨rfl, hS⟩ := hI
        refine sq_nx ?_
        refine f_seq ?_
        refine c_asg ?_
        refine ev_to (ev_mod (ev_add (ev_add (ev_add (ev_mul (ev_var rfl) ev_c (.inr (by constructor <;> decide))) (ev_var rfl)) (ev_var rfl)) ev_c) ev_c (by decide)) ?_
        obtain ⟨y11, hy11, hm⟩ := wp_let hm
        refine n_is (w := (.int (y11))) (by first | rw [hy11] | (subst hy11; rfl)) ?_
        refine c_set (σ' := [some (.ref ad_v_law_script), some (.int (v_law_many)), some (.ref p1), some (.int (y11)), some (.int (x4)), some (.int (s8))]) rfl ?_
        refine sq_nx ?_
        refine c_drop ?_
        refine c_bm ?_
        refine ev_to (ev_fz (ev_var rfl)) ⟨tyL hS (i := 0) rfl, ?_⟩
        obtain ⟨h12, hm⟩ := R.wp_need hm
        refine ea_to (ea_cons (ev_mod (ev_mul (ev_var rfl) (ev_var rfl) h12) ev_c (by decide)) ea_nil) ?_
        obtain ⟨h13, hm⟩ := R.wp_need hm
        refine k_append (x := (y11 * y11) % 2147483629) hS (i := 0) rfl rfl h13 rfl fun H hS => ?_
        exact nx _ _ _ hm ⟨_, _, rfl, hS.sel [0, 1, 2] (by decide) rfl⟩
    · obtain ⟨w6, w7, rfl, hS⟩ := hI
      refine sq_nx ?_
      refine c_ret ?_
      refine ev_to (ev_fz (ev_var rfl)) ?_
      exact hm _ _ (hS.sel [0, 2] (by decide) rfl)
def sp_law_name_by (G : Gx) : Sp := fun vs H Q E => ∃ (v_law_shape : Int) (v_law_k : Int) (F : Asn G), vs = [(.int (v_law_shape)), (.int (v_law_k))] ∧ Sep H ([F] : List (Asn G)) ∧ R.wp (m_law_name_by v_law_shape v_law_k) (fun r => ∀ H', Sep H' ([F] : List (Asn G)) → Q (.str (r)) H') (fun _ => False)
abbrev N_law_name_by : List Str := ["_law_shape", "_law_k", "_law_signs", "_law_place", "_law_name", "_law_turn"]
theorem sc_law_name_by : FnScope N_law_name_by ["_law_shape", "_law_k"] (defScope s_law_name_by) := ⟨rfl, rfl, rfl, by decide +kernel, rfl, by decide +kernel, by decide +kernel⟩
theorem ok_law_name_by (T : Txt G mg) : FnOk P w G.K mg base CX0 1 T.a_law_name_by T.fd_law_name_by ["_law_shape", "_law_k"] (sp_law_name_by G) := by
  have nd := sc_law_name_by.nd
  refine Fun.ok T.F_law_name_by sc_law_name_by (fun vs H Q E h => ?_) (fun cdv A outer s H vs Q E hr h => ?_)
  · obtain ⟨v_law_shape, v_law_k, F, rfl, _⟩ := h; rfl
  · obtain ⟨v_law_shape, v_law_k, F, rfl, hS, hm⟩ := h
    refine ⟨_, (pss_cons (ps_set (i := 2) nd rfl (Or.inl rfl) pe_str)
      (pss_cons (ps_if (pt_cmpR op_eq (pe_op op_mod (pv 0) pe_int) pe_int (nomark _)) (pss_one (ps_ret (pe_op op_repS (pe_ix ix_str (pv 2) (pe_op op_mod (pe_op op_add (pe_op op_fdiv (pv 0) pe_int) (pe_op op_fdiv (pv 1) pe_int)) pe_int) (fun _ _ => rfl)) (pe_op op_add pe_int (pe_op op_mod (pv 1) pe_int))))) pss_nil)
      (pss_cons (ps_set (i := 3) nd rfl (Or.inl rfl) (pe_op op_mod (pe_op op_fdiv (pv 0) pe_int) pe_int))
      (pss_cons (ps_set (i := 4) nd rfl (Or.inl rfl) pe_str)
      (pss_cons (ps_for PassesOwn.never rfl (pi_range1 rfl T.z_range (pa_cons (pe_op op_add (pe_op op_add (pv 3) pe_int) (pe_op op_mod (pe_op op_fdiv (pv 0) pe_int) (pe_op op_sub pe_int (pv 3)))) pa_nil)) (pg_name (i := 5) nd rfl (Or.inl rfl)) (pss_one (ps_if (pt_cmpR op_eq (pv 5) (pv 3) (nomark _)) (pss_one (ps_set (i := 4) nd rfl (Or.inl rfl) (pe_op op_catS (pv 4) (pe_ix ix_str (pv 2) (pe_op op_mod (pe_op op_add (pe_op op_fdiv (pv 0) pe_int) (pe_op op_fdiv (pv 1) pe_int)) pe_int) (fun _ _ => rfl))))) (pss_one (ps_if (pt_cmpR op_eq (pv 5) (pe_op op_add (pv 3) pe_int) (nomark _)) (pss_one (ps_set (i := 4) nd rfl (Or.inl rfl) (pe_op op_catS (pv 4) (pe_ix ix_str (pv 2) (pe_op op_mod (pe_op op_add (pe_op op_fdiv (pv 0) pe_int) (pv 1)) pe_int) (fun _ _ => rfl))))) (pss_one (ps_set (i := 4) nd rfl (Or.inl rfl) (pe_op op_catS (pv 4) (pe_ix ix_str (pv 2) (pe_op op_mod (pe_op op_add (pe_op op_fdiv (pv 0) pe_int) (pe_op op_mul (pv 5) (pe_op op_add pe_int (pe_op op_mod (pv 0) pe_int)))) pe_int) (fun _ _ => rfl))))))))))
      (pss_one (ps_ret (pv 4)))))))), ?_⟩
    unfold m_law_name_by at hm
    refine f_seq ?_
    refine c_asg ?_
    refine ev_to ev_c ?_
    refine c_set (σ' := [some (.int (v_law_shape)), some (.int (v_law_k)), some (.str (("abcdefghijklmnopqrstuvwxyz0123456789" : Str))), none, none, none]) rfl ?_
    refine sq_nx ?_
    refine f_seq ?_
    refine f_if ?_
    refine et_to (et_test (ev_eqI (ev_mod (ev_var rfl) ev_c (by decide)) ev_c)) ?_
    refine ifK_2 (fun hb1 => ?_) (fun hb1 => ?_)
    · have hm := R.wp_ifY hm hb1
      refine c_ret ?_
      obtain ⟨c2, hc2, hm⟩ := wp_idx hm
      obtain ⟨h3, hm⟩ := R.wp_need hm
      refine ev_to (ev_repS (ev_ixS (ev_var rfl) (ev_mod (ev_add (ev_fdiv (ev_var rfl) ev_c ⟨by decide, by decide⟩) (ev_fdiv (ev_var rfl) ev_c ⟨by decide, by decide⟩)) ev_c (by decide)) (by decide +kernel) hc2) (ev_add ev_c (ev_mod (ev_var rfl) ev_c (by decide))) h3) ?_
      exact hm _ (hS.sel [0] (by decide) rfl)
    · have hm := R.wp_ifN hm (by first | (rw [hb1]; decide) | simpa using hb1)
      refine st_nx ?_
      refine sq_nx ?_
      refine f_seq ?_
      refine c_asg ?_
      refine ev_to (ev_mod (ev_fdiv (ev_var rfl) ev_c ⟨by decide, by decide⟩) ev_c (by decide)) ?_
      obtain ⟨y4, hy4, hm⟩ := wp_let hm
      refine n_is (w := (.int (y4))) (by first | rw [hy4] | (subst hy4; rfl)) ?_
      refine c_set (σ' := [some (.int (v_law_shape)), some (.int (v_law_k)), some (.str (("abcdefghijklmnopqrstuvwxyz0123456789" : Str))), some (.int (y4)), none, none]) rfl ?_
      refine sq_nx ?_
      refine f_seq ?_
      refine c_asg ?_
      refine ev_to ev_c ?_
      refine c_set (σ' := [some (.int (v_law_shape)), some (.int (v_law_k)), some (.str (("abcdefghijklmnopqrstuvwxyz0123456789" : Str))), some (.int (y4)), some (.str (("" : Str))), none]) rfl ?_
      refine sq_nx ?_
      refine f_seq ?_
      refine c_for ?_
      refine c_rng1 ?_
      obtain ⟨h5, hm⟩ := R.wp_need hm
      refine ea_to (ea_cons (ev_add (ev_add (ev_var rfl) ev_c) (ev_mod (ev_fdiv (ev_var rfl) ev_c ⟨by decide, by decide⟩) (ev_sub ev_c (ev_var rfl)) h5)) ea_nil) ?_
      obtain ⟨h6, hm⟩ := R.wp_need hm
      refine k_rng1 h6.1 h6.2 ?_
      refine k_for (τ := Str) (fun (s7 : Str) (σ : L2.St) (H : Hp) => ∃ (w10 : Option V), σ = [some (.int (v_law_shape)), some (.int (v_law_k)), some (.str (("abcdefghijklmnopqrstuvwxyz0123456789" : Str))), some (.int (y4)), some (.str (s7)), w10] ∧ Sep H ([F] : List (Asn G))) (im := (fun _ v (x : Int) => v = .int x)) (s := (("" : Str))) (fun _ => wk_range) ⟨_, rfl, hS.sel [0] (by decide) rfl⟩ hm (fun s7 x8 v9 σ H q N hI hx hm nx => ?_) (fun s7 σ H hm hI => ?_)
      ·
        obtain ⟨w10, rfl, hS⟩ := hI
        cases hx
        refine c_gN (σ' := [some (.int (v_law_shape)), some (.int (v_law_k)), some (.str (("abcdefghijklmnopqrstuvwxyz0123456789" : Str))), some (.int (y4)), some (.str (s7)), some (.int (x8))]) rfl ?_
        refine f_if ?_
        refine et_to (et_test (ev_eqI (ev_var rfl) (ev_var rfl))) ?_
        refine ifK_J (τ := Str) (fun (s11 : Str) (σ : L2.St) (H : Hp) => σ = [some (.int (v_law_shape)), some (.int (v_law_k)), some (.str (("abcdefghijklmnopqrstuvwxyz0123456789" : Str))), some (.int (y4)), some (.str (s11)), some (.int (x8))] ∧ Sep H ([F] : List (Asn G))) hm (fun hb q hm nx => ?_) (fun hb q hm nx => ?_) (fun s11 σ H hm hI => ?_)
        ·
          refine c_asg ?_
          obtain ⟨c12, hc12, hm⟩ := wp_idx hm
          obtain ⟨h13, hm⟩ := R.wp_need hm
          refine ev_to (ev_catS (ev_var rfl) (ev_ixS (ev_var rfl) (ev_mod (ev_add (ev_fdiv (ev_var rfl) ev_c ⟨by decide, by decide⟩) (ev_fdiv (ev_var rfl) ev_c ⟨by decide, by decide⟩)) ev_c (by decide)) (by decide +kernel) hc12) h13) ?_
          obtain ⟨y14, hy14, hm⟩ := wp_let hm
          refine n_is (w := (.str (y14))) (by first | rw [hy14] | (subst hy14; rfl)) ?_
          refine c_set (σ' := [some (.int (v_law_shape)), some (.int (v_law_k)), some (.str (("abcdefghijklmnopqrstuvwxyz0123456789" : Str))), some (.int (y4)), some (.str (y14)), some (.int (x8))]) rfl ?_
          exact nx _ _ _ hm ⟨rfl, hS.sel [0] (by decide) rfl⟩
        ·
          refine f_if ?_
          refine et_to (et_test (ev_eqI (ev_var rfl) (ev_add (ev_var rfl) ev_c))) ?_
          refine ifK_J (τ := Str) (fun (s15 : Str) (σ : L2.St) (H : Hp) => σ = [some (.int (v_law_shape)), some (.int (v_law_k)), some (.str (("abcdefghijklmnopqrstuvwxyz0123456789" : Str))), some (.int (y4)), some (.str (s15)), some (.int (x8))] ∧ Sep H ([F] : List (Asn G))) hm (fun hb q hm nx => ?_) (fun hb q hm nx => ?_) (fun s15 σ H hm hI => ?_)
          ·
            refine c_asg ?_
            obtain ⟨c16, hc16, hm⟩ := wp_idx hm
            obtain ⟨h17, hm⟩ := R.wp_need hm
            refine ev_to (ev_catS (ev_var rfl) (ev_ixS (ev_var rfl) (ev_mod (ev_add (ev_fdiv (ev_var rfl) ev_c ⟨by decide, by decide⟩) (ev_var rfl)) ev_c (by decide)) (by decide +kernel) hc16) h17) ?_
            obtain ⟨y18, hy18, hm⟩ := wp_let hm
            refine n_is (w := (.str (y18))) (by first | rw [hy18] | (subst hy18; rfl)) ?_
            refine c_set (σ' := [some (.int (v_law_shape)), some (.int (v_law_k)), some (.str (("abcdefghijklmnopqrstuvwxyz0123456789" : Str))), some (.int (y4)), some (.str (y18)), some (.int (x8))]) rfl ?_
            exact nx _ _ _ hm ⟨rfl, hS.sel [0] (by decide) rfl⟩
          ·
            refine c_asg ?_
            obtain ⟨h19, hm⟩ := R.wp_need hm
            obtain ⟨c20, hc20, hm⟩ := wp_idx hm
            obtain ⟨h21, hm⟩ := R.wp_need hm
            refine ev_to (ev_catS (ev_var rfl) (ev_ixS (ev_var rfl) (ev_mod (ev_add (ev_fdiv (ev_var rfl) ev_c ⟨by decide, by decide⟩) (ev_mul (ev_var rfl) (ev_add ev_c (ev_mod (ev_var rfl) ev_c (by decide))) h19)) ev_c (by decide)) (by decide +kernel) hc20) h21) ?_
            obtain ⟨y22, hy22, hm⟩ := wp_let hm
            refine n_is (w := (.str (y22))) (by first | rw [hy22] | (subst hy22; rfl)) ?_
            refine c_set (σ' := [some (.int (v_law_shape)), some (.int (v_law_k)), some (.str (("abcdefghijklmnopqrstuvwxyz0123456789" : Str))), some (.int (y4)), some (.str (y22)), some (.int (x8))]) rfl ?_
            exact nx _ _ _ hm ⟨rfl, hS.sel [0] (by decide) rfl⟩
          · obtain ⟨rfl, hS⟩ := hI
            exact nx _ _ _ hm ⟨rfl, hS.sel [0] (by decide) rfl⟩
        · obtain ⟨rfl, hS⟩ := hI
          exact nx _ _ _ hm ⟨_, rfl, hS.sel [0] (by decide) rfl⟩
      · obtain ⟨w10, rfl, hS⟩ := hI
        refine sq_nx ?_
        refine c_ret ?_
        refine ev_to (ev_var rfl) ?_
        exact hm _ (hS.sel [0] (by decide) rfl)
def sp_law_is_list (G : Gx) : Sp := fun vs H Q E => ∃ (a_v_law_found : Addr) (v_law_found : (List Str)) (a_v_law_due : Addr) (v_law_due : (List Str)) (F : Asn G), vs = [.ref a_v_law_found, .ref a_v_law_due] ∧ Sep H ([lstA a_v_law_found (v_law_found : (List Str)), lstA a_v_law_due (v_law_due : (List Str)), F] : List (Asn G)) ∧ R.wp (m_law_is_list v_law_found v_law_due) (fun r => ∀ H', Sep H' ([lstA a_v_law_found (v_law_found : (List Str)), lstA a_v_law_due (v_law_due : (List Str)), F] : List (Asn G)) → Q (.bl (r)) H') (fun _ => False)
abbrev N_law_is_list : List Str := ["_law_found", "_law_due", "_law_one"]
theorem sc_law_is_list : FnScope N_law_is_list ["_law_found", "_law_due"] (defScope s_law_is_list) := ⟨rfl, rfl, rfl, by decide +kernel, rfl, by decide +kernel, by decide +kernel⟩
theorem ok_law_is_list (T : Txt G mg) : FnOk P w G.K mg base CX0 1 T.a_law_is_list T.fd_law_is_list ["_law_found", "_law_due"] (sp_law_is_list G) := by
  have nd := sc_law_is_list.nd
  refine Fun.ok T.F_law_is_list sc_law_is_list (fun vs H Q E h => ?_) (fun cdv A outer s H vs Q E hr h => ?_)
  · obtain ⟨a_v_law_found, v_law_found, a_v_law_due, v_law_due, F, rfl, _⟩ := h; rfl
  · obtain ⟨a_v_law_found, v_law_found, a_v_law_due, v_law_due, F, rfl, hS, hm⟩ := h
    refine ⟨_, (pss_cons (ps_if (PW.pt (pw_or (pt_not (pt_val (pe_callB (isiK G.K) (by rfl) T.z_isinstance (by decide +kernel) (pa_cons (pe_fz (pv 0)) (pa_cons (pe_bltn (v := .ty "list") (by rfl) T.z_list (by decide +kernel) rfl) pa_nil))))) (pw_or1 (pt_cmpR (neDK G.K hr.units) (pe_fz (pv 0)) (pe_fz (pv 1)) (nomark _))))) (pss_one (ps_ret pe_bl)) pss_nil)
      (pss_one (ps_ret (pe_callB (allK G.K rfl) (by rfl) T.z_all (by decide +kernel) (pa_cons (pe_fz (pe_lc (own := [("_law_one", 2)]) (g := gName 2) rfl nd (pi_listK G.K (pe_fz (pv 0))) (blkOk_by (own := [("_law_one", 2)]) (N := N_law_is_list) (sc := defScope s_law_is_list) (by decide +kernel)) (fun _ _ _ _ _ => pg_name (i := 2) nd rfl (Or.inl rfl)) (fun _ _ _ _ _ => pts_nil) (fun _ _ _ _ _ => (pe_callB (isiTK G.K) (by rfl) T.z_isinstance (by decide +kernel) (pa_cons (pv 2) (pa_cons (pe_tup (pa_cons (pe_bltn (v := .ty "str") (by rfl) T.z_str (by decide +kernel) rfl) (pa_cons (pe_bltn (v := .ty "list") (by rfl) T.z_list (by decide +kernel) rfl) pa_nil))) pa_nil)))))) pa_nil))))), ?_⟩
    unfold m_law_is_list at hm
    refine f_seq ?_
    refine f_if ?_
    refine f_or ?_
    refine et_to (et_not (et_B (ev_isi (G := G) (x := (.ref a_v_law_found)) (T := "list") (U := "list") (b := true) (ev_fz (ev_var rfl)) ev_c (ty_lst hS (i := 0) rfl) (by decide +kernel)))) ?_
    refine orK_f ?_
    obtain ⟨h1, hm⟩ := R.wp_need hm
    obtain ⟨h2, hm⟩ := R.wp_need hm
    refine et_to (et_test (ev_neP (G := G) (x := (v_law_found : (List Str))) (y := v_law_due) (ev_fz (ev_var rfl)) (ev_fz (ev_var rfl)) (dpOwn hS (i := 0) rfl) (dpOwn hS (i := 1) rfl) h1 h2 (Nat.le_of_ble_eq_true rfl))) ?_
    refine ifK_2 (fun hb3 => ?_) (fun hb3 => ?_)
    · have hm := R.wp_ifY hm hb3
      refine c_ret ?_
      refine ev_to ev_c ?_
      exact hm _ (hS.sel [0, 1, 2] (by decide) rfl)
    · have hm := R.wp_ifN hm (by first | (rw [hb3]; decide) | simpa using hb3)
      refine st_nx ?_
      refine sq_nx ?_
      refine c_ret ?_
      refine c_cb ?_
      refine c_cons ?_
      refine c_fz ?_
      refine c_lc ?_
      refine c_il ?_
      refine ev_to (ev_fz (ev_var rfl)) ?_
      refine k_il hS (i := 0) rfl ?_
      obtain ⟨h4, hm⟩ := R.wp_need hm
      refine lc_sep (β := Bool) (fun (_ : Unit) => ([lstA a_v_law_found (v_law_found : (List Str)), lstA a_v_law_due (v_law_due : (List Str)), F] : List (Asn G))) (s := ()) (im := (Im.im G)) hS (fun _ _ _ => wk_list fun _ _ h => h.sq (i := 1) rfl) h4 hm (fun p5 _ ys8 x6 v7 H q Nx hS hx hm kS kN => ?_) (fun p5 t H hm hS => ?_)
      ·
        cases hx
        refine c_gLc (σ' := [some (.ref a_v_law_found), some (.ref a_v_law_due), some (.str (x6))]) rfl rfl ?_
        refine c_yes ?_
        refine k_isiT (T := "str") (U1 := "str") (U2 := "list") (b := true) hS (ev_var rfl) (fun H hS => .base (.str _)) (by decide +kernel) fun H hS => ?_
        exact kS () _ _ _ hm rfl (hS.sel [0, 1, 2, 3] (by decide) rfl)
      · revert hm hS; generalize t = t9; intro hm hS
        refine fz_no ?_
        refine c_nil ?_
        refine ⟨_, _, rfl, (hS.sqF (i := 0) rfl), ?_⟩
        exact hm _ (hS.sel [1, 2, 3] (by decide) rfl)
def sp_law_is_list_IL (G : Gx) : Sp := fun vs H Q E => ∃ (a_v_law_found : Addr) (v_law_found : (List (List Str))) (a_v_law_due : Addr) (v_law_due : (List (List Str))) (F : Asn G), vs = [.ref a_v_law_found, .ref a_v_law_due] ∧ Sep H ([lstA a_v_law_found (v_law_found : (List (List Str))), lstA a_v_law_due (v_law_due : (List (List Str))), F] : List (Asn G)) ∧ R.wp (m_law_is_list_IL v_law_found v_law_due) (fun r => ∀ H', Sep H' ([lstA a_v_law_found (v_law_found : (List (List Str))), lstA a_v_law_due (v_law_due : (List (List Str))), F] : List (Asn G)) → Q (.bl (r)) H') (fun _ => False)
abbrev N_law_is_list_IL : List Str := ["_law_found", "_law_due", "_law_one"]
theorem sc_law_is_list_IL : FnScope N_law_is_list_IL ["_law_found", "_law_due"] (defScope s_law_is_list) := ⟨rfl, rfl, rfl, by decide +kernel, rfl, by decide +kernel, by decide +kernel⟩
theorem ok_law_is_list_IL (T : Txt G mg) : FnOk P w G.K mg base CX0 1 T.a_law_is_list T.fd_law_is_list ["_law_found", "_law_due"] (sp_law_is_list_IL G) := by
  have nd := sc_law_is_list_IL.nd
  refine Fun.ok T.F_law_is_list sc_law_is_list_IL (fun vs H Q E h => ?_) (fun cdv A outer s H vs Q E hr h => ?_)
  · obtain ⟨a_v_law_found, v_law_found, a_v_law_due, v_law_due, F, rfl, _⟩ := h; rfl
  · obtain ⟨a_v_law_found, v_law_found, a_v_law_due, v_law_due, F, rfl, hS, hm⟩ := h
    refine ⟨_, (pss_cons (ps_if (PW.pt (pw_or (pt_not (pt_val (pe_callB (isiK G.K) (by rfl) T.z_isinstance (by decide +kernel) (pa_cons (pe_fz (pv 0)) (pa_cons (pe_bltn (v := .ty "list") (by rfl) T.z_list (by decide +kernel) rfl) pa_nil))))) (pw_or1 (pt_cmpR (neDK G.K hr.units) (pe_fz (pv 0)) (pe_fz (pv 1)) (nomark _))))) (pss_one (ps_ret pe_bl)) pss_nil)
      (pss_one (ps_ret (pe_callB (allK G.K rfl) (by rfl) T.z_all (by decide +kernel) (pa_cons (pe_fz (pe_lc (own := [("_law_one", 2)]) (g := gName 2) rfl nd (pi_listK G.K (pe_fz (pv 0))) (blkOk_by (own := [("_law_one", 2)]) (N := N_law_is_list_IL) (sc := defScope s_law_is_list) (by decide +kernel)) (fun _ _ _ _ _ => pg_name (i := 2) nd rfl (Or.inl rfl)) (fun _ _ _ _ _ => pts_nil) (fun _ _ _ _ _ => (pe_callB (isiTK G.K) (by rfl) T.z_isinstance (by decide +kernel) (pa_cons (pv 2) (pa_cons (pe_tup (pa_cons (pe_bltn (v := .ty "str") (by rfl) T.z_str (by decide +kernel) rfl) (pa_cons (pe_bltn (v := .ty "list") (by rfl) T.z_list (by decide +kernel) rfl) pa_nil))) pa_nil)))))) pa_nil))))), ?_⟩
    unfold m_law_is_list_IL at hm
    refine f_seq ?_
    refine f_if ?_
    refine f_or ?_
    refine et_to (et_not (et_B (ev_isi (G := G) (x := (.ref a_v_law_found)) (T := "list") (U := "list") (b := true) (ev_fz (ev_var rfl)) ev_c (ty_lst hS (i := 0) rfl) (by decide +kernel)))) ?_
    refine orK_f ?_
    obtain ⟨h1, hm⟩ := R.wp_need hm
    obtain ⟨h2, hm⟩ := R.wp_need hm
    refine et_to (et_test (ev_neP (G := G) (x := (v_law_found : (List (List Str)))) (y := v_law_due) (ev_fz (ev_var rfl)) (ev_fz (ev_var rfl)) (dpOwn hS (i := 0) rfl) (dpOwn hS (i := 1) rfl) h1 h2 (Nat.le_of_ble_eq_true rfl))) ?_
    refine ifK_2 (fun hb3 => ?_) (fun hb3 => ?_)
    · have hm := R.wp_ifY hm hb3
      refine c_ret ?_
      refine ev_to ev_c ?_
      exact hm _ (hS.sel [0, 1, 2] (by decide) rfl)
    · have hm := R.wp_ifN hm (by first | (rw [hb3]; decide) | simpa using hb3)
      refine st_nx ?_
      refine sq_nx ?_
      refine c_ret ?_
      refine c_cb ?_
      refine c_cons ?_
      refine c_fz ?_
      refine c_lc ?_
      refine c_il ?_
      refine ev_to (ev_fz (ev_var rfl)) ?_
      refine k_il hS (i := 0) rfl ?_
      obtain ⟨h4, hm⟩ := R.wp_need hm
      refine lc_sep (β := Bool) (fun (_ : Unit) => ([lstA a_v_law_found (v_law_found : (List (List Str))), lstA a_v_law_due (v_law_due : (List (List Str))), F] : List (Asn G))) (s := ()) (im := (Im.im G)) hS (fun _ _ _ => wk_list fun _ _ h => h.sq (i := 1) rfl) h4 hm (fun p5 _ ys8 x6 v7 H q Nx hS hx hm kS kN => ?_) (fun p5 t H hm hS => ?_)
      ·
        obtain ⟨a9, rfl⟩ := isref hx
        have hS := hS.addIm (v := (.ref a9)) (x := (x6 : (List Str))) hx
        refine c_gLc (σ' := [some (.ref a_v_law_found), some (.ref a_v_law_due), some (.ref a9)]) rfl rfl ?_
        refine c_yes ?_
        refine k_isiT (T := "list") (U1 := "str") (U2 := "list") (b := true) hS (ev_var rfl) (fun H hS => ty_plst (hS.im (i := 0) rfl)) (by decide +kernel) fun H hS => ?_
        exact kS () _ _ _ hm rfl (hS.sel [1, 2, 3, 4] (by decide) rfl)
      · revert hm hS; generalize t = t11; intro hm hS
        refine fz_no ?_
        refine c_nil ?_
        refine ⟨_, _, rfl, (hS.sqF (i := 0) rfl), ?_⟩
        exact hm _ (hS.sel [1, 2, 3] (by decide) rfl)
def sp_law_is_list_P (G : Gx) : Sp := fun vs H Q E => ∃ (a_v_law_found : Addr) (v_law_found : (List Str)) (a_v_law_due : Addr) (v_law_due : (List Str)) (F : Asn G), vs = [.ref a_v_law_found, (.ref a_v_law_due)] ∧ Im.im G H (.ref a_v_law_due) v_law_due ∧ Sep H ([lstA a_v_law_found (v_law_found : (List Str)), F] : List (Asn G)) ∧ R.wp (m_law_is_list_P v_law_found v_law_due) (fun r => ∀ H', Sep H' ([lstA a_v_law_found (v_law_found : (List Str)), F] : List (Asn G)) → Q (.bl (r)) H') (fun _ => False)
abbrev N_law_is_list_P : List Str := ["_law_found", "_law_due", "_law_one"]
theorem sc_law_is_list_P : FnScope N_law_is_list_P ["_law_found", "_law_due"] (defScope s_law_is_list) := ⟨rfl, rfl, rfl, by decide +kernel, rfl, by decide +kernel, by decide +kernel⟩
theorem ok_law_is_list_P (T : Txt G mg) : FnOk P w G.K mg base CX0 1 T.a_law_is_list T.fd_law_is_list ["_law_found", "_law_due"] (sp_law_is_list_P G) := by
  have nd := sc_law_is_list_P.nd
  refine Fun.ok T.F_law_is_list sc_law_is_list_P (fun vs H Q E h => ?_) (fun cdv A outer s H vs Q E hr h => ?_)
  · obtain ⟨a_v_law_found, v_law_found, a_v_law_due, v_law_due, F, rfl, _⟩ := h; rfl
  · obtain ⟨a_v_law_found, v_law_found, a_v_law_due, v_law_due, F, rfl, him_v_law_due, hS, hm⟩ := h
    have hS := hS.addIm him_v_law_due
    refine ⟨_, (pss_cons (ps_if (PW.pt (pw_or (pt_not (pt_val (pe_callB (isiK G.K) (by rfl) T.z_isinstance (by decide +kernel) (pa_cons (pe_fz (pv 0)) (pa_cons (pe_bltn (v := .ty "list") (by rfl) T.z_list (by decide +kernel) rfl) pa_nil))))) (pw_or1 (pt_cmpR (neDK G.K hr.units) (pe_fz (pv 0)) (pv 1) (nomark _))))) (pss_one (ps_ret pe_bl)) pss_nil)
      (pss_one (ps_ret (pe_callB (allK G.K rfl) (by rfl) T.z_all (by decide +kernel) (pa_cons (pe_fz (pe_lc (own := [("_law_one", 2)]) (g := gName 2) rfl nd (pi_listK G.K (pe_fz (pv 0))) (blkOk_by (own := [("_law_one", 2)]) (N := N_law_is_list_P) (sc := defScope s_law_is_list) (by decide +kernel)) (fun _ _ _ _ _ => pg_name (i := 2) nd rfl (Or.inl rfl)) (fun _ _ _ _ _ => pts_nil) (fun _ _ _ _ _ => (pe_callB (isiTK G.K) (by rfl) T.z_isinstance (by decide +kernel) (pa_cons (pv 2) (pa_cons (pe_tup (pa_cons (pe_bltn (v := .ty "str") (by rfl) T.z_str (by decide +kernel) rfl) (pa_cons (pe_bltn (v := .ty "list") (by rfl) T.z_list (by decide +kernel) rfl) pa_nil))) pa_nil)))))) pa_nil))))), ?_⟩
    unfold m_law_is_list_P at hm
    refine f_seq ?_
    refine f_if ?_
    refine f_or ?_
    refine et_to (et_not (et_B (ev_isi (G := G) (x := (.ref a_v_law_found)) (T := "list") (U := "list") (b := true) (ev_fz (ev_var rfl)) ev_c (ty_lst hS (i := 1) rfl) (by decide +kernel)))) ?_
    refine orK_f ?_
    obtain ⟨h1, hm⟩ := R.wp_need hm
    obtain ⟨h2, hm⟩ := R.wp_need hm
    refine et_to (et_test (ev_neP (G := G) (x := (v_law_found : (List Str))) (y := v_law_due) (ev_fz (ev_var rfl)) (ev_var rfl) (dpOwn hS (i := 1) rfl) (Pd.dp (hS.im (i := 0) rfl)) h1 h2 (Nat.le_of_ble_eq_true rfl))) ?_
    refine ifK_2 (fun hb3 => ?_) (fun hb3 => ?_)
    · have hm := R.wp_ifY hm hb3
      refine c_ret ?_
      refine ev_to ev_c ?_
      exact hm _ (hS.sel [1, 2] (by decide) rfl)
    · have hm := R.wp_ifN hm (by first | (rw [hb3]; decide) | simpa using hb3)
      refine st_nx ?_
      refine sq_nx ?_
      refine c_ret ?_
      refine c_cb ?_
      refine c_cons ?_
      refine c_fz ?_
      refine c_lc ?_
      refine c_il ?_
      refine ev_to (ev_fz (ev_var rfl)) ?_
      refine k_il hS (i := 1) rfl ?_
      obtain ⟨h4, hm⟩ := R.wp_need hm
      refine lc_sep (β := Bool) (fun (_ : Unit) => ([imA (.ref a_v_law_due) (v_law_due : (List Str)), lstA a_v_law_found (v_law_found : (List Str)), F] : List (Asn G))) (s := ()) (im := (Im.im G)) hS (fun _ _ _ => wk_list fun _ _ h => h.sq (i := 2) rfl) h4 hm (fun p5 _ ys8 x6 v7 H q Nx hS hx hm kS kN => ?_) (fun p5 t H hm hS => ?_)
      ·
        cases hx
        refine c_gLc (σ' := [some (.ref a_v_law_found), some (.ref a_v_law_due), some (.str (x6))]) rfl rfl ?_
        refine c_yes ?_
        refine k_isiT (T := "str") (U1 := "str") (U2 := "list") (b := true) hS (ev_var rfl) (fun H hS => .base (.str _)) (by decide +kernel) fun H hS => ?_
        exact kS () _ _ _ hm rfl (hS.sel [0, 1, 2, 3] (by decide) rfl)
      · revert hm hS; generalize t = t9; intro hm hS
        refine fz_no ?_
        refine c_nil ?_
        refine ⟨_, _, rfl, (hS.sqF (i := 0) rfl), ?_⟩
        exact hm _ (hS.sel [2, 3] (by decide) rfl)
def sp_law_rows (G : Gx) : Sp := fun vs H Q E => ∃ (a_v_law_draws_here : Addr) (v_law_draws_here : (List Int)) (v_law_many : Int) (F : Asn G), vs = [.ref a_v_law_draws_here, (.int (v_law_many))] ∧ Sep H ([lstA a_v_law_draws_here (v_law_draws_here : (List Int)), F] : List (Asn G)) ∧ R.wp (m_law_rows v_law_draws_here v_law_many) (fun r => ∀ p H', Sep H' ([lstA p (r : (List (Str × Str))), lstA a_v_law_draws_here (v_law_draws_here : (List Int)), F] : List (Asn G)) → Q (.ref p) H') (fun _ => False)
abbrev N_law_rows : List Str := ["_law_draws_here", "_law_many", "_law_k", "_law_names", "_law_step", "_law_rows_here", "_law_pair", "_law_ways"]
theorem sc_law_rows : FnScope N_law_rows ["_law_draws_here", "_law_many"] (defScope s_law_rows) := ⟨rfl, rfl, rfl, by decide +kernel, rfl, by decide +kernel, by decide +kernel⟩
theorem ok_law_rows (T : Txt G mg) : FnOk P w G.K mg base CX0 2 T.a_law_rows T.fd_law_rows ["_law_draws_here", "_law_many"] (sp_law_rows G) := by
  have nd := sc_law_rows.nd
  refine Fun.ok T.F_law_rows sc_law_rows (fun vs H Q E h => ?_) (fun cdv A outer s H vs Q E hr h => ?_)
  · obtain ⟨a_v_law_draws_here, v_law_draws_here, v_law_many, F, rfl, _⟩ := h; rfl
  · obtain ⟨a_v_law_draws_here, v_law_draws_here, v_law_many, F, rfl, hS, hm⟩ := h
    refine ⟨_, (pss_cons (ps_setLc (i := 3) (own := [("_law_k", 2)]) (g := gName 2) rfl nd rfl rfl (sw_true rfl rfl rfl (by decide +kernel)) (pi_range1 rfl T.z_range (pa_cons (pv 1) pa_nil)) (blkOk_by (own := [("_law_k", 2)]) (N := N_law_rows) (sc := defScope s_law_rows) (by decide +kernel)) (fun _ _ _ _ _ => pg_name (i := 2) nd rfl (Or.inl rfl)) (fun _ _ _ _ _ => pts_nil) (fun _ _ _ _ _ => (pe_call (ok_law_name_by T) (hr.mono (by decide)) rfl T.g_law_name_by T.kp_law_name_by T.b_law_name_by .nil pass0 (pa_cons (pe_ix (ix_listK G.K) (pe_fz (pv 0)) pe_int (fun _ _ => rfl)) (pa_cons (pv 2) pa_nil)))))
      (pss_cons (ps_set (i := 4) nd rfl (Or.inl rfl) (pe_op op_add pe_int (pe_op op_mod (pe_ix (ix_listK G.K) (pe_fz (pv 0)) pe_int (fun _ _ => rfl)) pe_int)))
      (pss_cons (ps_set (i := 5) nd rfl (Or.inl rfl) (pe_fz (pe_lst pa_nil)))
      (pss_cons (ps_for PassesOwn.never rfl (pi_range1 rfl T.z_range (pa_cons (pv 1) pa_nil)) (pg_name (i := 2) nd rfl (Or.inl rfl)) (pss_cons (ps_set (i := 6) nd rfl (Or.inl rfl) (pe_ix (ix_listK G.K) (pe_fz (pv 3)) (pe_callB (call_min2 rfl) (by rfl) T.z_min (by decide +kernel) (pa_cons (pe_op op_sub (pv 1) pe_int) (pa_cons (pe_op op_sub (pe_op op_add (pv 2) pe_int) (pe_op op_mul pe_int (pe_op op_mod (pv 2) pe_int))) pa_nil))) (fun _ _ => rfl)))
      (pss_cons (ps_set (i := 7) nd rfl (Or.inl rfl) (pe_fz (pe_lst (pa_cons (pe_ix (ix_listK G.K) (pe_fz (pv 3)) (pe_callB (call_max2 rfl) (by rfl) T.z_max (by decide +kernel) (pa_cons pe_int (pa_cons (pe_op op_sub (pv 2) pe_int) pa_nil))) (fun _ _ => rfl)) (pa_cons (pe_ix (ix_listK G.K) (pe_fz (pv 3)) pe_int (fun _ _ => rfl)) (pa_cons (pe_op op_catS pe_str (pe_slice sl_str (pe_ix (ix_listK G.K) (pe_fz (pv 3)) pe_int (fun _ _ => rfl)) po_none (po_some pe_int))) (pa_cons (pe_ix (ix_listK G.K) (pe_fz (pv 3)) (pe_op op_mod (pe_op op_add (pv 2) (pv 4)) (pv 1)) (fun _ _ => rfl)) (pa_cons (pv 6) (pa_cons pe_str pa_nil)))))))))
      (pss_one (ps_expr (pe_bmK G.K PySem.F.plainAttrs_list PySem.F.slot_list_append PySem.F.type_list_append mt_append (pe_fz (pv 5)) (pa_cons (pe_tup (pa_cons (pe_ix (ix_listK G.K) (pe_fz (pv 3)) (pv 2) (fun _ _ => rfl)) (pa_cons (pe_ix (ix_listK G.K) (pe_fz (pv 7)) (pe_ix (ix_listK G.K) (pe_fz (pe_lst (pa_cons (pe_op op_mod (pe_ix (ix_listK G.K) (pe_fz (pv 0)) pe_int (fun _ _ => rfl)) pe_int) (pa_cons (pe_op op_mod (pe_ix (ix_listK G.K) (pe_fz (pv 0)) pe_int (fun _ _ => rfl)) pe_int) pa_nil)))) (pe_callTy call_int1 (by rfl) T.z_int (by decide +kernel) (pa_cons (pe_cmpR op_eq (pe_op op_mod (pv 2) pe_int) pe_int (nomark _)) pa_nil)) (fun _ _ => rfl)) (fun _ _ => rfl)) pa_nil))) pa_nil)))))))
      (pss_one (ps_ret (pe_fz (pv 5)))))))), ?_⟩
    unfold m_law_rows at hm
    refine f_seq ?_
    refine c_asg ?_
    refine c_lc ?_
    refine c_rng1 ?_
    refine ea_to (ea_cons (ev_var rfl) ea_nil) ?_
    obtain ⟨h1, hm⟩ := R.wp_need hm
    refine k_rng1 h1.1 h1.2 ?_
    obtain ⟨h2, hm⟩ := R.wp_need hm
    refine lc_sep (β := Str) (fun (_ : Unit) => ([lstA a_v_law_draws_here (v_law_draws_here : (List Int)), F] : List (Asn G))) (s := ()) (im := (fun _ v (x : Int) => v = .int x)) hS (fun _ _ _ => wk_range) h2 hm (fun p3 _ ys6 x4 v5 H q Nx hS hx hm kS kN => ?_) (fun p3 t H hm hS => ?_)
    ·
      cases hx
      refine c_gLc (σ' := [some (.ref a_v_law_draws_here), some (.int (v_law_many)), some (.int (x4)), none, none, none, none, none]) rfl rfl ?_
      refine c_yes ?_
      refine c_call ?_
      obtain ⟨x7, hx7, hm⟩ := wp_idx hm
      refine ea_to (ea_cons (ev_ixSq (ev_fz (ev_var rfl)) ev_c (hS.sqF (i := 1) rfl) (atI_map hx7)) (ea_cons (ev_var rfl) ea_nil)) ?_
      refine ⟨x7, x4, star [lstA p3 (ys6 : List Str), lstA a_v_law_draws_here (v_law_draws_here : (List Int)), F], rfl, Sep.unstar (M := []) (hS.sel [0, 1, 2] (by decide) rfl : Sep H (([] ++ [lstA p3 (ys6 : List Str), lstA a_v_law_draws_here (v_law_draws_here : (List Int)), F] : List (Asn G)))), R.wp_mono (R.wp_bind hm) (fun r8 hm H hS => ?_) (fun _ z => z)⟩
      have hS : Sep H ([lstA p3 (ys6 : List Str), lstA a_v_law_draws_here (v_law_draws_here : (List Int)), F] : List (Asn G)) := Sep.star (M := []) hS
      exact kS () _ _ _ hm rfl (hS.sel [0, 1, 2] (by decide) rfl)
    · revert hm hS; generalize t = t9; intro hm hS
      refine c_set (σ' := [some (.ref a_v_law_draws_here), some (.int (v_law_many)), none, some (.ref p3), none, none, none, none]) rfl ?_
      refine sq_nx ?_
      refine f_seq ?_
      refine c_asg ?_
      obtain ⟨x10, hx10, hm⟩ := wp_idx hm
      refine ev_to (ev_add ev_c (ev_mod (ev_ixSq (ev_fz (ev_var rfl)) ev_c (hS.sqF (i := 1) rfl) (atI_map hx10)) ev_c (by decide))) ?_
      obtain ⟨y11, hy11, hm⟩ := wp_let hm
      refine n_is (w := (.int (y11))) (by first | rw [hy11] | (subst hy11; rfl)) ?_
      refine c_set (σ' := [some (.ref a_v_law_draws_here), some (.int (v_law_many)), none, some (.ref p3), some (.int (y11)), none, none, none]) rfl ?_
      refine sq_nx ?_
      refine f_seq ?_
      refine c_asg ?_
      refine c_fz ?_
      refine c_lst ?_
      refine ea_to ea_nil ?_
      refine k_lst (α := (Str × Str)) (vs := []) (xs := ([] : (List (Str × Str)))) hS True.intro (by show 0 ≤ sizeLine; decide) fun p12 H hS => ?_
      refine fz_no ?_
      refine c_set (σ' := [some (.ref a_v_law_draws_here), some (.int (v_law_many)), none, some (.ref p3), some (.int (y11)), some (.ref p12), none, none]) rfl ?_
      refine sq_nx ?_
      refine f_seq ?_
      refine c_for ?_
      refine c_rng1 ?_
      refine ea_to (ea_cons (ev_var rfl) ea_nil) ?_
      obtain ⟨h13, hm⟩ := R.wp_need hm
      refine k_rng1 h13.1 h13.2 ?_
      refine k_for (τ := (List (Str × Str))) (fun (s14 : (List (Str × Str))) (σ : L2.St) (H : Hp) => ∃ (w17 w18 w19 : Option V), σ = [some (.ref a_v_law_draws_here), some (.int (v_law_many)), w17, some (.ref p3), some (.int (y11)), some (.ref p12), w18, w19] ∧ Sep H ([lstA p12 (s14 : (List (Str × Str))), lstA p3 (t9.2 : (List Str)), lstA a_v_law_draws_here (v_law_draws_here : (List Int)), F] : List (Asn G))) (im := (fun _ v (x : Int) => v = .int x)) (s := (([] : (List (Str × Str))))) (fun _ => wk_range) ⟨_, _, _, rfl, hS.sel [0, 1, 2, 3] (by decide) rfl⟩ hm (fun s14 x15 v16 σ H q N hI hx hm nx => ?_) (fun s14 σ H hm hI => ?_)
      ·
        obtain ⟨w17, w18, w19, rfl, hS⟩ := hI
        cases hx
        refine c_gN (σ' := [some (.ref a_v_law_draws_here), some (.int (v_law_many)), some (.int (x15)), some (.ref p3), some (.int (y11)), some (.ref p12), w18, w19]) rfl ?_
        refine f_seq ?_
        refine c_asg ?_
        obtain ⟨x20, hx20, hm⟩ := wp_idx hm
        refine ev_to (ev_ixSq (ev_fz (ev_var rfl)) (ev_cb (ea_cons (ev_sub (ev_var rfl) ev_c) (ea_cons (ev_sub (ev_add (ev_var rfl) ev_c) (ev_mul ev_c (ev_mod (ev_var rfl) ev_c (by decide)) (.inl (by constructor <;> decide)))) ea_nil)) fun _ q => ⟨_, _, rfl, q⟩) (hS.sqF (i := 1) rfl) (atI_map hx20)) ?_
        refine c_set (σ' := [some (.ref a_v_law_draws_here), some (.int (v_law_many)), some (.int (x15)), some (.ref p3), some (.int (y11)), some (.ref p12), some (.str (x20)), w19]) rfl ?_
        refine sq_nx ?_
        refine f_seq ?_
        refine c_asg ?_
        refine c_fz ?_
        refine c_lst ?_
        obtain ⟨x21, hx21, hm⟩ := wp_idx hm
        obtain ⟨x22, hx22, hm⟩ := wp_idx hm
        obtain ⟨x23, hx23, hm⟩ := wp_idx hm
        obtain ⟨h24, hm⟩ := R.wp_need hm
        obtain ⟨h25, hm⟩ := R.wp_need hm
        obtain ⟨h26, hm⟩ := R.wp_need hm
        obtain ⟨x27, hx27, hm⟩ := wp_idx hm
        refine ea_to (ea_cons (ev_ixSq (ev_fz (ev_var rfl)) (ev_cb (ea_cons ev_c (ea_cons (ev_sub (ev_var rfl) ev_c) ea_nil)) fun _ q => ⟨_, _, rfl, q⟩) (hS.sqF (i := 1) rfl) (atI_map hx21)) (ea_cons (ev_ixSq (ev_fz (ev_var rfl)) ev_c (hS.sqF (i := 1) rfl) (atI_map hx22)) (ea_cons (ev_catS ev_c (ev_slS (ev_ixSq (ev_fz (ev_var rfl)) ev_c (hS.sqF (i := 1) rfl) (atI_map hx23)) eo_no (eo_some ev_c) h24) h25) (ea_cons (ev_ixSq (ev_fz (ev_var rfl)) (ev_mod (ev_add (ev_var rfl) (ev_var rfl)) (ev_var rfl) h26) (hS.sqF (i := 1) rfl) (atI_map hx27)) (ea_cons (ev_var rfl) (ea_cons ev_c ea_nil)))))) ?_
        refine k_lst (α := Str) (vs := [(.str (x21)), (.str (x22)), (.str (("zz" : Str) ++ (cutS x23 none (some (18))))), (.str (x27)), (.str (x20)), (.str (("" : Str)))]) (xs := [x21, x22, ("zz" : Str) ++ (cutS x23 none (some (18))), x27, x20, ("" : Str)]) hS ⟨rfl, ⟨rfl, ⟨rfl, ⟨rfl, ⟨rfl, ⟨rfl, True.intro⟩⟩⟩⟩⟩⟩ (by show 6 ≤ sizeLine; decide) fun p28 H hS => ?_
        refine fz_no ?_
        obtain ⟨y29, hy29, hm⟩ := wp_let hm
        have hS : Sep H ([lstA p28 (y29 : (List Str)), lstA p12 (s14 : (List (Str × Str))), lstA p3 (t9.2 : (List Str)), lstA a_v_law_draws_here (v_law_draws_here : (List Int)), F] : List (Asn G)) := by rw [← hy29]; exact hS
        refine c_set (σ' := [some (.ref a_v_law_draws_here), some (.int (v_law_many)), some (.int (x15)), some (.ref p3), some (.int (y11)), some (.ref p12), some (.str (x20)), some (.ref p28)]) rfl ?_
        refine sq_nx ?_
        refine c_drop ?_
        refine c_bm ?_
        refine ev_to (ev_fz (ev_var rfl)) ⟨tyL hS (i := 1) rfl, ?_⟩
        refine c_cons ?_
        refine c_tup ?_
        refine c_cons ?_
        obtain ⟨x30, hx30, hm⟩ := wp_idx hm
        refine ev_to (ev_ixSq (ev_fz (ev_var rfl)) (ev_var rfl) (hS.sqF (i := 2) rfl) (atI_map hx30)) ?_
        refine c_cons ?_
        refine c_op ?_
        refine ev_to (ev_fz (ev_var rfl)) ?_
        refine c_op ?_
        refine c_fz ?_
        refine c_lst ?_
        obtain ⟨x31, hx31, hm⟩ := wp_idx hm
        obtain ⟨x32, hx32, hm⟩ := wp_idx hm
        refine ea_to (ea_cons (ev_mod (ev_ixSq (ev_fz (ev_var rfl)) ev_c (hS.sqF (i := 3) rfl) (atI_map hx31)) ev_c (by decide)) (ea_cons (ev_mod (ev_ixSq (ev_fz (ev_var rfl)) ev_c (hS.sqF (i := 3) rfl) (atI_map hx32)) ev_c (by decide)) ea_nil)) ?_
        refine k_lst (α := Int) (vs := [(.int (x31 % 5)), (.int (x32 % 6))]) (xs := [x31 % 5, x32 % 6]) hS ⟨rfl, ⟨rfl, True.intro⟩⟩ (by show 2 ≤ sizeLine; decide) fun p33 H hS => ?_
        refine fz_no ?_
        refine ev_to (ev_cb (ea_cons (ev_eqI (ev_mod (ev_var rfl) ev_c (by decide)) ev_c) ea_nil) fun _ q => .inr ⟨_, rfl, q⟩) ?_
        obtain ⟨x34, hx34, hm⟩ := wp_idx hm
        refine r_ixSq (hS.sqF (i := 0) rfl) (atI_map hx34) _ ?_
        obtain ⟨x35, hx35, hm⟩ := wp_idx hm
        refine r_ixSq (hS.sqF (i := 1) rfl) (atI_map hx35) _ ?_
        refine c_nil ?_
        refine k_tupP (x := ((x30, x35) : (Str × Str))) hS (fun H' p h s => mk2 rfl rfl h s) (by show 2 ≤ sizeLine; decide) fun p36 H hS => ?_
        refine c_nil ?_
        obtain ⟨h38, hm⟩ := R.wp_need hm
        refine k_append (x := (x30, x35)) hS (i := 3) rfl (hS.im (i := 0) rfl) h38 rfl fun H hS => ?_
        exact nx _ _ _ hm ⟨_, _, _, rfl, hS.sel [3, 4, 5, 6] (by decide) rfl⟩
      · obtain ⟨w17, w18, w19, rfl, hS⟩ := hI
        refine sq_nx ?_
        refine c_ret ?_
        refine ev_to (ev_fz (ev_var rfl)) ?_
        exact hm _ _ (hS.sel [0, 2, 3] (by decide) rfl)
def sp_law_order (G : Gx) : Sp := fun vs H Q E => ∃ (a_v_law_rows_here : Addr) (v_law_rows_here : (List (Str × Str))) (v_law_draw : Int) (F : Asn G), vs = [.ref a_v_law_rows_here, (.int (v_law_draw))] ∧ Sep H ([lstA a_v_law_rows_here (v_law_rows_here : (List (Str × Str))), F] : List (Asn G)) ∧ R.wp (m_law_order v_law_rows_here v_law_draw) (fun r => ∀ p H', Sep H' ([ordA p a_v_law_rows_here (v_law_rows_here : (List (Str × Str))) (r : (List (Str × Str))), F] : List (Asn G)) → Q (.ref p) H') (fun _ => False)
abbrev N_law_order : List Str := ["_law_rows_here", "_law_draw"]
theorem sc_law_order : FnScope N_law_order ["_law_rows_here", "_law_draw"] (defScope s_law_order) := ⟨rfl, rfl, rfl, by decide +kernel, rfl, by decide +kernel, by decide +kernel⟩
theorem ok_law_order (T : Txt G mg) : FnOk P w G.K mg base CX0 1 T.a_law_order T.fd_law_order ["_law_rows_here", "_law_draw"] (sp_law_order G) := by
  have nd := sc_law_order.nd
  refine Fun.ok T.F_law_order sc_law_order (fun vs H Q E h => ?_) (fun cdv A outer s H vs Q E hr h => ?_)
  · obtain ⟨a_v_law_rows_here, v_law_rows_here, v_law_draw, F, rfl, _⟩ := h; rfl
  · obtain ⟨a_v_law_rows_here, v_law_rows_here, v_law_draw, F, rfl, hS, hm⟩ := h
    refine ⟨_, (pss_cons (ps_if (pt_cmpR op_eq (pe_op op_mod (pv 1) pe_int) pe_int (nomark _)) (pss_one (ps_ret (pe_fz (pv 0)))) pss_nil)
      (pss_cons (ps_if (pt_cmpR op_eq (pe_op op_mod (pv 1) pe_int) pe_int (nomark _)) (pss_one (ps_ret (pe_fz (pe_revLK G.K (pe_fz (pv 0)))))) pss_nil)
      (pss_one (ps_ret (pe_fz (pe_op op_catR (pe_fz (pe_stepX G.K (pe_fz (pv 0)) po_none pe_int)) (pe_fz (pe_stepX G.K (pe_fz (pv 0)) (po_some pe_int) pe_int)))))))), ?_⟩
    unfold m_law_order at hm
    refine f_seq ?_
    refine f_if ?_
    refine et_to (et_test (ev_eqI (ev_mod (ev_var rfl) ev_c (by decide)) ev_c)) ?_
    refine ifK_2 (fun hb1 => ?_) (fun hb1 => ?_)
    · have hm := R.wp_ifY hm hb1
      refine c_ret ?_
      refine ev_to (ev_fz (ev_var rfl)) ?_
      exact hm _ _ (ord_same (hS.sel [0, 1] (by decide) rfl))
    · have hm := R.wp_ifN hm (by first | (rw [hb1]; decide) | simpa using hb1)
      refine st_nx ?_
      refine sq_nx ?_
      refine f_seq ?_
      refine f_if ?_
      refine et_to (et_test (ev_eqI (ev_mod (ev_var rfl) ev_c (by decide)) ev_c)) ?_
      refine ifK_2 (fun hb2 => ?_) (fun hb2 => ?_)
      · have hm := R.wp_ifY hm hb2
        refine c_ret ?_
        refine c_fz ?_
        refine c_rev ?_
        refine ev_to (ev_fz (ev_var rfl)) ?_
        refine k_rev hS (hS.sq (i := 0) rfl) fun p3 H hS => ?_
        refine fz_no ?_
        exact hm _ _ (ord_new (hS.sel [0, 1, 2] (by decide) rfl))
      · have hm := R.wp_ifN hm (by first | (rw [hb2]; decide) | simpa using hb2)
        refine st_nx ?_
        refine sq_nx ?_
        refine c_ret ?_
        refine c_fz ?_
        refine c_op ?_
        refine c_fz ?_
        refine c_stepX ?_
        refine ev_to (ev_fz (ev_var rfl)) ?_
        refine k_stepX hS (hS.sq (i := 0) rfl) eo_no ev_c (by decide) fun p4 H hS => ?_
        refine fz_no ?_
        refine c_fz ?_
        refine c_stepX ?_
        refine ev_to (ev_fz (ev_var rfl)) ?_
        refine k_stepX hS (hS.sq (i := 1) rfl) (eo_some ev_c) ev_c (by decide) fun p5 H hS => ?_
        refine fz_no ?_
        obtain ⟨h6, hm⟩ := R.wp_need hm
        refine k_catG hS (hS.rdL (i := 1) rfl) (hS.rdL (i := 0) rfl) h6 fun p7 H hS => ?_
        refine fz_no ?_
        exact hm _ _ (ord_new (hS.sel [0, 3, 4] (by decide) rfl))
def sp_law_joined (G : Gx) : Sp := fun vs H Q E => ∃ (a_v_law_rows_here : Addr) (v_law_rows_here : (List (Str × Str))) (F : Asn G), vs = [.ref a_v_law_rows_here] ∧ Sep H ([lstA a_v_law_rows_here (v_law_rows_here : (List (Str × Str))), F] : List (Asn G)) ∧ R.wp (m_law_joined v_law_rows_here) (fun r => ∀ p H', Sep H' ([lstA p (r : (List (List Str))), lstA a_v_law_rows_here (v_law_rows_here : (List (Str × Str))), F] : List (Asn G)) → Q (.ref p) H') (fun _ => False)
abbrev N_law_joined : List Str := ["_law_rows_here", "_law_groups", "_law_name", "_law_answers", "_law_keys", "_law_group", "_law_key", "_law_near", "_law_one"]
theorem sc_law_joined : FnScope N_law_joined ["_law_rows_here"] (defScope s_law_joined) := ⟨rfl, rfl, rfl, by decide +kernel, rfl, by decide +kernel, by decide +kernel⟩
theorem ok_law_joined (T : Txt G mg) : FnOk P w G.K mg base CX0 1 T.a_law_joined T.fd_law_joined ["_law_rows_here"] (sp_law_joined G) := by
  have nd := sc_law_joined.nd
  refine Fun.ok T.F_law_joined sc_law_joined (fun vs H Q E h => ?_) (fun cdv A outer s H vs Q E hr h => ?_)
  · obtain ⟨a_v_law_rows_here, v_law_rows_here, F, rfl, _⟩ := h; rfl
  · obtain ⟨a_v_law_rows_here, v_law_rows_here, F, rfl, hS, hm⟩ := h
    refine ⟨_, (pss_cons (ps_set (i := 1) nd rfl (Or.inl rfl) (pe_fz (pe_lst pa_nil)))
      (pss_cons (ps_for PassesOwn.never rfl (pi_listK G.K (pe_fz (pv 0))) (pg_tupK (n := 2) G.K rfl rfl (pgs_cons (pg_name (i := 2) nd rfl (Or.inl rfl)) (pgs_cons (pg_name (i := 3) nd rfl (Or.inl rfl)) pgs_nil))) (pss_cons (ps_set (i := 4) nd rfl (Or.inr rfl) (pe_fz (pe_op op_catR (pe_fz (pe_lst (pa_cons (pv 2) pa_nil))) (pe_fz (pe_op op_rep (pe_fz (pe_lst (pa_cons (pv 3) pa_nil))) (pe_callTy call_int1 (by rfl) T.z_int (by decide +kernel) (pa_cons (pe_cmpR op_ne (pv 3) pe_str (nomark _)) pa_nil)))))))
      (pss_cons (ps_set (i := 7) nd rfl (Or.inr rfl) (pe_fz (pe_lc (own := [("_law_group", 5)]) (g := gName 5) rfl nd (pi_listK G.K (pe_fz (pv 1))) (blkOk_by (own := [("_law_group", 5)]) (N := N_law_joined) (sc := defScope s_law_joined) (by decide +kernel)) (fun _ _ _ _ _ => pg_name (i := 5) nd rfl (Or.inr rfl)) (fun _ _ _ _ _ => pts_one (pt_cmpR (neDK G.K hr.units) (pe_fz (pe_lc (own := [("_law_key", 6)]) (g := gName 6) rfl nd (pi_listK G.K (pe_fz (pv 4))) (blkOk_by (own := [("_law_key", 6)]) (by kernel_rfl)) (fun _ _ _ _ _ => pg_name (i := 6) nd rfl (Or.inl rfl)) (fun _ _ _ _ _ => pts_one (pt_cmpR (inSqK G.K) (pv 6) (pe_ix (ix_listK G.K) (pv 5) pe_int (fun _ _ => rfl)) (by rfl))) (fun _ _ _ _ _ => (pv 6)))) (pe_fz (pe_lst pa_nil)) (nomark _))) (fun _ _ _ _ _ => (pv 5)))))
      (pss_cons (ps_set (i := 8) nd rfl (Or.inl rfl) (pe_fz (pe_lst (pa_cons (pe_fz (pe_lst (pa_cons (pv 2) pa_nil))) (pa_cons (pe_fz (pe_callTy (listSqK G.K) (by rfl) T.z_list (by decide +kernel) (pa_cons (pe_fz (pv 4)) pa_nil))) pa_nil)))))
      (pss_cons (ps_for PassesOwn.never rfl (pi_listK G.K (pe_fz (pv 7))) (pg_name (i := 5) nd rfl (Or.inl rfl)) (pss_one (ps_set (i := 8) nd rfl (Or.inl rfl) (pe_fz (pe_lst (pa_cons (pe_fz (pe_op op_catR (pe_ix (ix_listK G.K) (pv 8) pe_int (fun _ _ => rfl)) (pe_ix (ix_listK G.K) (pv 5) pe_int (fun _ _ => rfl)))) (pa_cons (pe_fz (pe_op op_catR (pe_ix (ix_listK G.K) (pv 8) pe_int (fun _ _ => rfl)) (pe_ix (ix_listK G.K) (pv 5) pe_int (fun _ _ => rfl)))) pa_nil)))))))
      (pss_one (ps_set (i := 1) nd rfl (Or.inl rfl) (pe_fz (pe_op op_catR (pe_fz (pe_lc (own := [("_law_group", 5)]) (g := gName 5) rfl nd (pi_listK G.K (pe_fz (pv 1))) (blkOk_by (own := [("_law_group", 5)]) (N := N_law_joined) (sc := defScope s_law_joined) (by decide +kernel)) (fun _ _ _ _ _ => pg_name (i := 5) nd rfl (Or.inl rfl)) (fun _ _ _ _ _ => pts_one (pt_cmpR (niDK G.K (hu0 hr)) (pv 5) (pe_fz (pv 7)) (by rfl))) (fun _ _ _ _ _ => (pv 5)))) (pe_fz (pe_lst (pa_cons (pv 8) pa_nil))))))))))))
      (pss_one (ps_ret (pe_fz (pe_callB (sortDtK G.K hr.units) (by rfl) T.z_sorted (by decide +kernel) (pa_cons (pe_fz (pe_lc (own := [("_law_group", 5)]) (g := gName 5) rfl nd (pi_listK G.K (pe_fz (pv 1))) (blkOk_by (own := [("_law_group", 5)]) (N := N_law_joined) (sc := defScope s_law_joined) (by decide +kernel)) (fun _ _ _ _ _ => pg_name (i := 5) nd rfl (Or.inl rfl)) (fun _ _ _ _ _ => pts_nil) (fun _ _ _ _ _ => (pe_fz (pe_callB (sortedSBK G.K) (by rfl) T.z_sorted (by decide +kernel) (pa_cons (pe_ix (ix_listK G.K) (pv 5) pe_int (fun _ _ => rfl)) pa_nil)))))) pa_nil))))))), ?_⟩
    unfold m_law_joined at hm
    refine f_seq ?_
    refine c_asg ?_
    refine c_fz ?_
    refine c_lst ?_
    refine ea_to ea_nil ?_
    refine k_lst (α := (List (List Str))) (vs := []) (xs := ([] : (List (List (List Str))))) hS True.intro (by show 0 ≤ sizeLine; decide) fun p1 H hS => ?_
    refine fz_no ?_
    refine c_set (σ' := [some (.ref a_v_law_rows_here), some (.ref p1), none, none, none, none, none, none, none]) rfl ?_
    refine sq_nx ?_
    refine f_seq ?_
    refine c_for ?_
    refine c_il ?_
    refine ev_to (ev_fz (ev_var rfl)) ?_
    refine k_il hS (i := 1) rfl ?_
    refine k_for (τ := (List (List (List Str)))) (fun (s2 : (List (List (List Str)))) (σ : L2.St) (H : Hp) => ∃ (w5 w6 w7 w8 w9 w10 : Option V), ∃ (a11 : Addr), σ = [some (.ref a_v_law_rows_here), some (.ref a11), w5, w6, w7, w8, none, w9, w10] ∧ Sep H ([lstA a11 (s2 : (List (List (List Str)))), lstA a_v_law_rows_here (v_law_rows_here : (List (Str × Str))), F] : List (Asn G))) (im := (Im.im G)) (s := (([] : (List (List (List Str)))))) (fun _ => wk_list fun _ _ ⟨_, _, _, _, _, _, _, _, h⟩ => h.sq (i := 1) rfl) ⟨_, _, _, _, _, _, _, rfl, hS.sel [0, 1, 2] (by decide) rfl⟩ hm (fun s2 x3 v4 σ H q N hI hx hm nx => ?_) (fun s2 σ H hm hI => ?_)
    ·
      obtain ⟨w5, w6, w7, w8, w9, w10, a11, rfl, hS⟩ := hI
      obtain ⟨a12, rfl⟩ := isref hx
      have hS := hS.addIm (v := (.ref a12)) (x := (x3 : (Str × Str))) hx
      obtain ⟨u14, u15, hT18, h16, h17⟩ := im2 (hS.im (i := 0) rfl)
      obtain rfl : u14 = (.str (x3.1)) := h16
      obtain rfl : u15 = (.str (x3.2)) := h17
      refine k_gT hT18 rfl ?_
      refine k_gC (σ' := [some (.ref a_v_law_rows_here), some (.ref a11), some (.str (x3.1)), w6, w7, w8, none, w9, w10]) rfl ?_
      refine k_gC (σ' := [some (.ref a_v_law_rows_here), some (.ref a11), some (.str (x3.1)), some (.str (x3.2)), w7, w8, none, w9, w10]) rfl ?_
      refine k_gE ?_
      refine f_seq ?_
      refine c_asg ?_
      refine c_fz ?_
      refine c_op ?_
      refine c_fz ?_
      refine c_lst ?_
      refine ea_to (ea_cons (ev_var rfl) ea_nil) ?_
      refine k_lst (α := Str) (vs := [(.str (x3.1))]) (xs := [x3.1]) hS ⟨rfl, True.intro⟩ (by show 1 ≤ sizeLine; decide) fun p19 H hS => ?_
      refine fz_no ?_
      refine c_fz ?_
      refine c_op ?_
      refine c_fz ?_
      refine c_lst ?_
      refine ea_to (ea_cons (ev_var rfl) ea_nil) ?_
      refine k_lst (α := Str) (vs := [(.str (x3.2))]) (xs := [x3.2]) hS ⟨rfl, True.intro⟩ (by show 1 ≤ sizeLine; decide) fun p20 H hS => ?_
      refine fz_no ?_
      refine ev_to (ev_cb (ea_cons (ev_neS (ev_var rfl) ev_c) ea_nil) fun _ q => .inr ⟨_, rfl, q⟩) ?_
      obtain ⟨h21, hm⟩ := R.wp_need hm
      obtain ⟨h22, hm⟩ := R.wp_need hm
      refine k_rep hS (i := 0) rfl h21 h22 fun p23 H hS => ?_
      refine fz_no ?_
      obtain ⟨h24, hm⟩ := R.wp_need hm
      refine k_catG hS (hS.rdL (i := 2) rfl) (hS.rdL (i := 0) rfl) h24 fun p25 H hS => ?_
      refine fz_no ?_
      obtain ⟨y26, hy26, hm⟩ := wp_let hm
      have hS : Sep H ([lstA p25 (y26 : (List Str)), lstA p23 (repL ([x3.2]) (if (!decide (x3.2 = ("" : Str))) = true then 1 else 0 : Int).toNat : (List Str)), lstA p20 ([x3.2] : (List Str)), lstA p19 ([x3.1] : (List Str)), imA (.ref a12) (x3 : (Str × Str)), lstA a11 (s2 : (List (List (List Str)))), lstA a_v_law_rows_here (v_law_rows_here : (List (Str × Str))), F] : List (Asn G)) := by rw [← hy26]; exact hS
      refine c_set (σ' := [some (.ref a_v_law_rows_here), some (.ref a11), some (.str (x3.1)), some (.str (x3.2)), some (.ref p25), w8, none, w9, w10]) rfl ?_
      refine sq_nx ?_
      refine f_seq ?_
      refine c_asg ?_
      refine c_fz ?_
      refine c_lc ?_
      refine c_il ?_
      refine ev_to (ev_fz (ev_var rfl)) ?_
      refine k_il hS (i := 5) rfl ?_
      obtain ⟨h27, hm⟩ := R.wp_need hm
      refine lc_sep (β := (List (List Str))) (fun (_ : Unit) => ([lstA p25 (y26 : (List Str)), lstA p23 (repL ([x3.2]) (if (!decide (x3.2 = ("" : Str))) = true then 1 else 0 : Int).toNat : (List Str)), lstA p20 ([x3.2] : (List Str)), lstA p19 ([x3.1] : (List Str)), imA (.ref a12) (x3 : (Str × Str)), lstA a11 (s2 : (List (List (List Str)))), lstA a_v_law_rows_here (v_law_rows_here : (List (Str × Str))), F] : List (Asn G))) (s := ()) (im := (Im.im G)) hS (fun _ _ _ => wk_list fun _ _ h => h.sq (i := 6) rfl) h27 hm (fun p28 _ ys31 x29 v30 H q Nx hS hx hm kS kN => ?_) (fun p28 t H hm hS => ?_)
      ·
        obtain ⟨a32, rfl⟩ := isref hx
        have hS := hS.addIm (v := (.ref a32)) (x := (x29 : (List (List Str)))) hx
        refine c_gLc (σ' := [some (.ref a_v_law_rows_here), some (.ref a11), some (.str (x3.1)), some (.str (x3.2)), some (.ref p25), some (.ref a32), none, w9, w10]) rfl rfl ?_
        refine f_test ?_
        refine c_op ?_
        refine c_fz ?_
        refine c_lc ?_
        refine c_il ?_
        refine ev_to (ev_fz (ev_var rfl)) ?_
        refine k_il hS (i := 2) rfl ?_
        obtain ⟨h34, hm⟩ := R.wp_need hm
        refine lc_sep (β := Str) (fun (_ : Unit) => ([imA (.ref a32) (x29 : (List (List Str))), lstA p28 (ys31 : List (List (List Str))), lstA p25 (y26 : (List Str)), lstA p23 (repL ([x3.2]) (if (!decide (x3.2 = ("" : Str))) = true then 1 else 0 : Int).toNat : (List Str)), lstA p20 ([x3.2] : (List Str)), lstA p19 ([x3.1] : (List Str)), imA (.ref a12) (x3 : (Str × Str)), lstA a11 (s2 : (List (List (List Str)))), lstA a_v_law_rows_here (v_law_rows_here : (List (Str × Str))), F] : List (Asn G))) (s := ()) (im := (Im.im G)) hS (fun _ _ _ => wk_list fun _ _ h => h.sq (i := 3) rfl) h34 hm (fun p35 _ ys38 x36 v37 H q Nx hS hx hm kS kN => ?_) (fun p35 t H hm hS => ?_)
        ·
          cases hx
          refine c_gLc (σ' := [some (.ref a_v_law_rows_here), some (.ref a11), some (.str (x3.1)), some (.str (x3.2)), some (.ref p25), some (.ref a32), some (.str (x36)), w9, w10]) rfl rfl ?_
          obtain ⟨x39, hx39, hm⟩ := wp_idx hm
          obtain ⟨vs40, hq41, hM42⟩ := imPl (hS.im (i := 1) rfl)
          obtain ⟨u43, hu44, hi45⟩ := atI_im hM42 hx39
          obtain ⟨a46, rfl⟩ := isref hi45
          refine et_to (et_test (ev_inPl hi45 (ev_var rfl) (ev_ixSq (ev_var rfl) ev_c hq41 hu44))) ?_
          refine lc_if (fun hb47 => ?_) (fun hb47 => ?_)
          · have hm := R.wp_ifY hm hb47
            refine ev_to (ev_var rfl) ?_
            exact kS () _ _ _ hm rfl (hS.sel [0, 1, 2, 3, 4, 5, 6, 7, 8, 9, 10] (by decide) rfl)
          · have hm := R.wp_ifN hm (by first | (rw [hb47]; decide) | simpa using hb47)
            exact kN () _ hm (hS.sel [0, 1, 2, 3, 4, 5, 6, 7, 8, 9, 10] (by decide) rfl)
        · revert hm hS; generalize t = t48; intro hm hS
          refine fz_no ?_
          refine c_fz ?_
          refine c_lst ?_
          refine ea_to ea_nil ?_
          refine k_lst (α := Str) (vs := []) (xs := ([] : (List Str))) hS True.intro (by show 0 ≤ sizeLine; decide) fun p49 H hS => ?_
          refine fz_no ?_
          obtain ⟨h50, hm⟩ := R.wp_need hm
          obtain ⟨h51, hm⟩ := R.wp_need hm
          refine ev_op2 (ev_neP (G := G) (x := (t48.2 : (List Str))) (y := ([] : (List Str))) ev_c ev_c (dpOwn hS (i := 1) rfl) (dpOwn hS (i := 0) rfl) h50 h51 (Nat.le_of_ble_eq_true rfl)) ?_
          refine f_bl ?_
          refine lc_if (fun hb52 => ?_) (fun hb52 => ?_)
          · have hm := R.wp_ifY hm hb52
            refine ev_to (ev_var rfl) ?_
            exact kS () _ _ _ hm (hS.im (i := 2) rfl) (hS.sel [3, 4, 5, 6, 7, 8, 9, 10, 11] (by decide) rfl)
          · have hm := R.wp_ifN hm (by first | (rw [hb52]; decide) | simpa using hb52)
            exact kN () _ hm (hS.sel [3, 4, 5, 6, 7, 8, 9, 10, 11] (by decide) rfl)
      · revert hm hS; generalize t = t53; intro hm hS
        refine fz_no ?_
        refine c_set (σ' := [some (.ref a_v_law_rows_here), some (.ref a11), some (.str (x3.1)), some (.str (x3.2)), some (.ref p25), w8, none, some (.ref p28), w10]) rfl ?_
        refine sq_nx ?_
        refine f_seq ?_
        refine c_asg ?_
        refine c_fz ?_
        refine c_lst ?_
        refine c_cons ?_
        refine c_fz ?_
        refine c_lst ?_
        refine ea_to (ea_cons (ev_var rfl) ea_nil) ?_
        refine k_lst (α := Str) (vs := [(.str (x3.1))]) (xs := [x3.1]) hS ⟨rfl, True.intro⟩ (by show 1 ≤ sizeLine; decide) fun p54 H hS => ?_
        refine fz_yes (xs := ([x3.1] : (List Str))) hS (i := 0) rfl fun H hS => ?_
        have hS : Sep H ([imA (.ref p54) ([x3.1] : (List Str)), lstA p28 (t53.2 : (List (List (List Str)))), lstA p25 (y26 : (List Str)), lstA p23 (repL ([x3.2]) (if (!decide (x3.2 = ("" : Str))) = true then 1 else 0 : Int).toNat : (List Str)), lstA p20 ([x3.2] : (List Str)), lstA p19 ([x3.1] : (List Str)), imA (.ref a12) (x3 : (Str × Str)), lstA a11 (s2 : (List (List (List Str)))), lstA a_v_law_rows_here (v_law_rows_here : (List (Str × Str))), F] : List (Asn G)) := hS
        refine c_cons ?_
        refine c_fz ?_
        refine c_cb ?_
        refine ea_to (ea_cons (ev_fz (ev_var rfl)) ea_nil) ?_
        refine k_listG hS (hS.sq (i := 2) rfl) fun p56 H hS => ?_
        refine fz_yes (xs := (y26 : (List Str))) hS (i := 0) rfl fun H hS => ?_
        have hS : Sep H ([imA (.ref p56) (y26 : (List Str)), imA (.ref p54) ([x3.1] : (List Str)), lstA p28 (t53.2 : (List (List (List Str)))), lstA p25 (y26 : (List Str)), lstA p23 (repL ([x3.2]) (if (!decide (x3.2 = ("" : Str))) = true then 1 else 0 : Int).toNat : (List Str)), lstA p20 ([x3.2] : (List Str)), lstA p19 ([x3.1] : (List Str)), imA (.ref a12) (x3 : (Str × Str)), lstA a11 (s2 : (List (List (List Str)))), lstA a_v_law_rows_here (v_law_rows_here : (List (Str × Str))), F] : List (Asn G)) := hS
        refine c_nil ?_
        refine k_lst (α := (List Str)) (vs := [(.ref p54), (.ref p56)]) (xs := [[x3.1], y26]) hS ⟨(hS.im (i := 1) rfl), ⟨(hS.im (i := 0) rfl), True.intro⟩⟩ (by show 2 ≤ sizeLine; decide) fun p58 H hS => ?_
        refine fz_yes (xs := ([[x3.1], y26] : (List (List Str)))) hS (i := 0) rfl fun H hS => ?_
        have hS : Sep H ([imA (.ref p58) ([[x3.1], y26] : (List (List Str))), imA (.ref p56) (y26 : (List Str)), imA (.ref p54) ([x3.1] : (List Str)), lstA p28 (t53.2 : (List (List (List Str)))), lstA p25 (y26 : (List Str)), lstA p23 (repL ([x3.2]) (if (!decide (x3.2 = ("" : Str))) = true then 1 else 0 : Int).toNat : (List Str)), lstA p20 ([x3.2] : (List Str)), lstA p19 ([x3.1] : (List Str)), imA (.ref a12) (x3 : (Str × Str)), lstA a11 (s2 : (List (List (List Str)))), lstA a_v_law_rows_here (v_law_rows_here : (List (Str × Str))), F] : List (Asn G)) := hS
        refine c_set (σ' := [some (.ref a_v_law_rows_here), some (.ref a11), some (.str (x3.1)), some (.str (x3.2)), some (.ref p25), w8, none, some (.ref p28), some (.ref p58)]) rfl ?_
        refine sq_nx ?_
        refine f_seq ?_
        refine c_for ?_
        refine c_il ?_
        refine ev_to (ev_fz (ev_var rfl)) ?_
        refine k_il hS (i := 3) rfl ?_
        have hS := hS.addIm (hS.im (i := 0) rfl)
        refine k_for (τ := (List (List Str))) (fun (s60 : (List (List Str))) (σ : L2.St) (H : Hp) => ∃ (w63 : Option V), ∃ (a64 : Addr), σ = [some (.ref a_v_law_rows_here), some (.ref a11), some (.str (x3.1)), some (.str (x3.2)), some (.ref p25), w63, none, some (.ref p28), some (.ref a64)] ∧ Sep H ([imA (.ref a64) (s60 : (List (List Str))), imA (.ref p58) ([[x3.1], y26] : (List (List Str))), imA (.ref p56) (y26 : (List Str)), imA (.ref p54) ([x3.1] : (List Str)), lstA p28 (t53.2 : (List (List (List Str)))), lstA p25 (y26 : (List Str)), lstA p23 (repL ([x3.2]) (if (!decide (x3.2 = ("" : Str))) = true then 1 else 0 : Int).toNat : (List Str)), lstA p20 ([x3.2] : (List Str)), lstA p19 ([x3.1] : (List Str)), imA (.ref a12) (x3 : (Str × Str)), lstA a11 (s2 : (List (List (List Str)))), lstA a_v_law_rows_here (v_law_rows_here : (List (Str × Str))), F] : List (Asn G))) (im := (Im.im G)) (s := ([[x3.1], y26])) (fun _ => wk_list fun _ _ ⟨_, _, _, h⟩ => h.sq (i := 4) rfl) ⟨_, _, rfl, hS.sel [1, 0, 2, 3, 4, 5, 6, 7, 8, 9, 10, 11, 12] (by decide) rfl⟩ hm (fun s60 x61 v62 σ H q N hI hx hm nx => ?_) (fun s60 σ H hm hI => ?_)
        ·
          obtain ⟨w63, a64, rfl, hS⟩ := hI
          obtain ⟨a67, rfl⟩ := isref hx
          have hS := hS.addIm (v := (.ref a67)) (x := (x61 : (List (List Str)))) hx
          refine c_gN (σ' := [some (.ref a_v_law_rows_here), some (.ref a11), some (.str (x3.1)), some (.str (x3.2)), some (.ref p25), some (.ref a67), none, some (.ref p28), some (.ref a64)]) rfl ?_
          refine c_asg ?_
          refine c_fz ?_
          refine c_lst ?_
          refine c_cons ?_
          refine c_fz ?_
          refine c_op ?_
          obtain ⟨x69, hx69, hm⟩ := wp_idx hm
          obtain ⟨vs70, hq71, hM72⟩ := imPl (hS.im (i := 1) rfl)
          obtain ⟨u73, hu74, hi75⟩ := atI_im hM72 hx69
          obtain ⟨a76, rfl⟩ := isref hi75
          refine ev_to (ev_ixSq (ev_var rfl) ev_c hq71 hu74) ?_
          have hS := hS.addIm (v := (.ref a76)) (x := (x69 : (List Str))) hi75
          obtain ⟨x78, hx78, hm⟩ := wp_idx hm
          obtain ⟨vs79, hq80, hM81⟩ := imPl (hS.im (i := 1) rfl)
          obtain ⟨u82, hu83, hi84⟩ := atI_im hM81 hx78
          obtain ⟨a85, rfl⟩ := isref hi84
          refine ev_to (ev_ixSq (ev_var rfl) ev_c hq80 hu83) ?_
          have hS := hS.addIm (v := (.ref a85)) (x := (x78 : (List Str))) hi84
          obtain ⟨h87, hm⟩ := R.wp_need hm
          refine k_catG hS (imPlR (hS.im (i := 1) rfl)) (imPlR (hS.im (i := 0) rfl)) h87 fun p88 H hS => ?_
          refine fz_yes (xs := (x69 ++ x78 : (List Str))) hS (i := 0) rfl fun H hS => ?_
          have hS : Sep H ([imA (.ref p88) (x69 ++ x78 : (List Str)), imA (.ref a85) (x78 : (List Str)), imA (.ref a76) (x69 : (List Str)), imA (.ref a67) (x61 : (List (List Str))), imA (.ref a64) (s60 : (List (List Str))), imA (.ref p58) ([[x3.1], y26] : (List (List Str))), imA (.ref p56) (y26 : (List Str)), imA (.ref p54) ([x3.1] : (List Str)), lstA p28 (t53.2 : (List (List (List Str)))), lstA p25 (y26 : (List Str)), lstA p23 (repL ([x3.2]) (if (!decide (x3.2 = ("" : Str))) = true then 1 else 0 : Int).toNat : (List Str)), lstA p20 ([x3.2] : (List Str)), lstA p19 ([x3.1] : (List Str)), imA (.ref a12) (x3 : (Str × Str)), lstA a11 (s2 : (List (List (List Str)))), lstA a_v_law_rows_here (v_law_rows_here : (List (Str × Str))), F] : List (Asn G)) := hS
          refine c_cons ?_
          refine c_fz ?_
          refine c_op ?_
          obtain ⟨x90, hx90, hm⟩ := wp_idx hm
          obtain ⟨vs91, hq92, hM93⟩ := imPl (hS.im (i := 4) rfl)
          obtain ⟨u94, hu95, hi96⟩ := atI_im hM93 hx90
          obtain ⟨a97, rfl⟩ := isref hi96
          refine ev_to (ev_ixSq (ev_var rfl) ev_c hq92 hu95) ?_
          have hS := hS.addIm (v := (.ref a97)) (x := (x90 : (List Str))) hi96
          obtain ⟨x99, hx99, hm⟩ := wp_idx hm
          obtain ⟨vs100, hq101, hM102⟩ := imPl (hS.im (i := 4) rfl)
          obtain ⟨u103, hu104, hi105⟩ := atI_im hM102 hx99
          obtain ⟨a106, rfl⟩ := isref hi105
          refine ev_to (ev_ixSq (ev_var rfl) ev_c hq101 hu104) ?_
          have hS := hS.addIm (v := (.ref a106)) (x := (x99 : (List Str))) hi105
          obtain ⟨h108, hm⟩ := R.wp_need hm
          refine k_catG hS (imPlR (hS.im (i := 1) rfl)) (imPlR (hS.im (i := 0) rfl)) h108 fun p109 H hS => ?_
          refine fz_yes (xs := (x90 ++ x99 : (List Str))) hS (i := 0) rfl fun H hS => ?_
          have hS : Sep H ([imA (.ref p109) (x90 ++ x99 : (List Str)), imA (.ref a106) (x99 : (List Str)), imA (.ref a97) (x90 : (List Str)), imA (.ref p88) (x69 ++ x78 : (List Str)), imA (.ref a85) (x78 : (List Str)), imA (.ref a76) (x69 : (List Str)), imA (.ref a67) (x61 : (List (List Str))), imA (.ref a64) (s60 : (List (List Str))), imA (.ref p58) ([[x3.1], y26] : (List (List Str))), imA (.ref p56) (y26 : (List Str)), imA (.ref p54) ([x3.1] : (List Str)), lstA p28 (t53.2 : (List (List (List Str)))), lstA p25 (y26 : (List Str)), lstA p23 (repL ([x3.2]) (if (!decide (x3.2 = ("" : Str))) = true then 1 else 0 : Int).toNat : (List Str)), lstA p20 ([x3.2] : (List Str)), lstA p19 ([x3.1] : (List Str)), imA (.ref a12) (x3 : (Str × Str)), lstA a11 (s2 : (List (List (List Str)))), lstA a_v_law_rows_here (v_law_rows_here : (List (Str × Str))), F] : List (Asn G)) := hS
          refine c_nil ?_
          refine k_lst (α := (List Str)) (vs := [(.ref p88), (.ref p109)]) (xs := [x69 ++ x78, x90 ++ x99]) hS ⟨(hS.im (i := 3) rfl), ⟨(hS.im (i := 0) rfl), True.intro⟩⟩ (by show 2 ≤ sizeLine; decide) fun p111 H hS => ?_
          refine fz_yes (xs := ([x69 ++ x78, x90 ++ x99] : (List (List Str)))) hS (i := 0) rfl fun H hS => ?_
          have hS : Sep H ([imA (.ref p111) ([x69 ++ x78, x90 ++ x99] : (List (List Str))), imA (.ref p109) (x90 ++ x99 : (List Str)), imA (.ref a106) (x99 : (List Str)), imA (.ref a97) (x90 : (List Str)), imA (.ref p88) (x69 ++ x78 : (List Str)), imA (.ref a85) (x78 : (List Str)), imA (.ref a76) (x69 : (List Str)), imA (.ref a67) (x61 : (List (List Str))), imA (.ref a64) (s60 : (List (List Str))), imA (.ref p58) ([[x3.1], y26] : (List (List Str))), imA (.ref p56) (y26 : (List Str)), imA (.ref p54) ([x3.1] : (List Str)), lstA p28 (t53.2 : (List (List (List Str)))), lstA p25 (y26 : (List Str)), lstA p23 (repL ([x3.2]) (if (!decide (x3.2 = ("" : Str))) = true then 1 else 0 : Int).toNat : (List Str)), lstA p20 ([x3.2] : (List Str)), lstA p19 ([x3.1] : (List Str)), imA (.ref a12) (x3 : (Str × Str)), lstA a11 (s2 : (List (List (List Str)))), lstA a_v_law_rows_here (v_law_rows_here : (List (Str × Str))), F] : List (Asn G)) := hS
          refine c_set (σ' := [some (.ref a_v_law_rows_here), some (.ref a11), some (.str (x3.1)), some (.str (x3.2)), some (.ref p25), some (.ref a67), none, some (.ref p28), some (.ref p111)]) rfl ?_
          exact nx _ _ _ hm ⟨_, _, rfl, hS.sel [0, 9, 10, 11, 12, 13, 14, 15, 16, 17, 18, 19, 20] (by decide) rfl⟩
        · obtain ⟨w63, a64, rfl, hS⟩ := hI
          refine sq_nx ?_
          refine c_asg ?_
          refine c_fz ?_
          refine c_op ?_
          refine c_fz ?_
          refine c_lc ?_
          refine c_il ?_
          refine ev_to (ev_fz (ev_var rfl)) ?_
          refine k_il hS (i := 10) rfl ?_
          obtain ⟨h113, hm⟩ := R.wp_need hm
          refine lc_sep (β := (List (List Str))) (fun (_ : Unit) => ([imA (.ref a64) (s60 : (List (List Str))), imA (.ref p58) ([[x3.1], y26] : (List (List Str))), imA (.ref p56) (y26 : (List Str)), imA (.ref p54) ([x3.1] : (List Str)), lstA p28 (t53.2 : (List (List (List Str)))), lstA p25 (y26 : (List Str)), lstA p23 (repL ([x3.2]) (if (!decide (x3.2 = ("" : Str))) = true then 1 else 0 : Int).toNat : (List Str)), lstA p20 ([x3.2] : (List Str)), lstA p19 ([x3.1] : (List Str)), imA (.ref a12) (x3 : (Str × Str)), lstA a11 (s2 : (List (List (List Str)))), lstA a_v_law_rows_here (v_law_rows_here : (List (Str × Str))), F] : List (Asn G))) (s := ()) (im := (Im.im G)) hS (fun _ _ _ => wk_list fun _ _ h => h.sq (i := 11) rfl) h113 hm (fun p114 _ ys117 x115 v116 H q Nx hS hx hm kS kN => ?_) (fun p114 t H hm hS => ?_)
          ·
            obtain ⟨a118, rfl⟩ := isref hx
            have hS := hS.addIm (v := (.ref a118)) (x := (x115 : (List (List Str)))) hx
            refine c_gLc (σ' := [some (.ref a_v_law_rows_here), some (.ref a11), some (.str (x3.1)), some (.str (x3.2)), some (.ref p25), some (.ref a118), none, some (.ref p28), some (.ref a64)]) rfl rfl ?_
            obtain ⟨h120, hm⟩ := R.wp_need hm
            obtain ⟨h121, hm⟩ := R.wp_need hm
            refine et_to (et_test (ev_niP (x := (x115 : (List (List Str)))) (xs := (t53.2 : (List (List (List Str))))) (ev_var rfl) (ev_fz (ev_var rfl)) (Pd.dp (hS.im (i := 0) rfl)) (dpOwn hS (i := 6) rfl) h120 h121 (Nat.le_of_ble_eq_true rfl))) ?_
            refine lc_if (fun hb122 => ?_) (fun hb122 => ?_)
            · have hm := R.wp_ifY hm hb122
              refine ev_to (ev_var rfl) ?_
              exact kS () _ _ _ hm (hS.im (i := 0) rfl) (hS.sel [1, 2, 3, 4, 5, 6, 7, 8, 9, 10, 11, 12, 13, 14] (by decide) rfl)
            · have hm := R.wp_ifN hm (by first | (rw [hb122]; decide) | simpa using hb122)
              exact kN () _ hm (hS.sel [1, 2, 3, 4, 5, 6, 7, 8, 9, 10, 11, 12, 13, 14] (by decide) rfl)
          · revert hm hS; generalize t = t123; intro hm hS
            refine fz_no ?_
            refine c_fz ?_
            refine c_lst ?_
            refine ea_to (ea_cons (ev_var rfl) ea_nil) ?_
            refine k_lst (α := (List (List Str))) (vs := [(.ref a64)]) (xs := [s60]) hS ⟨(hS.im (i := 1) rfl), True.intro⟩ (by show 1 ≤ sizeLine; decide) fun p124 H hS => ?_
            refine fz_no ?_
            obtain ⟨h125, hm⟩ := R.wp_need hm
            refine k_catG hS (hS.rdL (i := 1) rfl) (hS.rdL (i := 0) rfl) h125 fun p126 H hS => ?_
            refine fz_no ?_
            obtain ⟨y127, hy127, hm⟩ := wp_let hm
            have hS : Sep H ([lstA p126 (y127 : (List (List (List Str)))), lstA p124 ([s60] : (List (List (List Str)))), lstA p114 (t123.2 : (List (List (List Str)))), imA (.ref a64) (s60 : (List (List Str))), imA (.ref p58) ([[x3.1], y26] : (List (List Str))), imA (.ref p56) (y26 : (List Str)), imA (.ref p54) ([x3.1] : (List Str)), lstA p28 (t53.2 : (List (List (List Str)))), lstA p25 (y26 : (List Str)), lstA p23 (repL ([x3.2]) (if (!decide (x3.2 = ("" : Str))) = true then 1 else 0 : Int).toNat : (List Str)), lstA p20 ([x3.2] : (List Str)), lstA p19 ([x3.1] : (List Str)), imA (.ref a12) (x3 : (Str × Str)), lstA a11 (s2 : (List (List (List Str)))), lstA a_v_law_rows_here (v_law_rows_here : (List (Str × Str))), F] : List (Asn G)) := by rw [← hy127]; exact hS
            refine c_set (σ' := [some (.ref a_v_law_rows_here), some (.ref p126), some (.str (x3.1)), some (.str (x3.2)), some (.ref p25), w63, none, some (.ref p28), some (.ref a64)]) rfl ?_
            exact nx _ _ _ hm ⟨_, _, _, _, _, _, _, rfl, hS.sel [0, 14, 15] (by decide) rfl⟩
    · obtain ⟨w5, w6, w7, w8, w9, w10, a11, rfl, hS⟩ := hI
      refine sq_nx ?_
      refine c_ret ?_
      refine c_fz ?_
      refine c_cb ?_
      refine c_cons ?_
      refine c_fz ?_
      refine c_lc ?_
      refine c_il ?_
      refine ev_to (ev_fz (ev_var rfl)) ?_
      refine k_il hS (i := 0) rfl ?_
      obtain ⟨h128, hm⟩ := R.wp_need hm
      refine lc_sep (β := (List Str)) (fun (_ : Unit) => ([lstA a11 (s2 : (List (List (List Str)))), lstA a_v_law_rows_here (v_law_rows_here : (List (Str × Str))), F] : List (Asn G))) (s := ()) (im := (Im.im G)) hS (fun _ _ _ => wk_list fun _ _ h => h.sq (i := 1) rfl) h128 hm (fun p129 _ ys132 x130 v131 H q Nx hS hx hm kS kN => ?_) (fun p129 t H hm hS => ?_)
      ·
        obtain ⟨a133, rfl⟩ := isref hx
        have hS := hS.addIm (v := (.ref a133)) (x := (x130 : (List (List Str)))) hx
        refine c_gLc (σ' := [some (.ref a_v_law_rows_here), some (.ref a11), w5, w6, w7, some (.ref a133), none, w9, w10]) rfl rfl ?_
        refine c_yes ?_
        refine c_fz ?_
        refine c_cb ?_
        obtain ⟨x135, hx135, hm⟩ := wp_idx hm
        obtain ⟨vs136, hq137, hM138⟩ := imPl (hS.im (i := 0) rfl)
        obtain ⟨u139, hu140, hi141⟩ := atI_im hM138 hx135
        obtain ⟨a142, rfl⟩ := isref hi141
        refine ea_to (ea_cons (ev_ixSq (ev_var rfl) ev_c hq137 hu140) ea_nil) ?_
        have hS := hS.addIm (v := (.ref a142)) (x := (x135 : (List Str))) hi141
        obtain ⟨h145, hm⟩ := R.wp_need hm
        refine k_sortedB hS (imPlF (hS.im (i := 0) rfl)) h145 fun p144 H hS => ?_
        refine fz_yes (xs := (sortT x135 : (List Str))) hS (i := 0) rfl fun H hS => ?_
        have hS : Sep H ([imA (.ref p144) (sortT x135 : (List Str)), imA (.ref a142) (x135 : (List Str)), imA (.ref a133) (x130 : (List (List Str))), lstA p129 (ys132 : List (List Str)), lstA a11 (s2 : (List (List (List Str)))), lstA a_v_law_rows_here (v_law_rows_here : (List (Str × Str))), F] : List (Asn G)) := hS
        exact kS () _ _ _ hm (hS.im (i := 0) rfl) (hS.sel [3, 4, 5, 6] (by decide) rfl)
      · revert hm hS; generalize t = t147; intro hm hS
        refine fz_no ?_
        refine c_nil ?_
        obtain ⟨h149, hm⟩ := R.wp_need hm
        refine k_sortLS hS (hS.sq (i := 0) rfl) h149 fun p148 H hS => ?_
        refine fz_no ?_
        exact hm _ _ (hS.sel [0, 3, 4] (by decide) rfl)
def sp_law_deep (G : Gx) : Sp := fun vs H Q E => ∃ (a_v_law_rows_here : Addr) (v_law_rows_here : (List (Str × Str))) (v_law_name : Str) (F : Asn G), vs = [.ref a_v_law_rows_here, (.str (v_law_name))] ∧ Sep H ([lstA a_v_law_rows_here (v_law_rows_here : (List (Str × Str))), F] : List (Asn G)) ∧ R.wp (m_law_deep v_law_rows_here v_law_name) (fun r => ∀ H', Sep H' ([lstA a_v_law_rows_here (v_law_rows_here : (List (Str × Str))), F] : List (Asn G)) → Q (.int (r)) H') (fun _ => False)
abbrev N_law_deep : List Str := ["_law_rows_here", "_law_name", "_law_goes", "_law_met"]
theorem sc_law_deep : FnScope N_law_deep ["_law_rows_here", "_law_name"] (defScope s_law_deep) := ⟨rfl, rfl, rfl, by decide +kernel, rfl, by decide +kernel, by decide +kernel⟩
theorem ok_law_deep (T : Txt G mg) : FnOk P w G.K mg base CX0 1 T.a_law_deep T.fd_law_deep ["_law_rows_here", "_law_name"] (sp_law_deep G) := by
  have nd := sc_law_deep.nd
  refine Fun.ok T.F_law_deep sc_law_deep (fun vs H Q E h => ?_) (fun cdv A outer s H vs Q E hr h => ?_)
  · obtain ⟨a_v_law_rows_here, v_law_rows_here, v_law_name, F, rfl, _⟩ := h; rfl
  · obtain ⟨a_v_law_rows_here, v_law_rows_here, v_law_name, F, rfl, hS, hm⟩ := h
    refine ⟨_, (pss_cons (ps_set (i := 2) nd rfl (Or.inl rfl) (pe_callTy (dictPK G.K rfl) (by rfl) T.z_dict (by decide +kernel) (pa_cons (pe_fz (pv 0)) pa_nil)))
      (pss_cons (ps_set (i := 3) nd rfl (Or.inl rfl) (pe_fz (pe_lst (pa_cons (pv 1) pa_nil))))
      (pss_cons (ps_while PassesOwn.never (PW.pt (pw_and (pt_cmp (pc_din (hu_of hr) (pe_dget (hu_of hr) (pv 2) (pe_ix (ix_listK G.K) (pe_fz (pv 3)) (pe_un un_neg pe_int) (fun _ _ => rfl)) (fun _ _ => rfl)) (pv 2))) (pw_and1 (pt_cmpR (niSqK G.K) (pe_dget (hu_of hr) (pv 2) (pe_ix (ix_listK G.K) (pe_fz (pv 3)) (pe_un un_neg pe_int) (fun _ _ => rfl)) (fun _ _ => rfl)) (pe_fz (pv 3)) (by rfl))))) (pss_one (ps_expr (pe_bmK G.K PySem.F.plainAttrs_list PySem.F.slot_list_append PySem.F.type_list_append mt_append (pe_fz (pv 3)) (pa_cons (pe_dget (hu_of hr) (pv 2) (pe_ix (ix_listK G.K) (pe_fz (pv 3)) (pe_un un_neg pe_int) (fun _ _ => rfl)) (fun _ _ => rfl)) pa_nil)))))
      (pss_one (ps_ret (pe_op op_sub (pe_callB (lenSqK G.K) (by rfl) T.z_len PySem.boot_len (pa_cons (pe_fz (pv 3)) pa_nil)) pe_int)))))), ?_⟩
    unfold m_law_deep at hm
    refine f_seq ?_
    refine c_asg ?_
    refine c_cb ?_
    refine ea_to (ea_cons (ev_fz (ev_var rfl)) ea_nil) ?_
    refine k_dictP hS (i := 0) rfl fun p1 H hS => ?_
    have hS : Sep H ([dictA p1 (mergeD [] v_law_rows_here : (List (Str × Str))), lstA a_v_law_rows_here (v_law_rows_here : (List (Str × Str))), F] : List (Asn G)) := hS
    obtain ⟨y2, hy2, hm⟩ := wp_let hm
    have hS : Sep H ([dictA p1 (y2 : (List (Str × Str))), lstA a_v_law_rows_here (v_law_rows_here : (List (Str × Str))), F] : List (Asn G)) := by rw [← hy2]; exact hS
    refine c_set (σ' := [some (.ref a_v_law_rows_here), some (.str (v_law_name)), some (.ref p1), none]) rfl ?_
    refine sq_nx ?_
    refine f_seq ?_
    refine c_asg ?_
    refine c_fz ?_
    refine c_lst ?_
    refine ea_to (ea_cons (ev_var rfl) ea_nil) ?_
    refine k_lst (α := Str) (vs := [(.str (v_law_name))]) (xs := [v_law_name]) hS ⟨rfl, True.intro⟩ (by show 1 ≤ sizeLine; decide) fun p3 H hS => ?_
    refine fz_no ?_
    obtain ⟨y4, hy4, hm⟩ := wp_let hm
    have hS : Sep H ([lstA p3 (y4 : (List Str)), dictA p1 (y2 : (List (Str × Str))), lstA a_v_law_rows_here (v_law_rows_here : (List (Str × Str))), F] : List (Asn G)) := by rw [← hy4]; exact hS
    refine c_set (σ' := [some (.ref a_v_law_rows_here), some (.str (v_law_name)), some (.ref p1), some (.ref p3)]) rfl ?_
    refine sq_nx ?_
    refine f_seq ?_
    refine k_whileT (τ := (List Str)) (n := 100) (s := (y4)) (fun (s5 : (List Str)) (σ : L2.St) (H : Hp) => σ = [some (.ref a_v_law_rows_here), some (.str (v_law_name)), some (.ref p1), some (.ref p3)] ∧ Sep H ([lstA p3 (s5 : (List Str)), dictA p1 (y2 : (List (Str × Str))), lstA a_v_law_rows_here (v_law_rows_here : (List (Str × Str))), F] : List (Asn G))) ⟨rfl, hS.sel [0, 1, 2, 3] (by decide) rfl⟩ hm (fun s5 σ H q N hI hm nx => ?_) (fun s5 σ H q N hI hm nx => ?_) (fun s5 σ H hm hI => ?_)
    ·
      obtain ⟨rfl, hS⟩ := hI
      refine f_and ?_
      obtain ⟨x6, hx6, hm⟩ := wp_idx hm
      obtain ⟨y7, hy7, hm⟩ := wp_dget hm
      obtain ⟨v8, g9, hv10⟩ := dget_some hS (i := 1) rfl hy7
      have hv10 : v8 = (.str (y7)) := hv10
      subst hv10
      refine et_to (et_B (ev_din hS (i := 1) (k := y7) rfl (ev_dget (y := y7) hS (i := 1) rfl (ev_var rfl) (ev_ixSq (ev_fz (ev_var rfl)) (ev_un ev_c fun _ q => ⟨_, rfl, q⟩) (hS.sqF (i := 0) rfl) (atI_map hx6)) g9) (ev_var rfl))) ?_
      refine andK_J hm hS (fun hb q hm nx => ?_) (fun b11 H hm hS => ?_)
      ·
        obtain ⟨x12, hx12, hm⟩ := wp_idx hm
        obtain ⟨y13, hy13, hm⟩ := wp_dget hm
        obtain ⟨v14, g15, hv16⟩ := dget_some hS (i := 1) rfl hy13
        have hv16 : v14 = (.str (y13)) := hv16
        subst hv16
        refine et_to (et_test (ev_niL hS (i := 0) rfl (ev_dget (y := y13) hS (i := 1) rfl (ev_var rfl) (ev_ixSq (ev_fz (ev_var rfl)) (ev_un ev_c fun _ q => ⟨_, rfl, q⟩) (hS.sqF (i := 0) rfl) (atI_map hx12)) g15) (ev_fz (ev_var rfl)))) ?_
        exact nx _ _ hm (hS.sel [0, 1, 2, 3] (by decide) rfl)
      ·
        exact nx _ _ hm ⟨rfl, hS.sel [0, 1, 2, 3] (by decide) rfl⟩
    ·
      obtain ⟨rfl, hS⟩ := hI
      refine c_drop ?_
      refine c_bm ?_
      refine ev_to (ev_fz (ev_var rfl)) ⟨tyL hS (i := 0) rfl, ?_⟩
      obtain ⟨x17, hx17, hm⟩ := wp_idx hm
      obtain ⟨y18, hy18, hm⟩ := wp_dget hm
      obtain ⟨v19, g20, hv21⟩ := dget_some hS (i := 1) rfl hy18
      have hv21 : v19 = (.str (y18)) := hv21
      subst hv21
      refine ea_to (ea_cons (ev_dget (y := y18) hS (i := 1) rfl (ev_var rfl) (ev_ixSq (ev_fz (ev_var rfl)) (ev_un ev_c fun _ q => ⟨_, rfl, q⟩) (hS.sqF (i := 0) rfl) (atI_map hx17)) g20) ea_nil) ?_
      obtain ⟨h22, hm⟩ := R.wp_need hm
      refine k_append (x := y18) hS (i := 0) rfl rfl h22 rfl fun H hS => ?_
      exact nx _ _ _ hm ⟨rfl, hS.sel [0, 1, 2, 3] (by decide) rfl⟩
    · obtain ⟨rfl, hS⟩ := hI
      refine sq_nx ?_
      refine c_ret ?_
      refine ev_to (ev_sub (ev_lenLm (ev_fz (ev_var rfl)) (hS.sqF (i := 0) rfl)) ev_c) ?_
      exact hm _ (hS.sel [2, 3] (by decide) rfl)
def sp_law_stands (G : Gx) : Sp := fun vs H Q E => ∃ (a_v_law_threads : Addr) (v_law_threads : Threads) (a_v_law_rows_here : Addr) (v_law_rows_here : (List (Str × Str))) (v_law_draw : Int) (F : Asn G), vs = [.ref a_v_law_threads, .ref a_v_law_rows_here, (.int (v_law_draw))] ∧ Sep H ([ThreadsA a_v_law_threads v_law_threads, lstA a_v_law_rows_here (v_law_rows_here : (List (Str × Str))), F] : List (Asn G)) ∧ R.wp (m_law_stands v_law_threads v_law_rows_here v_law_draw) (fun r => ∀ H', Sep H' ([ThreadsA a_v_law_threads v_law_threads, lstA a_v_law_rows_here (v_law_rows_here : (List (Str × Str))), F] : List (Asn G)) → Q (.bl (r)) H') (fun _ => False)
abbrev N_law_stands : List Str := ["_law_threads", "_law_rows_here", "_law_draw", "_law_due", "_law_name", "_law_one", "_law_thread", "_law_row", "_law_answers"]
theorem sc_law_stands : FnScope N_law_stands ["_law_threads", "_law_rows_here", "_law_draw"] (defScope s_law_stands) := ⟨rfl, rfl, rfl, by decide +kernel, rfl, by decide +kernel, by decide +kernel⟩
theorem ok_law_stands (T : Txt G mg) : FnOk P w G.K mg base CX0 4 T.a_law_stands T.fd_law_stands ["_law_threads", "_law_rows_here", "_law_draw"] (sp_law_stands G) := by
  have nd := sc_law_stands.nd
  refine Fun.ok T.F_law_stands sc_law_stands (fun vs H Q E h => ?_) (fun cdv A outer s H vs Q E hr h => ?_)
  · obtain ⟨a_v_law_threads, v_law_threads, a_v_law_rows_here, v_law_rows_here, v_law_draw, F, rfl, _⟩ := h; rfl
  · obtain ⟨a_v_law_threads, v_law_threads, a_v_law_rows_here, v_law_rows_here, v_law_draw, F, rfl, hS, hm⟩ := h
    refine ⟨_, (pss_cons (ps_set (i := 3) nd rfl (Or.inl rfl) (pe_fz (pe_call (ok_law_joined T) (hr.mono (by decide)) rfl T.g_law_joined T.kp_law_joined T.b_law_joined .nil pass0 (pa_cons (pe_fz (pv 1)) pa_nil))))
      (pss_cons (ps_set (i := 4) nd rfl (Or.inr rfl) (pe_ix (ix_tupK G.K) (pe_ix (ix_listK G.K) (pe_fz (pv 1)) (pe_op op_mod (pv 2) (pe_callB (lenSqK G.K) (by rfl) T.z_len PySem.boot_len (pa_cons (pe_fz (pv 1)) pa_nil))) (fun _ _ => rfl)) pe_int (fun _ _ => rfl)))
      (pss_cons (ps_set (i := 6) nd rfl (Or.inl rfl) (pe_ix (ix_listK G.K) (pe_fz (pe_lc (own := [("_law_one", 5)]) (g := gName 5) rfl nd (pi_listK G.K (pe_fz (pv 3))) (blkOk_by (own := [("_law_one", 5)]) (N := N_law_stands) (sc := defScope s_law_stands) (by decide +kernel)) (fun _ _ _ _ _ => pg_name (i := 5) nd rfl (Or.inl rfl)) (fun _ _ _ _ _ => pts_one (pt_cmpR (inSqK G.K) (pv 4) (pv 5) (by rfl))) (fun _ _ _ _ _ => (pv 5)))) pe_int (fun _ _ => rfl)))
      (pss_cons (ps_if (PW.pt (pw_and (pt_cmpR op_eq (pe_op op_mod (pe_op op_fdiv (pv 2) pe_int) pe_int) pe_int (nomark _)) (pw_and1 (pt_not (pt_val (pe_call (ok_law_is_list_IL T) (hr.mono (by decide)) rfl T.g_law_is_list T.kp_law_is_list T.b_law_is_list .nil pass0 (pa_cons (pe_fz (pe_meth0 (pv 0) T.cl_Threads T.m_Threads_threads (ok_Threads_threads T) (hr.mono (by decide)) T.b_Threads_threads .nil pass0)) (pa_cons (pe_fz (pv 3)) pa_nil)))))))) (pss_one (ps_ret pe_bl)) pss_nil)
      (pss_cons (ps_if (PW.pt (pw_or (pt_not (pt_val (pe_call (ok_law_is_list_P T) (hr.mono (by decide)) rfl T.g_law_is_list T.kp_law_is_list T.b_law_is_list .nil pass0 (pa_cons (pe_fz (pe_meth (pv 0) T.cl_Threads T.m_Threads_thread (ok_Threads_thread T) (hr.mono (by decide)) T.b_Threads_thread .nil passL (pa_cons (pv 4) pa_nil))) (pa_cons (pv 6) pa_nil))))) (pw_or1 (pt_cmpR op_ne (pe_meth (pv 0) T.cl_Threads T.m_Threads_depth (ok_Threads_depth T) (hr.mono (by decide)) T.b_Threads_depth .nil passL (pa_cons (pv 4) pa_nil)) (pe_call (ok_law_deep T) (hr.mono (by decide)) rfl T.g_law_deep T.kp_law_deep T.b_law_deep .nil pass0 (pa_cons (pe_fz (pv 1)) (pa_cons (pv 4) pa_nil))) (nomark _))))) (pss_one (ps_ret pe_bl)) pss_nil)
      (pss_cons (ps_set (i := 8) nd rfl (Or.inl rfl) (pe_fz (pe_callB (sortedSBK G.K) (by rfl) T.z_sorted (by decide +kernel) (pa_cons (pe_fz (pe_lc (own := [("_law_row", 7)]) (g := gName 7) rfl nd (pi_listK G.K (pe_fz (pv 1))) (blkOk_by (own := [("_law_row", 7)]) (N := N_law_stands) (sc := defScope s_law_stands) (by decide +kernel)) (fun _ _ _ _ _ => pg_name (i := 7) nd rfl (Or.inl rfl)) (fun _ _ _ _ _ => pts_one (pt_cmpR op_eq (pe_ix (ix_tupK G.K) (pv 7) pe_int (fun _ _ => rfl)) (pv 4) (nomark _))) (fun _ _ _ _ _ => (pe_ix (ix_tupK G.K) (pv 7) pe_int (fun _ _ => rfl))))) pa_nil))))
      (pss_one (ps_ret (pe_and (pe_call (ok_law_is_list T) (hr.mono (by decide)) rfl T.g_law_is_list T.kp_law_is_list T.b_law_is_list .nil pass0 (pa_cons (pe_fz (pe_meth (pv 0) T.cl_Threads T.m_Threads_answers_to (ok_Threads_answers_to T) (hr.mono (by decide)) T.b_Threads_answers_to .nil pass0 (pa_cons (pv 4) pa_nil))) (pa_cons (pe_fz (pv 8)) pa_nil))) (pe_one (pe_call (ok_law_is_list_IL T) (hr.mono (by decide)) rfl T.g_law_is_list T.kp_law_is_list T.b_law_is_list .nil pass0 (pa_cons (pe_fz (pe_meth0 (pv 0) T.cl_Threads T.m_Threads_threads (ok_Threads_threads T) (hr.mono (by decide)) T.b_Threads_threads .nil pass0)) (pa_cons (pe_fz (pv 3)) pa_nil))))))))))))), ?_⟩
    unfold m_law_stands at hm
    refine f_seq ?_
    refine c_asg ?_
    refine c_fz ?_
    refine c_call ?_
    refine ea_to (ea_cons (ev_fz (ev_var rfl)) ea_nil) ?_
    refine ⟨a_v_law_rows_here, (v_law_rows_here : (List (Str × Str))), star [ThreadsA a_v_law_threads v_law_threads, F], rfl, Sep.unstar (M := [lstA a_v_law_rows_here (v_law_rows_here : (List (Str × Str)))]) (hS.sel [1, 0, 2] (by decide) rfl : Sep H (([lstA a_v_law_rows_here (v_law_rows_here : (List (Str × Str)))] ++ [ThreadsA a_v_law_threads v_law_threads, F] : List (Asn G)))), R.wp_mono (R.wp_bind hm) (fun r1 hm p2 H hS => ?_) (fun _ z => z)⟩
    have hS : Sep H ([lstA p2 (r1 : (List (List Str))), lstA a_v_law_rows_here (v_law_rows_here : (List (Str × Str))), ThreadsA a_v_law_threads v_law_threads, F] : List (Asn G)) := Sep.star (M := [lstA p2 (r1 : (List (List Str))), lstA a_v_law_rows_here (v_law_rows_here : (List (Str × Str)))]) hS
    refine fz_no ?_
    refine c_set (σ' := [some (.ref a_v_law_threads), some (.ref a_v_law_rows_here), some (.int (v_law_draw)), some (.ref p2), none, none, none, none, none]) rfl ?_
    refine sq_nx ?_
    refine f_seq ?_
    refine c_asg ?_
    obtain ⟨h3, hm⟩ := R.wp_need hm
    obtain ⟨x4, hx4, hm⟩ := wp_idx hm
    obtain ⟨vs5, hq6, hM7⟩ := hS.sq (i := 1) rfl
    obtain ⟨u8, hu9, hi10⟩ := atI_im hM7 hx4
    obtain ⟨a11, rfl⟩ := isref hi10
    obtain ⟨u12, u13, hT16, h14, h15⟩ := im2 hi10
    obtain rfl : u12 = (.str (x4.1)) := h14
    obtain rfl : u13 = (.str (x4.2)) := h15
    refine ev_to (ev_ixT (ev_ixSq (ev_fz (ev_var rfl)) (ev_mod (ev_var rfl) (ev_lenG (ev_fz (ev_var rfl)) (hS.sq (i := 1) rfl)) h3) hq6 hu9) ev_c hT16 rfl) ?_
    refine c_set (σ' := [some (.ref a_v_law_threads), some (.ref a_v_law_rows_here), some (.int (v_law_draw)), some (.ref p2), some (.str (x4.1)), none, none, none, none]) rfl ?_
    refine sq_nx ?_
    refine f_seq ?_
    refine c_asg ?_
    refine c_op ?_
    refine c_fz ?_
    refine c_lc ?_
    refine c_il ?_
    refine ev_to (ev_fz (ev_var rfl)) ?_
    refine k_il hS (i := 0) rfl ?_
    obtain ⟨h17, hm⟩ := R.wp_need hm
    refine lc_sep (β := (List Str)) (fun (_ : Unit) => ([lstA p2 (r1 : (List (List Str))), lstA a_v_law_rows_here (v_law_rows_here : (List (Str × Str))), ThreadsA a_v_law_threads v_law_threads, F] : List (Asn G))) (s := ()) (im := (Im.im G)) hS (fun _ _ _ => wk_list fun _ _ h => h.sq (i := 1) rfl) h17 hm (fun p18 _ ys21 x19 v20 H q Nx hS hx hm kS kN => ?_) (fun p18 t H hm hS => ?_)
    ·
      obtain ⟨a22, rfl⟩ := isref hx
      have hS := hS.addIm (v := (.ref a22)) (x := (x19 : (List Str))) hx
      refine c_gLc (σ' := [some (.ref a_v_law_threads), some (.ref a_v_law_rows_here), some (.int (v_law_draw)), some (.ref p2), some (.str (x4.1)), some (.ref a22), none, none, none]) rfl rfl ?_
      refine et_to (et_test (ev_inPl (hS.im (i := 0) rfl) (ev_var rfl) (ev_var rfl))) ?_
      refine lc_if (fun hb24 => ?_) (fun hb24 => ?_)
      · have hm := R.wp_ifY hm hb24
        refine ev_to (ev_var rfl) ?_
        exact kS () _ _ _ hm (hS.im (i := 0) rfl) (hS.sel [1, 2, 3, 4, 5] (by decide) rfl)
      · have hm := R.wp_ifN hm (by first | (rw [hb24]; decide) | simpa using hb24)
        exact kN () _ hm (hS.sel [1, 2, 3, 4, 5] (by decide) rfl)
    · revert hm hS; generalize t = t25; intro hm hS
      refine fz_no ?_
      refine ev_to ev_c ?_
      obtain ⟨x26, hx26, hm⟩ := wp_idx hm
      obtain ⟨vs27, hq28, hM29⟩ := hS.sq (i := 0) rfl
      obtain ⟨u30, hu31, hi32⟩ := atI_im hM29 hx26
      obtain ⟨a33, rfl⟩ := isref hi32
      refine r_ixSq hq28 hu31 _ ?_
      have hS := hS.addIm (v := (.ref a33)) (x := (x26 : (List Str))) hi32
      refine c_set (σ' := [some (.ref a_v_law_threads), some (.ref a_v_law_rows_here), some (.int (v_law_draw)), some (.ref p2), some (.str (x4.1)), none, some (.ref a33), none, none]) rfl ?_
      refine sq_nx ?_
      refine f_seq ?_
      refine f_if ?_
      refine f_and ?_
      refine et_to (et_test (ev_eqI (ev_mod (ev_fdiv (ev_var rfl) ev_c ⟨by decide, by decide⟩) ev_c (by decide)) ev_c)) ?_
      refine andK_J hm hS (fun hb q hm nx => ?_) (fun b35 H hm hS => ?_)
      ·
        refine f_not ?_
        refine f_B ?_
        refine c_call ?_
        refine c_cons ?_
        refine c_fz ?_
        refine c_meth ?_
        refine ev_to (ev_var rfl) ?_
        obtain ⟨d36, _, _, _, _, hO37⟩ := ins_Threads hS (i := 4) rfl
        refine ⟨_, _, _, rfl, hO37, rfl, ?_⟩
        refine ea_to ea_nil ?_
        refine ⟨a_v_law_threads, (v_law_threads : Threads), star [imA (.ref a33) (x26 : (List Str)), lstA p18 (t25.2 : (List (List Str))), lstA p2 (r1 : (List (List Str))), lstA a_v_law_rows_here (v_law_rows_here : (List (Str × Str))), F], rfl, Sep.unstar (M := [ThreadsA a_v_law_threads v_law_threads]) (hS.sel [4, 0, 1, 2, 3, 5] (by decide) rfl : Sep H (([ThreadsA a_v_law_threads v_law_threads] ++ [imA (.ref a33) (x26 : (List Str)), lstA p18 (t25.2 : (List (List Str))), lstA p2 (r1 : (List (List Str))), lstA a_v_law_rows_here (v_law_rows_here : (List (Str × Str))), F] : List (Asn G)))), R.wp_mono (R.wp_bind hm) (fun r38 hm p39 H hS => ?_) (fun _ z => z)⟩
        have hS : Sep H ([lstA p39 (r38 : (List (List Str))), ThreadsA a_v_law_threads v_law_threads, imA (.ref a33) (x26 : (List Str)), lstA p18 (t25.2 : (List (List Str))), lstA p2 (r1 : (List (List Str))), lstA a_v_law_rows_here (v_law_rows_here : (List (Str × Str))), F] : List (Asn G)) := Sep.star (M := [lstA p39 (r38 : (List (List Str))), ThreadsA a_v_law_threads v_law_threads]) hS
        refine fz_no ?_
        refine c_cons ?_
        refine ev_to (ev_fz (ev_var rfl)) ?_
        refine c_nil ?_
        refine ⟨p39, (r38 : (List (List Str))), p2, (r1 : (List (List Str))), star [ThreadsA a_v_law_threads v_law_threads, imA (.ref a33) (x26 : (List Str)), lstA p18 (t25.2 : (List (List Str))), lstA a_v_law_rows_here (v_law_rows_here : (List (Str × Str))), F], rfl, Sep.unstar (M := [lstA p39 (r38 : (List (List Str))), lstA p2 (r1 : (List (List Str)))]) (hS.sel [0, 4, 1, 2, 3, 5, 6] (by decide) rfl : Sep H (([lstA p39 (r38 : (List (List Str))), lstA p2 (r1 : (List (List Str)))] ++ [ThreadsA a_v_law_threads v_law_threads, imA (.ref a33) (x26 : (List Str)), lstA p18 (t25.2 : (List (List Str))), lstA a_v_law_rows_here (v_law_rows_here : (List (Str × Str))), F] : List (Asn G)))), R.wp_mono (R.wp_bind hm) (fun r40 hm H hS => ?_) (fun _ z => z)⟩
        have hS : Sep H ([lstA p39 (r38 : (List (List Str))), lstA p2 (r1 : (List (List Str))), ThreadsA a_v_law_threads v_law_threads, imA (.ref a33) (x26 : (List Str)), lstA p18 (t25.2 : (List (List Str))), lstA a_v_law_rows_here (v_law_rows_here : (List (Str × Str))), F] : List (Asn G)) := Sep.star (M := [lstA p39 (r38 : (List (List Str))), lstA p2 (r1 : (List (List Str)))]) hS
        refine f_bl ?_
        refine f_nK ?_
        exact nx _ _ hm (hS.sel [3, 4, 1, 5, 2, 6] (by decide) rfl)
      ·
        refine ifK_2 (fun hb41 => ?_) (fun hb41 => ?_)
        · have hm := R.wp_ifY hm hb41
          refine c_ret ?_
          refine ev_to ev_c ?_
          exact hm _ (hS.sel [4, 3, 5] (by decide) rfl)
        · have hm := R.wp_ifN hm (by first | (rw [hb41]; decide) | simpa using hb41)
          refine st_nx ?_
          refine sq_nx ?_
          refine f_seq ?_
          refine f_if ?_
          refine f_or ?_
          refine f_not ?_
          refine f_B ?_
          refine c_call ?_
          refine c_cons ?_
          refine c_fz ?_
          refine c_meth ?_
          refine ev_to (ev_var rfl) ?_
          obtain ⟨d42, _, _, _, _, hO43⟩ := ins_Threads hS (i := 4) rfl
          refine ⟨_, _, _, rfl, hO43, rfl, ?_⟩
          refine ea_to (ea_cons (ev_var rfl) ea_nil) ?_
          refine ⟨a_v_law_threads, (v_law_threads : Threads), x4.1, star [imA (.ref a33) (x26 : (List Str)), lstA p18 (t25.2 : (List (List Str))), lstA p2 (r1 : (List (List Str))), lstA a_v_law_rows_here (v_law_rows_here : (List (Str × Str))), F], rfl, Sep.unstar (M := [ThreadsA a_v_law_threads v_law_threads]) (hS.sel [4, 0, 1, 2, 3, 5] (by decide) rfl : Sep H (([ThreadsA a_v_law_threads v_law_threads] ++ [imA (.ref a33) (x26 : (List Str)), lstA p18 (t25.2 : (List (List Str))), lstA p2 (r1 : (List (List Str))), lstA a_v_law_rows_here (v_law_rows_here : (List (Str × Str))), F] : List (Asn G)))), R.wp_mono (R.wp_bind hm) (fun r44 hm p45 H hS => ?_) (fun _ z => z.elim)⟩
          have hS : Sep H ([lstA p45 (r44 : (List Str)), ThreadsA a_v_law_threads v_law_threads, imA (.ref a33) (x26 : (List Str)), lstA p18 (t25.2 : (List (List Str))), lstA p2 (r1 : (List (List Str))), lstA a_v_law_rows_here (v_law_rows_here : (List (Str × Str))), F] : List (Asn G)) := Sep.star (M := [lstA p45 (r44 : (List Str)), ThreadsA a_v_law_threads v_law_threads]) hS
          refine fz_no ?_
          refine c_cons ?_
          refine ev_to (ev_var rfl) ?_
          refine c_nil ?_
          refine ⟨p45, (r44 : (List Str)), a33, (x26 : (List Str)), star [ThreadsA a_v_law_threads v_law_threads, imA (.ref a33) (x26 : (List Str)), lstA p18 (t25.2 : (List (List Str))), lstA p2 (r1 : (List (List Str))), lstA a_v_law_rows_here (v_law_rows_here : (List (Str × Str))), F], rfl, (hS.im (i := 2) rfl), Sep.unstar (M := [lstA p45 (r44 : (List Str))]) (hS.sel [0, 1, 2, 3, 4, 5, 6] (by decide) rfl : Sep H (([lstA p45 (r44 : (List Str))] ++ [ThreadsA a_v_law_threads v_law_threads, imA (.ref a33) (x26 : (List Str)), lstA p18 (t25.2 : (List (List Str))), lstA p2 (r1 : (List (List Str))), lstA a_v_law_rows_here (v_law_rows_here : (List (Str × Str))), F] : List (Asn G)))), R.wp_mono (R.wp_bind hm) (fun r46 hm H hS => ?_) (fun _ z => z)⟩
          have hS : Sep H ([lstA p45 (r44 : (List Str)), ThreadsA a_v_law_threads v_law_threads, imA (.ref a33) (x26 : (List Str)), lstA p18 (t25.2 : (List (List Str))), lstA p2 (r1 : (List (List Str))), lstA a_v_law_rows_here (v_law_rows_here : (List (Str × Str))), F] : List (Asn G)) := Sep.star (M := [lstA p45 (r44 : (List Str))]) hS
          refine f_bl ?_
          refine f_nK ?_
          refine orK_J hm hS (fun hb q hm nx => ?_) (fun b47 H hm hS => ?_)
          ·
            refine f_test ?_
            refine c_op ?_
            refine c_meth ?_
            refine ev_to (ev_var rfl) ?_
            obtain ⟨d48, _, _, _, _, hO49⟩ := ins_Threads hS (i := 1) rfl
            refine ⟨_, _, _, rfl, hO49, rfl, ?_⟩
            refine ea_to (ea_cons (ev_var rfl) ea_nil) ?_
            refine ⟨a_v_law_threads, (v_law_threads : Threads), x4.1, star [lstA p45 (r44 : (List Str)), imA (.ref a33) (x26 : (List Str)), lstA p18 (t25.2 : (List (List Str))), lstA p2 (r1 : (List (List Str))), lstA a_v_law_rows_here (v_law_rows_here : (List (Str × Str))), F], rfl, Sep.unstar (M := [ThreadsA a_v_law_threads v_law_threads]) (hS.sel [1, 0, 2, 3, 4, 5, 6] (by decide) rfl : Sep H (([ThreadsA a_v_law_threads v_law_threads] ++ [lstA p45 (r44 : (List Str)), imA (.ref a33) (x26 : (List Str)), lstA p18 (t25.2 : (List (List Str))), lstA p2 (r1 : (List (List Str))), lstA a_v_law_rows_here (v_law_rows_here : (List (Str × Str))), F] : List (Asn G)))), R.wp_mono (R.wp_bind hm) (fun r50 hm H hS => ?_) (fun _ z => z.elim)⟩
            have hS : Sep H ([ThreadsA a_v_law_threads v_law_threads, lstA p45 (r44 : (List Str)), imA (.ref a33) (x26 : (List Str)), lstA p18 (t25.2 : (List (List Str))), lstA p2 (r1 : (List (List Str))), lstA a_v_law_rows_here (v_law_rows_here : (List (Str × Str))), F] : List (Asn G)) := Sep.star (M := [ThreadsA a_v_law_threads v_law_threads]) hS
            refine c_call ?_
            refine ea_to (ea_cons (ev_fz (ev_var rfl)) (ea_cons (ev_var rfl) ea_nil)) ?_
            refine ⟨a_v_law_rows_here, (v_law_rows_here : (List (Str × Str))), x4.1, star [ThreadsA a_v_law_threads v_law_threads, lstA p45 (r44 : (List Str)), imA (.ref a33) (x26 : (List Str)), lstA p18 (t25.2 : (List (List Str))), lstA p2 (r1 : (List (List Str))), F], rfl, Sep.unstar (M := [lstA a_v_law_rows_here (v_law_rows_here : (List (Str × Str)))]) (hS.sel [5, 0, 1, 2, 3, 4, 6] (by decide) rfl : Sep H (([lstA a_v_law_rows_here (v_law_rows_here : (List (Str × Str)))] ++ [ThreadsA a_v_law_threads v_law_threads, lstA p45 (r44 : (List Str)), imA (.ref a33) (x26 : (List Str)), lstA p18 (t25.2 : (List (List Str))), lstA p2 (r1 : (List (List Str))), F] : List (Asn G)))), R.wp_mono (R.wp_bind hm) (fun r51 hm H hS => ?_) (fun _ z => z)⟩
            have hS : Sep H ([lstA a_v_law_rows_here (v_law_rows_here : (List (Str × Str))), ThreadsA a_v_law_threads v_law_threads, lstA p45 (r44 : (List Str)), imA (.ref a33) (x26 : (List Str)), lstA p18 (t25.2 : (List (List Str))), lstA p2 (r1 : (List (List Str))), F] : List (Asn G)) := Sep.star (M := [lstA a_v_law_rows_here (v_law_rows_here : (List (Str × Str)))]) hS
            refine ev_op2 (ev_neI ev_c ev_c) ?_
            refine f_bl ?_
            exact nx _ _ hm (hS.sel [2, 1, 3, 4, 5, 0, 6] (by decide) rfl)
          ·
            refine ifK_2 (fun hb52 => ?_) (fun hb52 => ?_)
            · have hm := R.wp_ifY hm hb52
              refine c_ret ?_
              refine ev_to ev_c ?_
              exact hm _ (hS.sel [1, 5, 6] (by decide) rfl)
            · have hm := R.wp_ifN hm (by first | (rw [hb52]; decide) | simpa using hb52)
              refine st_nx ?_
              refine sq_nx ?_
              refine f_seq ?_
              refine c_asg ?_
              refine c_fz ?_
              refine c_cb ?_
              refine c_cons ?_
              refine c_fz ?_
              refine c_lc ?_
              refine c_il ?_
              refine ev_to (ev_fz (ev_var rfl)) ?_
              refine k_il hS (i := 5) rfl ?_
              obtain ⟨h53, hm⟩ := R.wp_need hm
              refine lc_sep (β := Str) (fun (_ : Unit) => ([lstA p45 (r44 : (List Str)), ThreadsA a_v_law_threads v_law_threads, imA (.ref a33) (x26 : (List Str)), lstA p18 (t25.2 : (List (List Str))), lstA p2 (r1 : (List (List Str))), lstA a_v_law_rows_here (v_law_rows_here : (List (Str × Str))), F] : List (Asn G))) (s := ()) (im := (Im.im G)) hS (fun _ _ _ => wk_list fun _ _ h => h.sq (i := 6) rfl) h53 hm (fun p54 _ ys57 x55 v56 H q Nx hS hx hm kS kN => ?_) (fun p54 t H hm hS => ?_)
              ·
                obtain ⟨a58, rfl⟩ := isref hx
                have hS := hS.addIm (v := (.ref a58)) (x := (x55 : (Str × Str))) hx
                refine c_gLc (σ' := [some (.ref a_v_law_threads), some (.ref a_v_law_rows_here), some (.int (v_law_draw)), some (.ref p2), some (.str (x4.1)), none, some (.ref a33), some (.ref a58), none]) rfl rfl ?_
                obtain ⟨u60, u61, hT64, h62, h63⟩ := im2 (hS.im (i := 0) rfl)
                obtain rfl : u60 = (.str (x55.1)) := h62
                obtain rfl : u61 = (.str (x55.2)) := h63
                refine et_to (et_test (ev_eqS (ev_ixT (ev_var rfl) ev_c hT64 rfl) (ev_var rfl))) ?_
                refine lc_if (fun hb65 => ?_) (fun hb65 => ?_)
                · have hm := R.wp_ifY hm hb65
                  obtain ⟨u66, u67, hT70, h68, h69⟩ := im2 (hS.im (i := 0) rfl)
                  obtain rfl : u66 = (.str (x55.1)) := h68
                  obtain rfl : u67 = (.str (x55.2)) := h69
                  refine ev_to (ev_ixT (ev_var rfl) ev_c hT70 rfl) ?_
                  exact kS () _ _ _ hm rfl (hS.sel [1, 2, 3, 4, 5, 6, 7, 8] (by decide) rfl)
                · have hm := R.wp_ifN hm (by first | (rw [hb65]; decide) | simpa using hb65)
                  exact kN () _ hm (hS.sel [1, 2, 3, 4, 5, 6, 7, 8] (by decide) rfl)
              · revert hm hS; generalize t = t71; intro hm hS
                refine fz_no ?_
                refine c_nil ?_
                obtain ⟨h73, hm⟩ := R.wp_need hm
                refine k_sortedB hS (hS.sqF (i := 0) rfl) h73 fun p72 H hS => ?_
                refine fz_no ?_
                obtain ⟨y74, hy74, hm⟩ := wp_let hm
                have hS : Sep H ([lstA p72 (y74 : (List Str)), lstA p54 (t71.2 : (List Str)), lstA p45 (r44 : (List Str)), ThreadsA a_v_law_threads v_law_threads, imA (.ref a33) (x26 : (List Str)), lstA p18 (t25.2 : (List (List Str))), lstA p2 (r1 : (List (List Str))), lstA a_v_law_rows_here (v_law_rows_here : (List (Str × Str))), F] : List (Asn G)) := by rw [← hy74]; exact hS
                refine c_set (σ' := [some (.ref a_v_law_threads), some (.ref a_v_law_rows_here), some (.int (v_law_draw)), some (.ref p2), some (.str (x4.1)), none, some (.ref a33), none, some (.ref p72)]) rfl ?_
                refine sq_nx ?_
                refine c_ret ?_
                refine f_andV ?_
                refine c_call ?_
                refine c_cons ?_
                refine c_fz ?_
                refine c_meth ?_
                refine ev_to (ev_var rfl) ?_
                obtain ⟨d75, _, _, _, _, hO76⟩ := ins_Threads hS (i := 3) rfl
                refine ⟨_, _, _, rfl, hO76, rfl, ?_⟩
                refine ea_to (ea_cons (ev_var rfl) ea_nil) ?_
                refine ⟨a_v_law_threads, (v_law_threads : Threads), x4.1, star [lstA p72 (y74 : (List Str)), lstA p54 (t71.2 : (List Str)), lstA p45 (r44 : (List Str)), imA (.ref a33) (x26 : (List Str)), lstA p18 (t25.2 : (List (List Str))), lstA p2 (r1 : (List (List Str))), lstA a_v_law_rows_here (v_law_rows_here : (List (Str × Str))), F], rfl, Sep.unstar (M := [ThreadsA a_v_law_threads v_law_threads]) (hS.sel [3, 0, 1, 2, 4, 5, 6, 7, 8] (by decide) rfl : Sep H (([ThreadsA a_v_law_threads v_law_threads] ++ [lstA p72 (y74 : (List Str)), lstA p54 (t71.2 : (List Str)), lstA p45 (r44 : (List Str)), imA (.ref a33) (x26 : (List Str)), lstA p18 (t25.2 : (List (List Str))), lstA p2 (r1 : (List (List Str))), lstA a_v_law_rows_here (v_law_rows_here : (List (Str × Str))), F] : List (Asn G)))), R.wp_mono (R.wp_bind hm) (fun r77 hm p78 H hS => ?_) (fun _ z => z)⟩
                have hS : Sep H ([lstA p78 (r77 : (List Str)), ThreadsA a_v_law_threads v_law_threads, lstA p72 (y74 : (List Str)), lstA p54 (t71.2 : (List Str)), lstA p45 (r44 : (List Str)), imA (.ref a33) (x26 : (List Str)), lstA p18 (t25.2 : (List (List Str))), lstA p2 (r1 : (List (List Str))), lstA a_v_law_rows_here (v_law_rows_here : (List (Str × Str))), F] : List (Asn G)) := Sep.star (M := [lstA p78 (r77 : (List Str)), ThreadsA a_v_law_threads v_law_threads]) hS
                refine fz_no ?_
                refine c_cons ?_
                refine ev_to (ev_fz (ev_var rfl)) ?_
                refine c_nil ?_
                refine ⟨p78, (r77 : (List Str)), p72, (y74 : (List Str)), star [ThreadsA a_v_law_threads v_law_threads, lstA p54 (t71.2 : (List Str)), lstA p45 (r44 : (List Str)), imA (.ref a33) (x26 : (List Str)), lstA p18 (t25.2 : (List (List Str))), lstA p2 (r1 : (List (List Str))), lstA a_v_law_rows_here (v_law_rows_here : (List (Str × Str))), F], rfl, Sep.unstar (M := [lstA p78 (r77 : (List Str)), lstA p72 (y74 : (List Str))]) (hS.sel [0, 2, 1, 3, 4, 5, 6, 7, 8, 9] (by decide) rfl : Sep H (([lstA p78 (r77 : (List Str)), lstA p72 (y74 : (List Str))] ++ [ThreadsA a_v_law_threads v_law_threads, lstA p54 (t71.2 : (List Str)), lstA p45 (r44 : (List Str)), imA (.ref a33) (x26 : (List Str)), lstA p18 (t25.2 : (List (List Str))), lstA p2 (r1 : (List (List Str))), lstA a_v_law_rows_here (v_law_rows_here : (List (Str × Str))), F] : List (Asn G)))), R.wp_mono (R.wp_bind hm) (fun r79 hm H hS => ?_) (fun _ z => z)⟩
                have hS : Sep H ([lstA p78 (r77 : (List Str)), lstA p72 (y74 : (List Str)), ThreadsA a_v_law_threads v_law_threads, lstA p54 (t71.2 : (List Str)), lstA p45 (r44 : (List Str)), imA (.ref a33) (x26 : (List Str)), lstA p18 (t25.2 : (List (List Str))), lstA p2 (r1 : (List (List Str))), lstA a_v_law_rows_here (v_law_rows_here : (List (Str × Str))), F] : List (Asn G)) := Sep.star (M := [lstA p78 (r77 : (List Str)), lstA p72 (y74 : (List Str))]) hS
                refine andVK_J hm hS (fun hb q hm nx => ?_) (fun b80 H hm hS => ?_)
                ·
                  refine c_call ?_
                  refine c_cons ?_
                  refine c_fz ?_
                  refine c_meth ?_
                  refine ev_to (ev_var rfl) ?_
                  obtain ⟨d81, _, _, _, _, hO82⟩ := ins_Threads hS (i := 2) rfl
                  refine ⟨_, _, _, rfl, hO82, rfl, ?_⟩
                  refine ea_to ea_nil ?_
                  refine ⟨a_v_law_threads, (v_law_threads : Threads), star [lstA p78 (r77 : (List Str)), lstA p72 (y74 : (List Str)), lstA p54 (t71.2 : (List Str)), lstA p45 (r44 : (List Str)), imA (.ref a33) (x26 : (List Str)), lstA p18 (t25.2 : (List (List Str))), lstA p2 (r1 : (List (List Str))), lstA a_v_law_rows_here (v_law_rows_here : (List (Str × Str))), F], rfl, Sep.unstar (M := [ThreadsA a_v_law_threads v_law_threads]) (hS.sel [2, 0, 1, 3, 4, 5, 6, 7, 8, 9] (by decide) rfl : Sep H (([ThreadsA a_v_law_threads v_law_threads] ++ [lstA p78 (r77 : (List Str)), lstA p72 (y74 : (List Str)), lstA p54 (t71.2 : (List Str)), lstA p45 (r44 : (List Str)), imA (.ref a33) (x26 : (List Str)), lstA p18 (t25.2 : (List (List Str))), lstA p2 (r1 : (List (List Str))), lstA a_v_law_rows_here (v_law_rows_here : (List (Str × Str))), F] : List (Asn G)))), R.wp_mono (R.wp_bind hm) (fun r83 hm p84 H hS => ?_) (fun _ z => z)⟩
                  have hS : Sep H ([lstA p84 (r83 : (List (List Str))), ThreadsA a_v_law_threads v_law_threads, lstA p78 (r77 : (List Str)), lstA p72 (y74 : (List Str)), lstA p54 (t71.2 : (List Str)), lstA p45 (r44 : (List Str)), imA (.ref a33) (x26 : (List Str)), lstA p18 (t25.2 : (List (List Str))), lstA p2 (r1 : (List (List Str))), lstA a_v_law_rows_here (v_law_rows_here : (List (Str × Str))), F] : List (Asn G)) := Sep.star (M := [lstA p84 (r83 : (List (List Str))), ThreadsA a_v_law_threads v_law_threads]) hS
                  refine fz_no ?_
                  refine c_cons ?_
                  refine ev_to (ev_fz (ev_var rfl)) ?_
                  refine c_nil ?_
                  refine ⟨p84, (r83 : (List (List Str))), p2, (r1 : (List (List Str))), star [ThreadsA a_v_law_threads v_law_threads, lstA p78 (r77 : (List Str)), lstA p72 (y74 : (List Str)), lstA p54 (t71.2 : (List Str)), lstA p45 (r44 : (List Str)), imA (.ref a33) (x26 : (List Str)), lstA p18 (t25.2 : (List (List Str))), lstA a_v_law_rows_here (v_law_rows_here : (List (Str × Str))), F], rfl, Sep.unstar (M := [lstA p84 (r83 : (List (List Str))), lstA p2 (r1 : (List (List Str)))]) (hS.sel [0, 8, 1, 2, 3, 4, 5, 6, 7, 9, 10] (by decide) rfl : Sep H (([lstA p84 (r83 : (List (List Str))), lstA p2 (r1 : (List (List Str)))] ++ [ThreadsA a_v_law_threads v_law_threads, lstA p78 (r77 : (List Str)), lstA p72 (y74 : (List Str)), lstA p54 (t71.2 : (List Str)), lstA p45 (r44 : (List Str)), imA (.ref a33) (x26 : (List Str)), lstA p18 (t25.2 : (List (List Str))), lstA a_v_law_rows_here (v_law_rows_here : (List (Str × Str))), F] : List (Asn G)))), R.wp_mono (R.wp_bind hm) (fun r85 hm H hS => ?_) (fun _ z => z)⟩
                  have hS : Sep H ([lstA p84 (r83 : (List (List Str))), lstA p2 (r1 : (List (List Str))), ThreadsA a_v_law_threads v_law_threads, lstA p78 (r77 : (List Str)), lstA p72 (y74 : (List Str)), lstA p54 (t71.2 : (List Str)), lstA p45 (r44 : (List Str)), imA (.ref a33) (x26 : (List Str)), lstA p18 (t25.2 : (List (List Str))), lstA a_v_law_rows_here (v_law_rows_here : (List (Str × Str))), F] : List (Asn G)) := Sep.star (M := [lstA p84 (r83 : (List (List Str))), lstA p2 (r1 : (List (List Str)))]) hS
                  exact nx _ _ hm (hS.sel [3, 4, 2, 5, 6, 7, 8, 1, 9, 10] (by decide) rfl)
                ·
                  exact hm _ (hS.sel [2, 8, 9] (by decide) rfl)
def sp_law (G : Gx) : Sp := fun vs H Q E => ∃ (a_v_law_script : V) (v_law_script : Script) (F : Asn G), vs = [a_v_law_script] ∧ Im.im G H a_v_law_script v_law_script ∧ Sep H ([F] : List (Asn G)) ∧ R.wp (m_law v_law_script) (fun r => ∀ H', Sep H' ([F] : List (Asn G)) → Q (.bl (r)) H') (fun _ => False)
abbrev N_law : List Str := ["_law_script", "_law_draws_here", "_law_many", "_law_rows_here", "_law_threads", "_law_name", "_law_answers", "_law_gone", "_law_k", "_law_other"]
theorem sc_law : FnScope N_law ["_law_script"] (defScope s_law) := ⟨rfl, rfl, rfl, by decide +kernel, rfl, by decide +kernel, by decide +kernel⟩
theorem ok_law (T : Txt G mg) : FnOk P w G.K mg base CX0 5 T.a_law T.fd_law ["_law_script"] (sp_law G) := by
  have nd := sc_law.nd
  refine Fun.ok T.F_law sc_law (fun vs H Q E h => ?_) (fun cdv A outer s H vs Q E hr h => ?_)
  · obtain ⟨a_v_law_script, v_law_script, F, rfl, _⟩ := h; rfl
  · obtain ⟨a_v_law_script, v_law_script, F, rfl, him_v_law_script, hS, hm⟩ := h
    obtain ⟨ad_v_law_script, rfl, _⟩ := im_script him_v_law_script
    have hS := hS.addIm him_v_law_script
    refine ⟨_, (pss_cons (ps_set (i := 1) nd rfl (Or.inl rfl) (pe_fz (pe_call (ok_law_draws T) (hr.mono (by decide)) rfl T.g_law_draws T.kp_law_draws T.b_law_draws .nil pass0 (pa_cons (pv 0) (pa_cons pe_int pa_nil)))))
      (pss_cons (ps_set (i := 2) nd rfl (Or.inl rfl) (pe_op op_add pe_int (pe_op op_mod (pe_ix (ix_listK G.K) (pe_fz (pv 1)) pe_int (fun _ _ => rfl)) pe_int)))
      (pss_cons (ps_if (pt_cmpR op_eq (pe_op op_mod (pe_ix (ix_listK G.K) (pe_fz (pv 1)) pe_int (fun _ _ => rfl)) pe_int) pe_int (nomark _)) (pss_one (ps_set (i := 2) nd rfl (Or.inl rfl) (pe_op op_add pe_int (pe_op op_mod (pe_ix (ix_listK G.K) (pe_fz (pv 1)) pe_int (fun _ _ => rfl)) pe_int)))) pss_nil)
      (pss_cons (ps_set (i := 3) nd rfl (Or.inl rfl) (pe_fz (pe_call (ok_law_rows T) (hr.mono (by decide)) rfl T.g_law_rows T.kp_law_rows T.b_law_rows .nil pass0 (pa_cons (pe_fz (pv 1)) (pa_cons (pv 2) pa_nil)))))
      (pss_cons (ps_set (i := 4) nd rfl (Or.inl rfl) (pe_make0 T.k_Threads (ok_Threads___init__ T) (hr.mono (by decide)) rfl T.g_Threads T.b_Threads___init__ .nil pass0))
      (pss_cons (ps_for PassesOwn.never rfl (pi_listK G.K (pe_fz (pe_call (ok_law_order T) (hr.mono (by decide)) rfl T.g_law_order T.kp_law_order T.b_law_order .nil pass0 (pa_cons (pe_fz (pv 3)) (pa_cons (pe_ix (ix_listK G.K) (pe_fz (pv 1)) pe_int (fun _ _ => rfl)) pa_nil))))) (pg_tupK (n := 2) G.K rfl rfl (pgs_cons (pg_name (i := 5) nd rfl (Or.inl rfl)) (pgs_cons (pg_name (i := 6) nd rfl (Or.inl rfl)) pgs_nil))) (pss_one (ps_expr (pe_meth (pv 4) T.cl_Threads T.m_Threads_add (ok_Threads_add T) (hr.mono (by decide)) T.b_Threads_add .nil passL (pa_cons (pv 5) (pa_cons (pv 6) pa_nil))))))
      (pss_cons (ps_if (pt_not (pt_val (pe_call (ok_law_stands T) (hr.mono (by decide)) rfl T.g_law_stands T.kp_law_stands T.b_law_stands .nil pass0 (pa_cons (pv 4) (pa_cons (pe_fz (pv 3)) (pa_cons (pe_ix (ix_listK G.K) (pe_fz (pv 1)) pe_int (fun _ _ => rfl)) pa_nil)))))) (pss_one (ps_ret pe_bl)) pss_nil)
      (pss_cons (ps_set (i := 7) nd rfl (Or.inl rfl) (pe_ix (ix_listK G.K) (pe_fz (pv 3)) pe_int (fun _ _ => rfl)))
      (pss_cons (ps_for PassesOwn.never rfl (pi_range1 rfl T.z_range (pa_cons (pe_op op_add pe_int (pe_op op_mod (pe_ix (ix_listK G.K) (pe_fz (pv 1)) pe_int (fun _ _ => rfl)) pe_int)) pa_nil)) (pg_name (i := 8) nd rfl (Or.inl rfl)) (pss_cons (ps_set (i := 7) nd rfl (Or.inl rfl) (pe_ix (ix_listK G.K) (pe_fz (pv 3)) (pe_op op_mod (pe_ix (ix_listK G.K) (pe_fz (pv 1)) (pe_op op_add pe_int (pv 8)) (fun _ _ => rfl)) (pe_callB (lenSqK G.K) (by rfl) T.z_len PySem.boot_len (pa_cons (pe_fz (pv 3)) pa_nil))) (fun _ _ => rfl)))
      (pss_cons (ps_expr (pe_bmK G.K PySem.F.plainAttrs_list PySem.F.slot_list_remove PySem.F.type_list_remove (mt_removeD G.K (hu0 hr)) (pe_fz (pv 3)) (pa_cons (pv 7) pa_nil)))
      (pss_cons (ps_expr (pe_meth (pv 4) T.cl_Threads T.m_Threads_take_out (ok_Threads_take_out T) (hr.mono (by decide)) T.b_Threads_take_out .nil passL (pa_cons (pe_ix (ix_tupK G.K) (pv 7) pe_int (fun _ _ => rfl)) pa_nil)))
      (pss_one (ps_if (pt_not (pt_val (pe_call (ok_law_stands T) (hr.mono (by decide)) rfl T.g_law_stands T.kp_law_stands T.b_law_stands .nil pass0 (pa_cons (pv 4) (pa_cons (pe_fz (pv 3)) (pa_cons (pe_ix (ix_listK G.K) (pe_fz (pv 1)) (pe_op op_add pe_int (pv 8)) (fun _ _ => rfl)) pa_nil)))))) (pss_one (ps_ret pe_bl)) pss_nil))))))
      (pss_cons (ps_set (i := 9) nd rfl (Or.inl rfl) (pe_ix (ix_tupK G.K) (pe_ix (ix_listK G.K) (pe_fz (pv 3)) (pe_op op_mod (pe_ix (ix_listK G.K) (pe_fz (pv 1)) pe_int (fun _ _ => rfl)) (pe_callB (lenSqK G.K) (by rfl) T.z_len PySem.boot_len (pa_cons (pe_fz (pv 3)) pa_nil))) (fun _ _ => rfl)) pe_int (fun _ _ => rfl)))
      (pss_cons (ps_expr (pe_bmK G.K PySem.F.plainAttrs_list PySem.F.slot_list_append PySem.F.type_list_append mt_append (pe_fz (pv 3)) (pa_cons (pe_tup (pa_cons (pe_ix (ix_tupK G.K) (pv 7) pe_int (fun _ _ => rfl)) (pa_cons (pv 9) pa_nil))) pa_nil)))
      (pss_cons (ps_expr (pe_meth (pv 4) T.cl_Threads T.m_Threads_add (ok_Threads_add T) (hr.mono (by decide)) T.b_Threads_add .nil passL (pa_cons (pe_ix (ix_tupK G.K) (pv 7) pe_int (fun _ _ => rfl)) (pa_cons (pv 9) pa_nil))))
      (pss_one (ps_ret (pe_call (ok_law_stands T) (hr.mono (by decide)) rfl T.g_law_stands T.kp_law_stands T.b_law_stands .nil pass0 (pa_cons (pv 4) (pa_cons (pe_fz (pv 3)) (pa_cons (pe_ix (ix_listK G.K) (pe_fz (pv 1)) pe_int (fun _ _ => rfl)) pa_nil)))))))))))))))))), ?_⟩
    unfold m_law at hm
    refine f_seq ?_
    refine c_asg ?_
    refine c_fz ?_
    refine c_call ?_
    refine ea_to (ea_cons (ev_var rfl) (ea_cons ev_c ea_nil)) ?_
    refine ⟨_, v_law_script, 20, star [imA (.ref ad_v_law_script) v_law_script, F], rfl, (hS.im (i := 0) rfl), Sep.unstar (M := []) (hS.sel [0, 1] (by decide) rfl : Sep H (([] ++ [imA (.ref ad_v_law_script) v_law_script, F] : List (Asn G)))), R.wp_mono (R.wp_bind hm) (fun r1 hm p2 H hS => ?_) (fun _ z => z)⟩
    have hS : Sep H ([lstA p2 (r1 : (List Int)), imA (.ref ad_v_law_script) v_law_script, F] : List (Asn G)) := Sep.star (M := [lstA p2 (r1 : (List Int))]) hS
    refine fz_no ?_
    refine c_set (σ' := [some (.ref ad_v_law_script), some (.ref p2), none, none, none, none, none, none, none, none]) rfl ?_
    refine sq_nx ?_
    refine f_seq ?_
    refine c_asg ?_
    obtain ⟨x3, hx3, hm⟩ := wp_idx hm
    refine ev_to (ev_add ev_c (ev_mod (ev_ixSq (ev_fz (ev_var rfl)) ev_c (hS.sqF (i := 0) rfl) (atI_map hx3)) ev_c (by decide))) ?_
    obtain ⟨y4, hy4, hm⟩ := wp_let hm
    refine n_is (w := (.int (y4))) (by first | rw [hy4] | (subst hy4; rfl)) ?_
    refine c_set (σ' := [some (.ref ad_v_law_script), some (.ref p2), some (.int (y4)), none, none, none, none, none, none, none]) rfl ?_
    refine sq_nx ?_
    refine f_seq ?_
    refine f_if ?_
    obtain ⟨x5, hx5, hm⟩ := wp_idx hm
    refine et_to (et_test (ev_eqI (ev_mod (ev_ixSq (ev_fz (ev_var rfl)) ev_c (hS.sqF (i := 0) rfl) (atI_map hx5)) ev_c (by decide)) ev_c)) ?_
    refine ifK_J (τ := Int) (fun (s6 : Int) (σ : L2.St) (H : Hp) => σ = [some (.ref ad_v_law_script), some (.ref p2), some (.int (s6)), none, none, none, none, none, none, none] ∧ Sep H ([lstA p2 (r1 : (List Int)), imA (.ref ad_v_law_script) v_law_script, F] : List (Asn G))) hm (fun hb q hm nx => ?_) (fun hb q hm nx => ?_) (fun s6 σ H hm hI => ?_)
    ·
      refine c_asg ?_
      obtain ⟨x7, hx7, hm⟩ := wp_idx hm
      refine ev_to (ev_add ev_c (ev_mod (ev_ixSq (ev_fz (ev_var rfl)) ev_c (hS.sqF (i := 0) rfl) (atI_map hx7)) ev_c (by decide))) ?_
      obtain ⟨y8, hy8, hm⟩ := wp_let hm
      refine n_is (w := (.int (y8))) (by first | rw [hy8] | (subst hy8; rfl)) ?_
      refine c_set (σ' := [some (.ref ad_v_law_script), some (.ref p2), some (.int (y8)), none, none, none, none, none, none, none]) rfl ?_
      exact nx _ _ _ hm ⟨rfl, hS.sel [0, 1, 2] (by decide) rfl⟩
    ·
      refine st_nx ?_
      exact nx _ _ _ hm ⟨rfl, hS.sel [0, 1, 2] (by decide) rfl⟩
    · obtain ⟨rfl, hS⟩ := hI
      refine sq_nx ?_
      refine f_seq ?_
      refine c_asg ?_
      refine c_fz ?_
      refine c_call ?_
      refine ea_to (ea_cons (ev_fz (ev_var rfl)) (ea_cons (ev_var rfl) ea_nil)) ?_
      refine ⟨p2, (r1 : (List Int)), s6, star [imA (.ref ad_v_law_script) v_law_script, F], rfl, Sep.unstar (M := [lstA p2 (r1 : (List Int))]) (hS.sel [0, 1, 2] (by decide) rfl : Sep H (([lstA p2 (r1 : (List Int))] ++ [imA (.ref ad_v_law_script) v_law_script, F] : List (Asn G)))), R.wp_mono (R.wp_bind hm) (fun r9 hm p10 H hS => ?_) (fun _ z => z)⟩
      have hS : Sep H ([lstA p10 (r9 : (List (Str × Str))), lstA p2 (r1 : (List Int)), imA (.ref ad_v_law_script) v_law_script, F] : List (Asn G)) := Sep.star (M := [lstA p10 (r9 : (List (Str × Str))), lstA p2 (r1 : (List Int))]) hS
      refine fz_no ?_
      refine c_set (σ' := [some (.ref ad_v_law_script), some (.ref p2), some (.int (s6)), some (.ref p10), none, none, none, none, none, none]) rfl ?_
      refine sq_nx ?_
      refine f_seq ?_
      refine c_asg ?_
      refine c_make ?_
      refine ea_to ea_nil ?_
      intro p11 d12 np nd ne
      have hS := hS.newI (C := G.cl 2) np nd ne (by rw [T.fz_Threads]; decide)
      refine ⟨p11, d12, star [lstA p10 (r9 : (List (Str × Str))), lstA p2 (r1 : (List Int)), imA (.ref ad_v_law_script) v_law_script, F], rfl, Sep.unstar (M := [cell p11 (.ins (G.cl 2) d12 [])]) (hS.sel [0, 1, 2, 3, 4] (by decide) rfl : Sep _ (([cell p11 (.ins (G.cl 2) d12 [])] ++ [lstA p10 (r9 : (List (Str × Str))), lstA p2 (r1 : (List Int)), imA (.ref ad_v_law_script) v_law_script, F] : List (Asn G)))), R.wp_mono (R.wp_bind hm) (fun r13 hm H hS => ⟨rfl, ?_⟩) (fun _ z => z)⟩
      have hS : Sep H ([ThreadsA p11 r13, lstA p10 (r9 : (List (Str × Str))), lstA p2 (r1 : (List Int)), imA (.ref ad_v_law_script) v_law_script, F] : List (Asn G)) := Sep.star (M := [ThreadsA p11 r13]) hS
      refine c_set (σ' := [some (.ref ad_v_law_script), some (.ref p2), some (.int (s6)), some (.ref p10), some (.ref p11), none, none, none, none, none]) rfl ?_
      refine sq_nx ?_
      refine f_seq ?_
      refine c_for ?_
      refine c_il ?_
      refine c_fz ?_
      refine c_call ?_
      obtain ⟨x14, hx14, hm⟩ := wp_idx hm
      refine ea_to (ea_cons (ev_fz (ev_var rfl)) (ea_cons (ev_ixSq (ev_fz (ev_var rfl)) ev_c (hS.sqF (i := 2) rfl) (atI_map hx14)) ea_nil)) ?_
      refine ⟨p10, (r9 : (List (Str × Str))), x14, star [ThreadsA p11 r13, lstA p2 (r1 : (List Int)), imA (.ref ad_v_law_script) v_law_script, F], rfl, Sep.unstar (M := [lstA p10 (r9 : (List (Str × Str)))]) (hS.sel [1, 0, 2, 3, 4] (by decide) rfl : Sep H (([lstA p10 (r9 : (List (Str × Str)))] ++ [ThreadsA p11 r13, lstA p2 (r1 : (List Int)), imA (.ref ad_v_law_script) v_law_script, F] : List (Asn G)))), R.wp_mono (R.wp_bind hm) (fun r15 hm p16 H hS => ?_) (fun _ z => z)⟩
      have hS : Sep H ([ordA p16 p10 (r9 : (List (Str × Str))) (r15 : (List (Str × Str))), ThreadsA p11 r13, lstA p2 (r1 : (List Int)), imA (.ref ad_v_law_script) v_law_script, F] : List (Asn G)) := Sep.star (M := [ordA p16 p10 (r9 : (List (Str × Str))) (r15 : (List (Str × Str)))]) hS
      refine fz_no ?_
      refine k_ilG (ord_sq hS (i := 0) rfl) ?_
      refine k_for (τ := Threads) (fun (s17 : Threads) (σ : L2.St) (H : Hp) => ∃ (w20 w21 : Option V), σ = [some (.ref ad_v_law_script), some (.ref p2), some (.int (s6)), some (.ref p10), some (.ref p11), w20, w21, none, none, none] ∧ Sep H ([ordA p16 p10 (r9 : (List (Str × Str))) (r15 : (List (Str × Str))), ThreadsA p11 s17, lstA p2 (r1 : (List Int)), imA (.ref ad_v_law_script) v_law_script, F] : List (Asn G))) (im := (Im.im G)) (s := (r13)) (fun _ => wk_list fun _ _ ⟨_, _, _, h⟩ => ord_sq h (i := 0) rfl) ⟨_, _, rfl, hS.sel [0, 1, 2, 3, 4] (by decide) rfl⟩ hm (fun s17 x18 v19 σ H q N hI hx hm nx => ?_) (fun s17 σ H hm hI => ?_)
      ·
        obtain ⟨w20, w21, rfl, hS⟩ := hI
        obtain ⟨a22, rfl⟩ := isref hx
        have hS := hS.addIm (v := (.ref a22)) (x := (x18 : (Str × Str))) hx
        obtain ⟨u24, u25, hT28, h26, h27⟩ := im2 (hS.im (i := 0) rfl)
        obtain rfl : u24 = (.str (x18.1)) := h26
        obtain rfl : u25 = (.str (x18.2)) := h27
        refine k_gT hT28 rfl ?_
        refine k_gC (σ' := [some (.ref ad_v_law_script), some (.ref p2), some (.int (s6)), some (.ref p10), some (.ref p11), some (.str (x18.1)), w21, none, none, none]) rfl ?_
        refine k_gC (σ' := [some (.ref ad_v_law_script), some (.ref p2), some (.int (s6)), some (.ref p10), some (.ref p11), some (.str (x18.1)), some (.str (x18.2)), none, none, none]) rfl ?_
        refine k_gE ?_
        refine c_drop ?_
        refine c_meth ?_
        refine ev_to (ev_var rfl) ?_
        obtain ⟨d29, _, _, _, _, hO30⟩ := ins_Threads hS (i := 2) rfl
        refine ⟨_, _, _, rfl, hO30, rfl, ?_⟩
        refine ea_to (ea_cons (ev_var rfl) (ea_cons (ev_var rfl) ea_nil)) ?_
        refine ⟨p11, (s17 : Threads), x18.1, x18.2, star [imA (.ref a22) (x18 : (Str × Str)), ordA p16 p10 (r9 : (List (Str × Str))) (r15 : (List (Str × Str))), lstA p2 (r1 : (List Int)), imA (.ref ad_v_law_script) v_law_script, F], rfl, Sep.unstar (M := [ThreadsA p11 s17]) (hS.sel [2, 0, 1, 3, 4, 5] (by decide) rfl : Sep H (([ThreadsA p11 s17] ++ [imA (.ref a22) (x18 : (Str × Str)), ordA p16 p10 (r9 : (List (Str × Str))) (r15 : (List (Str × Str))), lstA p2 (r1 : (List Int)), imA (.ref ad_v_law_script) v_law_script, F] : List (Asn G)))), R.wp_mono (R.wp_bind hm) (fun r31 hm H hS => ?_) (fun _ z => z.elim)⟩
        have hS : Sep H ([ThreadsA p11 r31, imA (.ref a22) (x18 : (Str × Str)), ordA p16 p10 (r9 : (List (Str × Str))) (r15 : (List (Str × Str))), lstA p2 (r1 : (List Int)), imA (.ref ad_v_law_script) v_law_script, F] : List (Asn G)) := Sep.star (M := [ThreadsA p11 r31]) hS
        exact nx _ _ _ hm ⟨_, _, rfl, hS.sel [2, 0, 3, 4, 5] (by decide) rfl⟩
      · obtain ⟨w20, w21, rfl, hS⟩ := hI
        have hS : Sep H ([lstA p10 (r9 : (List (Str × Str))), ThreadsA p11 s17, lstA p2 (r1 : (List Int)), imA (.ref ad_v_law_script) v_law_script, F] : List (Asn G)) := ord_drop (hS.sel [0, 1, 2, 3, 4] (by decide) rfl)
        refine sq_nx ?_
        refine f_seq ?_
        refine f_if ?_
        refine f_not ?_
        refine f_B ?_
        refine c_call ?_
        obtain ⟨x32, hx32, hm⟩ := wp_idx hm
        refine ea_to (ea_cons (ev_var rfl) (ea_cons (ev_fz (ev_var rfl)) (ea_cons (ev_ixSq (ev_fz (ev_var rfl)) ev_c (hS.sqF (i := 2) rfl) (atI_map hx32)) ea_nil))) ?_
        refine ⟨p11, (s17 : Threads), p10, (r9 : (List (Str × Str))), x32, star [lstA p2 (r1 : (List Int)), imA (.ref ad_v_law_script) v_law_script, F], rfl, Sep.unstar (M := [ThreadsA p11 s17, lstA p10 (r9 : (List (Str × Str)))]) (hS.sel [1, 0, 2, 3, 4] (by decide) rfl : Sep H (([ThreadsA p11 s17, lstA p10 (r9 : (List (Str × Str)))] ++ [lstA p2 (r1 : (List Int)), imA (.ref ad_v_law_script) v_law_script, F] : List (Asn G)))), R.wp_mono (R.wp_bind hm) (fun r33 hm H hS => ?_) (fun _ z => z)⟩
        have hS : Sep H ([ThreadsA p11 s17, lstA p10 (r9 : (List (Str × Str))), lstA p2 (r1 : (List Int)), imA (.ref ad_v_law_script) v_law_script, F] : List (Asn G)) := Sep.star (M := [ThreadsA p11 s17, lstA p10 (r9 : (List (Str × Str)))]) hS
        refine f_bl ?_
        refine f_nK ?_
        refine ifK_2 (fun hb34 => ?_) (fun hb34 => ?_)
        · have hm := R.wp_ifY hm hb34
          refine c_ret ?_
          refine ev_to ev_c ?_
          exact hm _ (hS.sel [4] (by decide) rfl)
        · have hm := R.wp_ifN hm (by first | (rw [hb34]; decide) | simpa using hb34)
          refine st_nx ?_
          refine sq_nx ?_
          refine f_seq ?_
          refine c_asg ?_
          obtain ⟨x35, hx35, hm⟩ := wp_idx hm
          obtain ⟨vs36, hq37, hM38⟩ := hS.sq (i := 1) rfl
          obtain ⟨u39, hu40, hi41⟩ := atI_im hM38 hx35
          obtain ⟨a42, rfl⟩ := isref hi41
          refine ev_to (ev_ixSq (ev_fz (ev_var rfl)) ev_c hq37 hu40) ?_
          have hS := hS.addIm (v := (.ref a42)) (x := (x35 : (Str × Str))) hi41
          refine c_set (σ' := [some (.ref ad_v_law_script), some (.ref p2), some (.int (s6)), some (.ref p10), some (.ref p11), w20, w21, some (.ref a42), none, none]) rfl ?_
          refine sq_nx ?_
          refine f_seq ?_
          refine c_for ?_
          refine c_rng1 ?_
          obtain ⟨x44, hx44, hm⟩ := wp_idx hm
          refine ea_to (ea_cons (ev_add ev_c (ev_mod (ev_ixSq (ev_fz (ev_var rfl)) ev_c (hS.sqF (i := 3) rfl) (atI_map hx44)) ev_c (by decide))) ea_nil) ?_
          obtain ⟨h45, hm⟩ := R.wp_need hm
          refine k_rng1 h45.1 h45.2 ?_
          have hS := hS.addIm (hS.im (i := 0) rfl)
          refine k_forF (τ := (List (Str × Str)) × Threads × (Str × Str)) (fun (s46 : (List (Str × Str)) × Threads × (Str × Str)) (σ : L2.St) (H : Hp) => ∃ (w49 : Option V), ∃ (a50 : Addr), σ = [some (.ref ad_v_law_script), some (.ref p2), some (.int (s6)), some (.ref p10), some (.ref p11), w20, w21, some (.ref a50), w49, none] ∧ Sep H ([imA (.ref a50) (s46.2.2 : (Str × Str)), imA (.ref a42) (x35 : (Str × Str)), ThreadsA p11 s46.2.1, lstA p10 (s46.1 : (List (Str × Str))), lstA p2 (r1 : (List Int)), imA (.ref ad_v_law_script) v_law_script, F] : List (Asn G))) (im := (fun _ v (x : Int) => v = .int x)) (s := (r9, s17, x35)) (fun _ => wk_range) ⟨_, _, rfl, hS.sel [1, 0, 2, 3, 4, 5, 6] (by decide) rfl⟩ hm (fun s46 x47 v48 σ H q N B hI hx hm nx bk ho53 => ?_) (fun s46 σ H hm hI => ?_)
          ·
            obtain ⟨w49, a50, rfl, hS⟩ := hI
            cases hx
            refine c_gN (σ' := [some (.ref ad_v_law_script), some (.ref p2), some (.int (s6)), some (.ref p10), some (.ref p11), w20, w21, some (.ref a50), some (.int (x47)), none]) rfl ?_
            refine f_seq ?_
            refine c_asg ?_
            obtain ⟨x54, hx54, hm⟩ := wp_idx hm
            obtain ⟨h55, hm⟩ := R.wp_need hm
            obtain ⟨x56, hx56, hm⟩ := wp_idx hm
            obtain ⟨vs57, hq58, hM59⟩ := hS.sq (i := 3) rfl
            obtain ⟨u60, hu61, hi62⟩ := atI_im hM59 hx56
            obtain ⟨a63, rfl⟩ := isref hi62
            refine ev_to (ev_ixSq (ev_fz (ev_var rfl)) (ev_mod (ev_ixSq (ev_fz (ev_var rfl)) (ev_add ev_c (ev_var rfl)) (hS.sqF (i := 4) rfl) (atI_map hx54)) (ev_lenG (ev_fz (ev_var rfl)) (hS.sq (i := 3) rfl)) h55) hq58 hu61) ?_
            have hS := hS.addIm (v := (.ref a63)) (x := (x56 : (Str × Str))) hi62
            refine c_set (σ' := [some (.ref ad_v_law_script), some (.ref p2), some (.int (s6)), some (.ref p10), some (.ref p11), w20, w21, some (.ref a63), some (.int (x47)), none]) rfl ?_
            refine sq_nx ?_
            refine f_seq ?_
            refine c_drop ?_
            refine c_bm ?_
            refine ev_to (ev_fz (ev_var rfl)) ⟨tyL hS (i := 4) rfl, ?_⟩
            refine ea_to (ea_cons (ev_var rfl) ea_nil) ?_
            obtain ⟨h65, hm⟩ := R.wp_need hm
            obtain ⟨h66, hm⟩ := R.wp_need hm
            obtain ⟨h67, hm⟩ := R.wp_need hm
            refine k_removeP (x := x56) hS (i := 4) rfl (Pd.dp (hS.im (i := 0) rfl)) h65 h66 (Nat.le_of_ble_eq_true rfl) h67 rfl fun H hS => ?_
            refine sq_nx ?_
            refine f_seq ?_
            refine c_drop ?_
            refine c_meth ?_
            refine ev_to (ev_var rfl) ?_
            obtain ⟨d68, _, _, _, _, hO69⟩ := ins_Threads hS (i := 3) rfl
            refine ⟨_, _, _, rfl, hO69, rfl, ?_⟩
            obtain ⟨u70, u71, hT74, h72, h73⟩ := im2 (hS.im (i := 0) rfl)
            obtain rfl : u70 = (.str (x56.1)) := h72
            obtain rfl : u71 = (.str (x56.2)) := h73
            refine ea_to (ea_cons (ev_ixT (ev_var rfl) ev_c hT74 rfl) ea_nil) ?_
            refine ⟨p11, (s46.2.1 : Threads), x56.1, star [imA (.ref a63) (x56 : (Str × Str)), imA (.ref a50) (s46.2.2 : (Str × Str)), imA (.ref a42) (x35 : (Str × Str)), lstA p10 (remP s46.1 x56 : (List (Str × Str))), lstA p2 (r1 : (List Int)), imA (.ref ad_v_law_script) v_law_script, F], rfl, Sep.unstar (M := [ThreadsA p11 s46.2.1]) (hS.sel [3, 0, 1, 2, 4, 5, 6, 7] (by decide) rfl : Sep H (([ThreadsA p11 s46.2.1] ++ [imA (.ref a63) (x56 : (Str × Str)), imA (.ref a50) (s46.2.2 : (Str × Str)), imA (.ref a42) (x35 : (Str × Str)), lstA p10 (remP s46.1 x56 : (List (Str × Str))), lstA p2 (r1 : (List Int)), imA (.ref ad_v_law_script) v_law_script, F] : List (Asn G)))), R.wp_mono (R.wp_bind hm) (fun r75 hm H hS => ?_) (fun _ z => z.elim)⟩
            have hS : Sep H ([ThreadsA p11 r75, imA (.ref a63) (x56 : (Str × Str)), imA (.ref a50) (s46.2.2 : (Str × Str)), imA (.ref a42) (x35 : (Str × Str)), lstA p10 (remP s46.1 x56 : (List (Str × Str))), lstA p2 (r1 : (List Int)), imA (.ref ad_v_law_script) v_law_script, F] : List (Asn G)) := Sep.star (M := [ThreadsA p11 r75]) hS
            refine sq_nx ?_
            refine f_if ?_
            refine f_not ?_
            refine f_B ?_
            refine c_call ?_
            obtain ⟨x76, hx76, hm⟩ := wp_idx hm
            refine ea_to (ea_cons (ev_var rfl) (ea_cons (ev_fz (ev_var rfl)) (ea_cons (ev_ixSq (ev_fz (ev_var rfl)) (ev_add ev_c (ev_var rfl)) (hS.sqF (i := 5) rfl) (atI_map hx76)) ea_nil))) ?_
            refine ⟨p11, (r75 : Threads), p10, (remP s46.1 x56 : (List (Str × Str))), x76, star [imA (.ref a63) (x56 : (Str × Str)), imA (.ref a50) (s46.2.2 : (Str × Str)), imA (.ref a42) (x35 : (Str × Str)), lstA p2 (r1 : (List Int)), imA (.ref ad_v_law_script) v_law_script, F], rfl, Sep.unstar (M := [ThreadsA p11 r75, lstA p10 (remP s46.1 x56 : (List (Str × Str)))]) (hS.sel [0, 4, 1, 2, 3, 5, 6, 7] (by decide) rfl : Sep H (([ThreadsA p11 r75, lstA p10 (remP s46.1 x56 : (List (Str × Str)))] ++ [imA (.ref a63) (x56 : (Str × Str)), imA (.ref a50) (s46.2.2 : (Str × Str)), imA (.ref a42) (x35 : (Str × Str)), lstA p2 (r1 : (List Int)), imA (.ref ad_v_law_script) v_law_script, F] : List (Asn G)))), R.wp_mono (R.wp_bind hm) (fun r77 hm H hS => ?_) (fun _ z => z)⟩
            have hS : Sep H ([ThreadsA p11 r75, lstA p10 (remP s46.1 x56 : (List (Str × Str))), imA (.ref a63) (x56 : (Str × Str)), imA (.ref a50) (s46.2.2 : (Str × Str)), imA (.ref a42) (x35 : (Str × Str)), lstA p2 (r1 : (List Int)), imA (.ref ad_v_law_script) v_law_script, F] : List (Asn G)) := Sep.star (M := [ThreadsA p11 r75, lstA p10 (remP s46.1 x56 : (List (Str × Str)))]) hS
            refine f_bl ?_
            refine f_nK ?_
            refine ifK_2 (fun hb78 => ?_) (fun hb78 => ?_)
            · have hm := R.wp_ifY hm hb78
              refine c_ret ?_
              refine ev_to ev_c ?_
              exact (ho53 _ hm) _ (hS.sel [7] (by decide) rfl)
            · have hm := R.wp_ifN hm (by first | (rw [hb78]; decide) | simpa using hb78)
              refine st_nx ?_
              exact nx _ _ _ hm ⟨_, _, rfl, hS.sel [2, 4, 0, 1, 5, 6, 7] (by decide) rfl⟩
          · obtain ⟨w49, a50, rfl, hS⟩ := hI
            refine sq_nx ?_
            refine f_seq ?_
            refine c_asg ?_
            obtain ⟨x79, hx79, hm⟩ := wp_idx hm
            obtain ⟨h80, hm⟩ := R.wp_need hm
            obtain ⟨x81, hx81, hm⟩ := wp_idx hm
            obtain ⟨vs82, hq83, hM84⟩ := hS.sq (i := 3) rfl
            obtain ⟨u85, hu86, hi87⟩ := atI_im hM84 hx81
            obtain ⟨a88, rfl⟩ := isref hi87
            obtain ⟨u89, u90, hT93, h91, h92⟩ := im2 hi87
            obtain rfl : u89 = (.str (x81.1)) := h91
            obtain rfl : u90 = (.str (x81.2)) := h92
            refine ev_to (ev_ixT (ev_ixSq (ev_fz (ev_var rfl)) (ev_mod (ev_ixSq (ev_fz (ev_var rfl)) ev_c (hS.sqF (i := 4) rfl) (atI_map hx79)) (ev_lenG (ev_fz (ev_var rfl)) (hS.sq (i := 3) rfl)) h80) hq83 hu86) ev_c hT93 rfl) ?_
            refine c_set (σ' := [some (.ref ad_v_law_script), some (.ref p2), some (.int (s6)), some (.ref p10), some (.ref p11), w20, w21, some (.ref a50), w49, some (.str (x81.1))]) rfl ?_
            refine sq_nx ?_
            refine f_seq ?_
            refine c_drop ?_
            refine c_bm ?_
            refine ev_to (ev_fz (ev_var rfl)) ⟨tyL hS (i := 3) rfl, ?_⟩
            refine c_cons ?_
            refine c_tup ?_
            obtain ⟨u94, u95, hT98, h96, h97⟩ := im2 (hS.im (i := 0) rfl)
            obtain rfl : u94 = (.str (s46.2.2.1)) := h96
            obtain rfl : u95 = (.str (s46.2.2.2)) := h97
            refine ea_to (ea_cons (ev_ixT (ev_var rfl) ev_c hT98 rfl) (ea_cons (ev_var rfl) ea_nil)) ?_
            refine k_tupP (x := ((s46.2.2.1, x81.1) : (Str × Str))) hS (fun H' p h s => mk2 rfl rfl h s) (by show 2 ≤ sizeLine; decide) fun p99 H hS => ?_
            refine c_nil ?_
            obtain ⟨h101, hm⟩ := R.wp_need hm
            refine k_append (x := (s46.2.2.1, x81.1)) hS (i := 4) rfl (hS.im (i := 0) rfl) h101 rfl fun H hS => ?_
            refine sq_nx ?_
            refine f_seq ?_
            refine c_drop ?_
            refine c_meth ?_
            refine ev_to (ev_var rfl) ?_
            obtain ⟨d102, _, _, _, _, hO103⟩ := ins_Threads hS (i := 3) rfl
            refine ⟨_, _, _, rfl, hO103, rfl, ?_⟩
            obtain ⟨u104, u105, hT108, h106, h107⟩ := im2 (hS.im (i := 1) rfl)
            obtain rfl : u104 = (.str (s46.2.2.1)) := h106
            obtain rfl : u105 = (.str (s46.2.2.2)) := h107
            refine ea_to (ea_cons (ev_ixT (ev_var rfl) ev_c hT108 rfl) (ea_cons (ev_var rfl) ea_nil)) ?_
            refine ⟨p11, (s46.2.1 : Threads), s46.2.2.1, x81.1, star [imA (.ref p99) ((s46.2.2.1, x81.1) : (Str × Str)), imA (.ref a50) (s46.2.2 : (Str × Str)), imA (.ref a42) (x35 : (Str × Str)), lstA p10 (s46.1 ++ [(s46.2.2.1, x81.1)] : (List (Str × Str))), lstA p2 (r1 : (List Int)), imA (.ref ad_v_law_script) v_law_script, F], rfl, Sep.unstar (M := [ThreadsA p11 s46.2.1]) (hS.sel [3, 0, 1, 2, 4, 5, 6, 7] (by decide) rfl : Sep H (([ThreadsA p11 s46.2.1] ++ [imA (.ref p99) ((s46.2.2.1, x81.1) : (Str × Str)), imA (.ref a50) (s46.2.2 : (Str × Str)), imA (.ref a42) (x35 : (Str × Str)), lstA p10 (s46.1 ++ [(s46.2.2.1, x81.1)] : (List (Str × Str))), lstA p2 (r1 : (List Int)), imA (.ref ad_v_law_script) v_law_script, F] : List (Asn G)))), R.wp_mono (R.wp_bind hm) (fun r109 hm H hS => ?_) (fun _ z => z.elim)⟩
            have hS : Sep H ([ThreadsA p11 r109, imA (.ref p99) ((s46.2.2.1, x81.1) : (Str × Str)), imA (.ref a50) (s46.2.2 : (Str × Str)), imA (.ref a42) (x35 : (Str × Str)), lstA p10 (s46.1 ++ [(s46.2.2.1, x81.1)] : (List (Str × Str))), lstA p2 (r1 : (List Int)), imA (.ref ad_v_law_script) v_law_script, F] : List (Asn G)) := Sep.star (M := [ThreadsA p11 r109]) hS
            refine sq_nx ?_
            refine c_ret ?_
            refine c_call ?_
            obtain ⟨x110, hx110, hm⟩ := wp_idx hm
            refine ea_to (ea_cons (ev_var rfl) (ea_cons (ev_fz (ev_var rfl)) (ea_cons (ev_ixSq (ev_fz (ev_var rfl)) ev_c (hS.sqF (i := 5) rfl) (atI_map hx110)) ea_nil))) ?_
            refine ⟨p11, (r109 : Threads), p10, (s46.1 ++ [(s46.2.2.1, x81.1)] : (List (Str × Str))), x110, star [imA (.ref p99) ((s46.2.2.1, x81.1) : (Str × Str)), imA (.ref a50) (s46.2.2 : (Str × Str)), imA (.ref a42) (x35 : (Str × Str)), lstA p2 (r1 : (List Int)), imA (.ref ad_v_law_script) v_law_script, F], rfl, Sep.unstar (M := [ThreadsA p11 r109, lstA p10 (s46.1 ++ [(s46.2.2.1, x81.1)] : (List (Str × Str)))]) (hS.sel [0, 4, 1, 2, 3, 5, 6, 7] (by decide) rfl : Sep H (([ThreadsA p11 r109, lstA p10 (s46.1 ++ [(s46.2.2.1, x81.1)] : (List (Str × Str)))] ++ [imA (.ref p99) ((s46.2.2.1, x81.1) : (Str × Str)), imA (.ref a50) (s46.2.2 : (Str × Str)), imA (.ref a42) (x35 : (Str × Str)), lstA p2 (r1 : (List Int)), imA (.ref ad_v_law_script) v_law_script, F] : List (Asn G)))), R.wp_mono (R.wp_bind hm) (fun r111 hm H hS => ?_) (fun _ z => z)⟩
            have hS : Sep H ([ThreadsA p11 r109, lstA p10 (s46.1 ++ [(s46.2.2.1, x81.1)] : (List (Str × Str))), imA (.ref p99) ((s46.2.2.1, x81.1) : (Str × Str)), imA (.ref a50) (s46.2.2 : (Str × Str)), imA (.ref a42) (x35 : (Str × Str)), lstA p2 (r1 : (List Int)), imA (.ref ad_v_law_script) v_law_script, F] : List (Asn G)) := Sep.star (M := [ThreadsA p11 r109, lstA p10 (s46.1 ++ [(s46.2.2.1, x81.1)] : (List (Str × Str)))]) hS
            exact hm _ (hS.sel [7] (by decide) rfl)
end
end Lw
namespace Lw
open PySem PySem.Spec PyProof.Rows L2 Ml
def sp_top (K : PySem.W.Frag) : Sp := fun vs H Q E => ∃ (a : Addr) (ns : List Int), vs = [.ref a] ∧ SqL K H a (ns.map V.int) ∧ Only H ∧ ns.length ≤ 63 ∧ ∀ H', Q (.bl true) H'
theorem all_mk {l : PySem.W.OpenLaw} {w : World} {K : PySem.W.Frag} {h : Heap} {mg : Str → Option Value} {fa : Addr} (X : K.In h) (H : h.Ns mainGlobals mg) (hfa : mg "law" = some (.ref fa))
    {c0 : Addr}
    {c1 : Addr}
    {c2 : Addr}
    {f0 : Addr} {od0 an0 : Option Addr} {sl0 : Array (Option Value)} {oc0 kV0 dc0 pm0 cd0 ct0 : Value}
    {f1 : Addr} {od1 an1 : Option Addr} {sl1 : Array (Option Value)} {oc1 kV1 dc1 pm1 cd1 ct1 : Value}
    {f2 : Addr} {od2 an2 : Option Addr} {sl2 : Array (Option Value)} {oc2 kV2 dc2 pm2 cd2 ct2 : Value}
    {f3 : Addr} {od3 an3 : Option Addr} {sl3 : Array (Option Value)} {oc3 kV3 dc3 pm3 cd3 ct3 : Value}
    {f4 : Addr} {od4 an4 : Option Addr} {sl4 : Array (Option Value)} {oc4 kV4 dc4 pm4 cd4 ct4 : Value}
    {f5 : Addr} {fd5 : FuncData}
    {f6 : Addr} {od6 an6 : Option Addr} {sl6 : Array (Option Value)} {oc6 kV6 dc6 pm6 cd6 ct6 : Value}
    {f7 : Addr} {od7 an7 : Option Addr} {sl7 : Array (Option Value)} {oc7 kV7 dc7 pm7 cd7 ct7 : Value}
    {f8 : Addr} {od8 an8 : Option Addr} {sl8 : Array (Option Value)} {oc8 kV8 dc8 pm8 cd8 ct8 : Value}
    {f9 : Addr} {od9 an9 : Option Addr} {sl9 : Array (Option Value)} {oc9 kV9 dc9 pm9 cd9 ct9 : Value}
    {f10 : Addr} {od10 an10 : Option Addr} {sl10 : Array (Option Value)} {oc10 kV10 dc10 pm10 cd10 ct10 : Value}
    {f11 : Addr} {od11 an11 : Option Addr} {sl11 : Array (Option Value)} {oc11 kV11 dc11 pm11 cd11 ct11 : Value}
    {f12 : Addr} {od12 an12 : Option Addr} {sl12 : Array (Option Value)} {oc12 kV12 dc12 pm12 cd12 ct12 : Value}
    {f13 : Addr} {od13 an13 : Option Addr} {sl13 : Array (Option Value)} {oc13 kV13 dc13 pm13 cd13 ct13 : Value}
    {f14 : Addr} {od14 an14 : Option Addr} {sl14 : Array (Option Value)} {oc14 kV14 dc14 pm14 cd14 ct14 : Value}
    {f15 : Addr} {od15 an15 : Option Addr} {sl15 : Array (Option Value)} {oc15 kV15 dc15 pm15 cd15 ct15 : Value}
    {f16 : Addr} {od16 an16 : Option Addr} {sl16 : Array (Option Value)} {oc16 kV16 dc16 pm16 cd16 ct16 : Value}
    {f17 : Addr} {od17 an17 : Option Addr} {sl17 : Array (Option Value)} {oc17 kV17 dc17 pm17 cd17 ct17 : Value}
    {f18 : Addr} {od18 an18 : Option Addr} {sl18 : Array (Option Value)} {oc18 kV18 dc18 pm18 cd18 ct18 : Value}
    {f19 : Addr} {od19 an19 : Option Addr} {sl19 : Array (Option Value)} {oc19 kV19 dc19 pm19 cd19 ct19 : Value}
    {f20 : Addr} {od20 an20 : Option Addr} {sl20 : Array (Option Value)} {oc20 kV20 dc20 pm20 cd20 ct20 : Value}
    (ac0 : PySem.W.nsIn K mainGlobals "MailError" = some (some (.ref c0)))
    (ac1 : PySem.W.nsIn K mainGlobals "NoName" = some (some (.ref c1)))
    (ac2 : PySem.W.nsIn K mainGlobals "Threads" = some (some (.ref c2)))
    (a0_2 : PySem.W.findIn K (.ref c2) "__init__" = some (some (.ref f0)))
    (i0 : PySem.W.isFn K (.ref f0) = true)
    (l0 : K.lookup f0 = some ⟨oc0, od0, .func (PySem.W.fnOf "__init__" "Threads.__init__" (defArgs s_Threads___init__) (defBody s_Threads___init__) (defScope s_Threads___init__) .none kV0 dc0 pm0 an0 cd0 ct0), sl0⟩)
    (cc0 : PySem.W.codeIn K cd0 "Threads.__init__" = true)
    (k0 : PySem.W.keepIn K (.ref f0) = true)
    (mk2 : PySem.W.makesIn K c2 = true)
    (kc2 : PySem.W.keepIn K (.ref c2) = true)
    (a1_2 : PySem.W.findIn K (.ref c2) "pile" = some (some (.ref f1)))
    (i1 : PySem.W.isFn K (.ref f1) = true)
    (l1 : K.lookup f1 = some ⟨oc1, od1, .func (PySem.W.fnOf "pile" "Threads.pile" (defArgs s_Threads_pile) (defBody s_Threads_pile) (defScope s_Threads_pile) .none kV1 dc1 pm1 an1 cd1 ct1), sl1⟩)
    (cc1 : PySem.W.codeIn K cd1 "Threads.pile" = true)
    (k1 : PySem.W.keepIn K (.ref f1) = true)
    (a2_2 : PySem.W.findIn K (.ref c2) "put_together" = some (some (.ref f2)))
    (i2 : PySem.W.isFn K (.ref f2) = true)
    (l2 : K.lookup f2 = some ⟨oc2, od2, .func (PySem.W.fnOf "put_together" "Threads.put_together" (defArgs s_Threads_put_together) (defBody s_Threads_put_together) (defScope s_Threads_put_together) .none kV2 dc2 pm2 an2 cd2 ct2), sl2⟩)
    (cc2 : PySem.W.codeIn K cd2 "Threads.put_together" = true)
    (k2 : PySem.W.keepIn K (.ref f2) = true)
    (a3_2 : PySem.W.findIn K (.ref c2) "hang" = some (some (.ref f3)))
    (i3 : PySem.W.isFn K (.ref f3) = true)
    (l3 : K.lookup f3 = some ⟨oc3, od3, .func (PySem.W.fnOf "hang" "Threads.hang" (defArgs s_Threads_hang) (defBody s_Threads_hang) (defScope s_Threads_hang) .none kV3 dc3 pm3 an3 cd3 ct3), sl3⟩)
    (cc3 : PySem.W.codeIn K cd3 "Threads.hang" = true)
    (k3 : PySem.W.keepIn K (.ref f3) = true)
    (a4_2 : PySem.W.findIn K (.ref c2) "sure" = some (some (.ref f4)))
    (i4 : PySem.W.isFn K (.ref f4) = true)
    (l4 : K.lookup f4 = some ⟨oc4, od4, .func (PySem.W.fnOf "sure" "Threads.sure" (defArgs s_Threads_sure) (defBody s_Threads_sure) (defScope s_Threads_sure) .none kV4 dc4 pm4 an4 cd4 ct4), sl4⟩)
    (cc4 : PySem.W.codeIn K cd4 "Threads.sure" = true)
    (k4 : PySem.W.keepIn K (.ref f4) = true)
    (a5_2 : PySem.W.findIn K (.ref c2) "add" = some (some (.ref f5)))
    (i5 : PySem.W.isFn K (.ref f5) = true)
    (F5 : FunD K "add" "Threads.add" (defArgs s_Threads_add) (defBody s_Threads_add) (defScope s_Threads_add) [.str ("" : Str)] [] f5 fd5)
    (a6_2 : PySem.W.findIn K (.ref c2) "take_out" = some (some (.ref f6)))
    (i6 : PySem.W.isFn K (.ref f6) = true)
    (l6 : K.lookup f6 = some ⟨oc6, od6, .func (PySem.W.fnOf "take_out" "Threads.take_out" (defArgs s_Threads_take_out) (defBody s_Threads_take_out) (defScope s_Threads_take_out) .none kV6 dc6 pm6 an6 cd6 ct6), sl6⟩)
    (cc6 : PySem.W.codeIn K cd6 "Threads.take_out" = true)
    (k6 : PySem.W.keepIn K (.ref f6) = true)
    (a7_2 : PySem.W.findIn K (.ref c2) "names" = some (some (.ref f7)))
    (i7 : PySem.W.isFn K (.ref f7) = true)
    (l7 : K.lookup f7 = some ⟨oc7, od7, .func (PySem.W.fnOf "names" "Threads.names" (defArgs s_Threads_names) (defBody s_Threads_names) (defScope s_Threads_names) .none kV7 dc7 pm7 an7 cd7 ct7), sl7⟩)
    (cc7 : PySem.W.codeIn K cd7 "Threads.names" = true)
    (k7 : PySem.W.keepIn K (.ref f7) = true)
    (a8_2 : PySem.W.findIn K (.ref c2) "thread" = some (some (.ref f8)))
    (i8 : PySem.W.isFn K (.ref f8) = true)
    (l8 : K.lookup f8 = some ⟨oc8, od8, .func (PySem.W.fnOf "thread" "Threads.thread" (defArgs s_Threads_thread) (defBody s_Threads_thread) (defScope s_Threads_thread) .none kV8 dc8 pm8 an8 cd8 ct8), sl8⟩)
    (cc8 : PySem.W.codeIn K cd8 "Threads.thread" = true)
    (k8 : PySem.W.keepIn K (.ref f8) = true)
    (a9_2 : PySem.W.findIn K (.ref c2) "threads" = some (some (.ref f9)))
    (i9 : PySem.W.isFn K (.ref f9) = true)
    (l9 : K.lookup f9 = some ⟨oc9, od9, .func (PySem.W.fnOf "threads" "Threads.threads" (defArgs s_Threads_threads) (defBody s_Threads_threads) (defScope s_Threads_threads) .none kV9 dc9 pm9 an9 cd9 ct9), sl9⟩)
    (cc9 : PySem.W.codeIn K cd9 "Threads.threads" = true)
    (k9 : PySem.W.keepIn K (.ref f9) = true)
    (a10_2 : PySem.W.findIn K (.ref c2) "answers_to" = some (some (.ref f10)))
    (i10 : PySem.W.isFn K (.ref f10) = true)
    (l10 : K.lookup f10 = some ⟨oc10, od10, .func (PySem.W.fnOf "answers_to" "Threads.answers_to" (defArgs s_Threads_answers_to) (defBody s_Threads_answers_to) (defScope s_Threads_answers_to) .none kV10 dc10 pm10 an10 cd10 ct10), sl10⟩)
    (cc10 : PySem.W.codeIn K cd10 "Threads.answers_to" = true)
    (k10 : PySem.W.keepIn K (.ref f10) = true)
    (a11_2 : PySem.W.findIn K (.ref c2) "depth" = some (some (.ref f11)))
    (i11 : PySem.W.isFn K (.ref f11) = true)
    (l11 : K.lookup f11 = some ⟨oc11, od11, .func (PySem.W.fnOf "depth" "Threads.depth" (defArgs s_Threads_depth) (defBody s_Threads_depth) (defScope s_Threads_depth) .none kV11 dc11 pm11 an11 cd11 ct11), sl11⟩)
    (cc11 : PySem.W.codeIn K cd11 "Threads.depth" = true)
    (k11 : PySem.W.keepIn K (.ref f11) = true)
    (a12 : PySem.W.nsIn K mainGlobals "_law_draws" = some (some (.ref f12)))
    (l12 : K.lookup f12 = some ⟨oc12, od12, .func (PySem.W.fnOf "_law_draws" "_law_draws" (defArgs s_law_draws) (defBody s_law_draws) (defScope s_law_draws) .none kV12 dc12 pm12 an12 cd12 ct12), sl12⟩)
    (cc12 : PySem.W.codeIn K cd12 "_law_draws" = true)
    (k12 : PySem.W.keepIn K (.ref f12) = true)
    (a13 : PySem.W.nsIn K mainGlobals "_law_name_by" = some (some (.ref f13)))
    (l13 : K.lookup f13 = some ⟨oc13, od13, .func (PySem.W.fnOf "_law_name_by" "_law_name_by" (defArgs s_law_name_by) (defBody s_law_name_by) (defScope s_law_name_by) .none kV13 dc13 pm13 an13 cd13 ct13), sl13⟩)
    (cc13 : PySem.W.codeIn K cd13 "_law_name_by" = true)
    (k13 : PySem.W.keepIn K (.ref f13) = true)
    (a14 : PySem.W.nsIn K mainGlobals "_law_is_list" = some (some (.ref f14)))
    (l14 : K.lookup f14 = some ⟨oc14, od14, .func (PySem.W.fnOf "_law_is_list" "_law_is_list" (defArgs s_law_is_list) (defBody s_law_is_list) (defScope s_law_is_list) .none kV14 dc14 pm14 an14 cd14 ct14), sl14⟩)
    (cc14 : PySem.W.codeIn K cd14 "_law_is_list" = true)
    (k14 : PySem.W.keepIn K (.ref f14) = true)
    (a15 : PySem.W.nsIn K mainGlobals "_law_rows" = some (some (.ref f15)))
    (l15 : K.lookup f15 = some ⟨oc15, od15, .func (PySem.W.fnOf "_law_rows" "_law_rows" (defArgs s_law_rows) (defBody s_law_rows) (defScope s_law_rows) .none kV15 dc15 pm15 an15 cd15 ct15), sl15⟩)
    (cc15 : PySem.W.codeIn K cd15 "_law_rows" = true)
    (k15 : PySem.W.keepIn K (.ref f15) = true)
    (a16 : PySem.W.nsIn K mainGlobals "_law_order" = some (some (.ref f16)))
    (l16 : K.lookup f16 = some ⟨oc16, od16, .func (PySem.W.fnOf "_law_order" "_law_order" (defArgs s_law_order) (defBody s_law_order) (defScope s_law_order) .none kV16 dc16 pm16 an16 cd16 ct16), sl16⟩)
    (cc16 : PySem.W.codeIn K cd16 "_law_order" = true)
    (k16 : PySem.W.keepIn K (.ref f16) = true)
    (a17 : PySem.W.nsIn K mainGlobals "_law_joined" = some (some (.ref f17)))
    (l17 : K.lookup f17 = some ⟨oc17, od17, .func (PySem.W.fnOf "_law_joined" "_law_joined" (defArgs s_law_joined) (defBody s_law_joined) (defScope s_law_joined) .none kV17 dc17 pm17 an17 cd17 ct17), sl17⟩)
    (cc17 : PySem.W.codeIn K cd17 "_law_joined" = true)
    (k17 : PySem.W.keepIn K (.ref f17) = true)
    (a18 : PySem.W.nsIn K mainGlobals "_law_deep" = some (some (.ref f18)))
    (l18 : K.lookup f18 = some ⟨oc18, od18, .func (PySem.W.fnOf "_law_deep" "_law_deep" (defArgs s_law_deep) (defBody s_law_deep) (defScope s_law_deep) .none kV18 dc18 pm18 an18 cd18 ct18), sl18⟩)
    (cc18 : PySem.W.codeIn K cd18 "_law_deep" = true)
    (k18 : PySem.W.keepIn K (.ref f18) = true)
    (a19 : PySem.W.nsIn K mainGlobals "_law_stands" = some (some (.ref f19)))
    (l19 : K.lookup f19 = some ⟨oc19, od19, .func (PySem.W.fnOf "_law_stands" "_law_stands" (defArgs s_law_stands) (defBody s_law_stands) (defScope s_law_stands) .none kV19 dc19 pm19 an19 cd19 ct19), sl19⟩)
    (cc19 : PySem.W.codeIn K cd19 "_law_stands" = true)
    (k19 : PySem.W.keepIn K (.ref f19) = true)
    (a20 : PySem.W.nsIn K mainGlobals "law" = some (some (.ref f20)))
    (l20 : K.lookup f20 = some ⟨oc20, od20, .func (PySem.W.fnOf "law" "law" (defArgs s_law) (defBody s_law) (defScope s_law) .none kV20 dc20 pm20 an20 cd20 ct20), sl20⟩)
    (cc20 : PySem.W.codeIn K cd20 "law" = true)
    (k20 : PySem.W.keepIn K (.ref f20) = true)
    (xE1 : PySem.W.excIn K c1 [.type "ValueError", .type "Exception", .type "BaseException", .type "object"] "ValueError.__new__" = true)
    (kE1 : PySem.W.keepIn K (.ref c1) = true)
    (bE1 : PySem.W.subIn K (.ref c1) (.type "BaseException") = some true)
    (tE1 : PySem.W.typeIn K (.ref c1) = some (.type "type"))
    (pg2 : PySem.W.plainGet K c2 Str.empty = true)
    (hd2 : PySem.W.hasDictIn K c2 = true)
    (po2 : PySem.W.plainOver K c2 = true)
    (sa2 : PySem.W.findIn K (.ref c2) "__setattr__" = some (some (.builtin "object.__setattr__")))
    (nf2_0 : PySem.W.findIn K (.ref c2) "goes_to" = some none)
    (nf2_1 : PySem.W.findIn K (.ref c2) "pile_of" = some none)
    (nf2_2 : PySem.W.findIn K (.ref c2) "piles" = some none)
    (nf2_3 : PySem.W.findIn K (.ref c2) "comes_from" = some none)
    (nf2_4 : PySem.W.findIn K (.ref c2) "made" = some none)
    (z_all : PySem.W.nsIn K mainGlobals "all" = some none)
    (z_dict : PySem.W.nsIn K mainGlobals "dict" = some none)
    (z_int : PySem.W.nsIn K mainGlobals "int" = some none)
    (z_isinstance : PySem.W.nsIn K mainGlobals "isinstance" = some none)
    (z_len : PySem.W.nsIn K mainGlobals "len" = some none)
    (z_list : PySem.W.nsIn K mainGlobals "list" = some none)
    (z_max : PySem.W.nsIn K mainGlobals "max" = some none)
    (z_min : PySem.W.nsIn K mainGlobals "min" = some none)
    (z_range : PySem.W.nsIn K mainGlobals "range" = some none)
    (z_sorted : PySem.W.nsIn K mainGlobals "sorted" = some none)
    (z_str : PySem.W.nsIn K mainGlobals "str" = some none)
    : ∃ fd : FuncData, (∀ (s : Shared) (v : Value), BindsTo s fd ⟨[v], []⟩ [("_law_script", v)]) ∧ ∀ base : Heap, K.In base → base.Ns mainGlobals mg → FnOk l.prog w K mg base CX0 5 fa fd ["_law_script"] (sp_top K) := by
  have e := hfa.symm.trans (PySem.W.mg_of X H a20)
  cases e
  have F0 := fun_mk (st := s_Threads___init__) l0 cc0 k0
  have b0 := F0.binds (ps := ["self"]) fun _ _ _ _ _ _ us hl => match us, hl with | [_], _ => rfl
  have F1 := fun_mk (st := s_Threads_pile) l1 cc1 k1
  have b1 := F1.binds (ps := ["self", "name"]) fun _ _ _ _ _ _ us hl => match us, hl with | [_, _], _ => rfl
  have F2 := fun_mk (st := s_Threads_put_together) l2 cc2 k2
  have b2 := F2.binds (ps := ["self", "one", "other"]) fun _ _ _ _ _ _ us hl => match us, hl with | [_, _, _], _ => rfl
  have F3 := fun_mk (st := s_Threads_hang) l3 cc3 k3
  have b3 := F3.binds (ps := ["self", "name"]) fun _ _ _ _ _ _ us hl => match us, hl with | [_, _], _ => rfl
  have F4 := fun_mk (st := s_Threads_sure) l4 cc4 k4
  have b4 := F4.binds (ps := ["self", "name"]) fun _ _ _ _ _ _ us hl => match us, hl with | [_, _], _ => rfl
  have k5 := F5.kp
  have b5 : Binds K fd5 ["self", "name", "answers"] [] := by
    obtain ⟨ds, hv, hb⟩ := F5.binds1 (ps := ["self", "name", "answers"]) 3 1 (by simp) rfl (fun _ _ _ _ _ _ _ us its hl hi => match us, its, hl, hi with | [_, _, _], [_], _, _ => ⟨_, rfl, rfl⟩)
    cases hv; exact hb
  have F6 := fun_mk (st := s_Threads_take_out) l6 cc6 k6
  have b6 := F6.binds (ps := ["self", "name"]) fun _ _ _ _ _ _ us hl => match us, hl with | [_, _], _ => rfl
  have F7 := fun_mk (st := s_Threads_names) l7 cc7 k7
  have b7 := F7.binds (ps := ["self"]) fun _ _ _ _ _ _ us hl => match us, hl with | [_], _ => rfl
  have F8 := fun_mk (st := s_Threads_thread) l8 cc8 k8
  have b8 := F8.binds (ps := ["self", "name"]) fun _ _ _ _ _ _ us hl => match us, hl with | [_, _], _ => rfl
  have F9 := fun_mk (st := s_Threads_threads) l9 cc9 k9
  have b9 := F9.binds (ps := ["self"]) fun _ _ _ _ _ _ us hl => match us, hl with | [_], _ => rfl
  have F10 := fun_mk (st := s_Threads_answers_to) l10 cc10 k10
  have b10 := F10.binds (ps := ["self", "name"]) fun _ _ _ _ _ _ us hl => match us, hl with | [_, _], _ => rfl
  have F11 := fun_mk (st := s_Threads_depth) l11 cc11 k11
  have b11 := F11.binds (ps := ["self", "name"]) fun _ _ _ _ _ _ us hl => match us, hl with | [_, _], _ => rfl
  have F12 := fun_mk (st := s_law_draws) l12 cc12 k12
  have b12 := F12.binds (ps := ["_law_script", "_law_many"]) fun _ _ _ _ _ _ us hl => match us, hl with | [_, _], _ => rfl
  have F13 := fun_mk (st := s_law_name_by) l13 cc13 k13
  have b13 := F13.binds (ps := ["_law_shape", "_law_k"]) fun _ _ _ _ _ _ us hl => match us, hl with | [_, _], _ => rfl
  have F14 := fun_mk (st := s_law_is_list) l14 cc14 k14
  have b14 := F14.binds (ps := ["_law_found", "_law_due"]) fun _ _ _ _ _ _ us hl => match us, hl with | [_, _], _ => rfl
  have F15 := fun_mk (st := s_law_rows) l15 cc15 k15
  have b15 := F15.binds (ps := ["_law_draws_here", "_law_many"]) fun _ _ _ _ _ _ us hl => match us, hl with | [_, _], _ => rfl
  have F16 := fun_mk (st := s_law_order) l16 cc16 k16
  have b16 := F16.binds (ps := ["_law_rows_here", "_law_draw"]) fun _ _ _ _ _ _ us hl => match us, hl with | [_, _], _ => rfl
  have F17 := fun_mk (st := s_law_joined) l17 cc17 k17
  have b17 := F17.binds (ps := ["_law_rows_here"]) fun _ _ _ _ _ _ us hl => match us, hl with | [_], _ => rfl
  have F18 := fun_mk (st := s_law_deep) l18 cc18 k18
  have b18 := F18.binds (ps := ["_law_rows_here", "_law_name"]) fun _ _ _ _ _ _ us hl => match us, hl with | [_, _], _ => rfl
  have F19 := fun_mk (st := s_law_stands) l19 cc19 k19
  have b19 := F19.binds (ps := ["_law_threads", "_law_rows_here", "_law_draw"]) fun _ _ _ _ _ _ us hl => match us, hl with | [_, _, _], _ => rfl
  have F20 := fun_mk (st := s_law) l20 cc20 k20
  have b20 := F20.binds (ps := ["_law_script"]) fun _ _ _ _ _ _ us hl => match us, hl with | [_], _ => rfl
  let G : Gx := ⟨K, fun a => none, fun i => ([c0, c1, c2] : List Addr).getD i 0⟩
  have hfz2 : G.fz (G.cl 2) = none := by show (none) = none; rfl
  let T : Txt G mg := {
    a_Threads___init__ := f0,
    fd_Threads___init__ := _,
    F_Threads___init__ := F0,
    b_Threads___init__ := b0,
    kp_Threads___init__ := k0,
    k_Threads := ⟨mk2, a0_2, i0, kc2⟩,
    a_Threads_pile := f1,
    fd_Threads_pile := _,
    F_Threads_pile := F1,
    b_Threads_pile := b1,
    kp_Threads_pile := k1,
    m_Threads_pile := ⟨a1_2, i1, k1⟩,
    a_Threads_put_together := f2,
    fd_Threads_put_together := _,
    F_Threads_put_together := F2,
    b_Threads_put_together := b2,
    kp_Threads_put_together := k2,
    m_Threads_put_together := ⟨a2_2, i2, k2⟩,
    a_Threads_hang := f3,
    fd_Threads_hang := _,
    F_Threads_hang := F3,
    b_Threads_hang := b3,
    kp_Threads_hang := k3,
    m_Threads_hang := ⟨a3_2, i3, k3⟩,
    a_Threads_sure := f4,
    fd_Threads_sure := _,
    F_Threads_sure := F4,
    b_Threads_sure := b4,
    kp_Threads_sure := k4,
    m_Threads_sure := ⟨a4_2, i4, k4⟩,
    a_Threads_add := f5,
    fd_Threads_add := _,
    F_Threads_add := F5,
    b_Threads_add := b5,
    kp_Threads_add := k5,
    m_Threads_add := ⟨a5_2, i5, k5⟩,
    a_Threads_take_out := f6,
    fd_Threads_take_out := _,
    F_Threads_take_out := F6,
    b_Threads_take_out := b6,
    kp_Threads_take_out := k6,
    m_Threads_take_out := ⟨a6_2, i6, k6⟩,
    a_Threads_names := f7,
    fd_Threads_names := _,
    F_Threads_names := F7,
    b_Threads_names := b7,
    kp_Threads_names := k7,
    m_Threads_names := ⟨a7_2, i7, k7⟩,
    a_Threads_thread := f8,
    fd_Threads_thread := _,
    F_Threads_thread := F8,
    b_Threads_thread := b8,
    kp_Threads_thread := k8,
    m_Threads_thread := ⟨a8_2, i8, k8⟩,
    a_Threads_threads := f9,
    fd_Threads_threads := _,
    F_Threads_threads := F9,
    b_Threads_threads := b9,
    kp_Threads_threads := k9,
    m_Threads_threads := ⟨a9_2, i9, k9⟩,
    a_Threads_answers_to := f10,
    fd_Threads_answers_to := _,
    F_Threads_answers_to := F10,
    b_Threads_answers_to := b10,
    kp_Threads_answers_to := k10,
    m_Threads_answers_to := ⟨a10_2, i10, k10⟩,
    a_Threads_depth := f11,
    fd_Threads_depth := _,
    F_Threads_depth := F11,
    b_Threads_depth := b11,
    kp_Threads_depth := k11,
    m_Threads_depth := ⟨a11_2, i11, k11⟩,
    a_law_draws := f12,
    fd_law_draws := _,
    F_law_draws := F12,
    b_law_draws := b12,
    kp_law_draws := k12,
    g_law_draws := PySem.W.mg_of X H a12,
    a_law_name_by := f13,
    fd_law_name_by := _,
    F_law_name_by := F13,
    b_law_name_by := b13,
    kp_law_name_by := k13,
    g_law_name_by := PySem.W.mg_of X H a13,
    a_law_is_list := f14,
    fd_law_is_list := _,
    F_law_is_list := F14,
    b_law_is_list := b14,
    kp_law_is_list := k14,
    g_law_is_list := PySem.W.mg_of X H a14,
    a_law_rows := f15,
    fd_law_rows := _,
    F_law_rows := F15,
    b_law_rows := b15,
    kp_law_rows := k15,
    g_law_rows := PySem.W.mg_of X H a15,
    a_law_order := f16,
    fd_law_order := _,
    F_law_order := F16,
    b_law_order := b16,
    kp_law_order := k16,
    g_law_order := PySem.W.mg_of X H a16,
    a_law_joined := f17,
    fd_law_joined := _,
    F_law_joined := F17,
    b_law_joined := b17,
    kp_law_joined := k17,
    g_law_joined := PySem.W.mg_of X H a17,
    a_law_deep := f18,
    fd_law_deep := _,
    F_law_deep := F18,
    b_law_deep := b18,
    kp_law_deep := k18,
    g_law_deep := PySem.W.mg_of X H a18,
    a_law_stands := f19,
    fd_law_stands := _,
    F_law_stands := F19,
    b_law_stands := b19,
    kp_law_stands := k19,
    g_law_stands := PySem.W.mg_of X H a19,
    a_law := fa,
    fd_law := _,
    F_law := F20,
    b_law := b20,
    kp_law := k20,
    g_law := PySem.W.mg_of X H a20,
    g_MailError := PySem.W.mg_of X H ac0,
    g_NoName := PySem.W.mg_of X H ac1,
    x_NoName := xE1,
    kp_NoName := kE1,
    r_NoName := fun {Y} hY => raises_own (by rw [hY]; exact bE1) (by rw [hY]; exact tE1),
    g_Threads := PySem.W.mg_of X H ac2,
    cl_Threads := ⟨pg2, hd2, po2, sa2⟩,
    n_Threads_goes_to := nf2_0,
    n_Threads_pile_of := nf2_1,
    n_Threads_piles := nf2_2,
    n_Threads_comes_from := nf2_3,
    n_Threads_made := nf2_4,
    fz_Threads := hfz2,
    z_all := PySem.W.mg_none_of X H z_all,
    z_dict := PySem.W.mg_none_of X H z_dict,
    z_int := PySem.W.mg_none_of X H z_int,
    z_isinstance := PySem.W.mg_none_of X H z_isinstance,
    z_len := PySem.W.mg_none_of X H z_len,
    z_list := PySem.W.mg_none_of X H z_list,
    z_max := PySem.W.mg_none_of X H z_max,
    z_min := PySem.W.mg_none_of X H z_min,
    z_range := PySem.W.mg_none_of X H z_range,
    z_sorted := PySem.W.mg_none_of X H z_sorted,
    z_str := PySem.W.mg_none_of X H z_str }
  refine ⟨T.fd_law, fun s v => .of_eq rfl, fun base _ _ => ((ok_law T : FnOk l.prog w K mg base CX0 5 fa T.fd_law ["_law_script"] (sp_law G)).imp fun vs H Q E hh => ?_)⟩
  obtain ⟨a, ns, rfl, hs, ho, hl, hq⟩ := hh
  exact ⟨.ref a, ⟨ns⟩, star [], rfl, im_of_only (G := G) ho hs, Sep.unstar (M := []) (Sep.nil H), R.wp_of (law_ok ⟨ns⟩ hl) fun H' _ => hq H'⟩
theorem says_mk {l : PySem.W.OpenLaw} {w : World} {K : PySem.W.Frag} {h : Heap} {mg : Str → Option Value} {fa : Addr} (X : K.In h) (H : h.Ns mainGlobals mg) (hfa : mg "law" = some (.ref fa)) (c : obsK K = valK)
    : ∃ fd : FuncData, (∀ (s : Shared) (v : Value), BindsTo s fd ⟨[v], []⟩ [("_law_script", v)]) ∧ ∀ base : Heap, K.In base → base.Ns mainGlobals mg → FnOk l.prog w K mg base CX0 5 fa fd ["_law_script"] (sp_top K) := by
  have hb : ((fb0 K).all id && (fb1 K).all id) = true := congrArg (fun z : ObT => z.1) c
  simp only [Bool.and_eq_true] at hb
  obtain ⟨g0, g1⟩ := hb
  have cD0 : obsD dfns0 K = valD dfns0 := congrArg (fun z : ObT => z.2) c
  have ac0 : PySem.W.nsIn K mainGlobals "MailError" = some (some (.ref 24)) := of_decide_eq_true (fxM g0 0 rfl)
  have ac1 : PySem.W.nsIn K mainGlobals "NoName" = some (some (.ref 37)) := of_decide_eq_true (fxM g0 1 rfl)
  have ac2 : PySem.W.nsIn K mainGlobals "Threads" = some (some (.ref 132)) := of_decide_eq_true (fxM g0 2 rfl)
  have a0_2 : PySem.W.findIn K (.ref 132) "__init__" = some (some (.ref 53)) := of_decide_eq_true (fxM g0 3 rfl)
  have i0 : PySem.W.isFn K (.ref 53) = true := of_decide_eq_true (fxM g0 4 rfl)
  have mk2 : PySem.W.makesIn K 132 = true := of_decide_eq_true (fxM g0 5 rfl)
  have kc2 : PySem.W.keepIn K (.ref 132) = true := of_decide_eq_true (fxM g0 6 rfl)
  have a1_2 : PySem.W.findIn K (.ref 132) "pile" = some (some (.ref 60)) := of_decide_eq_true (fxM g0 7 rfl)
  have i1 : PySem.W.isFn K (.ref 60) = true := of_decide_eq_true (fxM g0 8 rfl)
  have a2_2 : PySem.W.findIn K (.ref 132) "put_together" = some (some (.ref 67)) := of_decide_eq_true (fxM g0 9 rfl)
  have i2 : PySem.W.isFn K (.ref 67) = true := of_decide_eq_true (fxM g0 10 rfl)
  have a3_2 : PySem.W.findIn K (.ref 132) "hang" = some (some (.ref 74)) := of_decide_eq_true (fxM g0 11 rfl)
  have i3 : PySem.W.isFn K (.ref 74) = true := of_decide_eq_true (fxM g0 12 rfl)
  have a4_2 : PySem.W.findIn K (.ref 132) "sure" = some (some (.ref 81)) := of_decide_eq_true (fxM g0 13 rfl)
  have i4 : PySem.W.isFn K (.ref 81) = true := of_decide_eq_true (fxM g0 14 rfl)
  have a5_2 : PySem.W.findIn K (.ref 132) "add" = some (some (.ref 89)) := of_decide_eq_true (fxM g0 15 rfl)
  have i5 : PySem.W.isFn K (.ref 89) = true := of_decide_eq_true (fxM g0 16 rfl)
  have a6_2 : PySem.W.findIn K (.ref 132) "take_out" = some (some (.ref 96)) := of_decide_eq_true (fxM g0 17 rfl)
  have i6 : PySem.W.isFn K (.ref 96) = true := of_decide_eq_true (fxM g0 18 rfl)
  have a7_2 : PySem.W.findIn K (.ref 132) "names" = some (some (.ref 103)) := of_decide_eq_true (fxM g0 19 rfl)
  have i7 : PySem.W.isFn K (.ref 103) = true := of_decide_eq_true (fxM g0 20 rfl)
  have a8_2 : PySem.W.findIn K (.ref 132) "thread" = some (some (.ref 108)) := of_decide_eq_true (fxM g0 21 rfl)
  have i8 : PySem.W.isFn K (.ref 108) = true := of_decide_eq_true (fxM g0 22 rfl)
  have a9_2 : PySem.W.findIn K (.ref 132) "threads" = some (some (.ref 115)) := of_decide_eq_true (fxM g0 23 rfl)
  have i9 : PySem.W.isFn K (.ref 115) = true := of_decide_eq_true (fxM g0 24 rfl)
  have a10_2 : PySem.W.findIn K (.ref 132) "answers_to" = some (some (.ref 122)) := of_decide_eq_true (fxM g0 25 rfl)
  have i10 : PySem.W.isFn K (.ref 122) = true := of_decide_eq_true (fxM g0 26 rfl)
  have a11_2 : PySem.W.findIn K (.ref 132) "depth" = some (some (.ref 129)) := of_decide_eq_true (fxM g0 27 rfl)
  have i11 : PySem.W.isFn K (.ref 129) = true := of_decide_eq_true (fxM g0 28 rfl)
  have a12 : PySem.W.nsIn K mainGlobals "_law_draws" = some (some (.ref 143)) := of_decide_eq_true (fxM g0 29 rfl)
  have a13 : PySem.W.nsIn K mainGlobals "_law_name_by" = some (some (.ref 150)) := of_decide_eq_true (fxM g0 30 rfl)
  have a14 : PySem.W.nsIn K mainGlobals "_law_is_list" = some (some (.ref 155)) := of_decide_eq_true (fxM g0 31 rfl)
  have a15 : PySem.W.nsIn K mainGlobals "_law_rows" = some (some (.ref 160)) := of_decide_eq_true (fxM g0 32 rfl)
  have a16 : PySem.W.nsIn K mainGlobals "_law_order" = some (some (.ref 167)) := of_decide_eq_true (fxM g0 33 rfl)
  have a17 : PySem.W.nsIn K mainGlobals "_law_joined" = some (some (.ref 172)) := of_decide_eq_true (fxM g0 34 rfl)
  have a18 : PySem.W.nsIn K mainGlobals "_law_deep" = some (some (.ref 179)) := of_decide_eq_true (fxM g0 35 rfl)
  have a19 : PySem.W.nsIn K mainGlobals "_law_stands" = some (some (.ref 184)) := of_decide_eq_true (fxM g0 36 rfl)
  have a20 : PySem.W.nsIn K mainGlobals "law" = some (some (.ref 191)) := of_decide_eq_true (fxM g0 37 rfl)
  have xE1 : PySem.W.excIn K 37 [.type "ValueError", .type "Exception", .type "BaseException", .type "object"] "ValueError.__new__" = true := of_decide_eq_true (fxM g0 38 rfl)
  have kE1 : PySem.W.keepIn K (.ref 37) = true := of_decide_eq_true (fxM g0 39 rfl)
  have bE1 : PySem.W.subIn K (.ref 37) (.type "BaseException") = some true := of_decide_eq_true (fxM g1 0 rfl)
  have tE1 : PySem.W.typeIn K (.ref 37) = some (.type "type") := of_decide_eq_true (fxM g1 1 rfl)
  have pg2 : PySem.W.plainGet K 132 Str.empty = true := of_decide_eq_true (fxM g1 2 rfl)
  have hd2 : PySem.W.hasDictIn K 132 = true := of_decide_eq_true (fxM g1 3 rfl)
  have po2 : PySem.W.plainOver K 132 = true := of_decide_eq_true (fxM g1 4 rfl)
  have sa2 : PySem.W.findIn K (.ref 132) "__setattr__" = some (some (.builtin "object.__setattr__")) := of_decide_eq_true (fxM g1 5 rfl)
  have nf2_0 : PySem.W.findIn K (.ref 132) "goes_to" = some none := of_decide_eq_true (fxM g1 6 rfl)
  have nf2_1 : PySem.W.findIn K (.ref 132) "pile_of" = some none := of_decide_eq_true (fxM g1 7 rfl)
  have nf2_2 : PySem.W.findIn K (.ref 132) "piles" = some none := of_decide_eq_true (fxM g1 8 rfl)
  have nf2_3 : PySem.W.findIn K (.ref 132) "comes_from" = some none := of_decide_eq_true (fxM g1 9 rfl)
  have nf2_4 : PySem.W.findIn K (.ref 132) "made" = some none := of_decide_eq_true (fxM g1 10 rfl)
  have z_all : PySem.W.nsIn K mainGlobals "all" = some none := of_decide_eq_true (fxM g1 11 rfl)
  have z_dict : PySem.W.nsIn K mainGlobals "dict" = some none := of_decide_eq_true (fxM g1 12 rfl)
  have z_int : PySem.W.nsIn K mainGlobals "int" = some none := of_decide_eq_true (fxM g1 13 rfl)
  have z_isinstance : PySem.W.nsIn K mainGlobals "isinstance" = some none := of_decide_eq_true (fxM g1 14 rfl)
  have z_len : PySem.W.nsIn K mainGlobals "len" = some none := of_decide_eq_true (fxM g1 15 rfl)
  have z_list : PySem.W.nsIn K mainGlobals "list" = some none := of_decide_eq_true (fxM g1 16 rfl)
  have z_max : PySem.W.nsIn K mainGlobals "max" = some none := of_decide_eq_true (fxM g1 17 rfl)
  have z_min : PySem.W.nsIn K mainGlobals "min" = some none := of_decide_eq_true (fxM g1 18 rfl)
  have z_range : PySem.W.nsIn K mainGlobals "range" = some none := of_decide_eq_true (fxM g1 19 rfl)
  have z_sorted : PySem.W.nsIn K mainGlobals "sorted" = some none := of_decide_eq_true (fxM g1 20 rfl)
  have z_str : PySem.W.nsIn K mainGlobals "str" = some none := of_decide_eq_true (fxM g1 21 rfl)
  obtain ⟨fd0, F0⟩ : ∃ fd, FunD K "__init__" "Threads.__init__" (defArgs s_Threads___init__) (defBody s_Threads___init__) (defScope s_Threads___init__) [] [] 53 fd := defM cD0 0 (d := dfn0) rfl
  obtain ⟨⟨oc0, od0, kV0, dc0, pm0, an0, cd0, ct0, sl0, rfl, l0, cc0⟩, k0⟩ := He5.fun_of F0
  obtain ⟨fd1, F1⟩ : ∃ fd, FunD K "pile" "Threads.pile" (defArgs s_Threads_pile) (defBody s_Threads_pile) (defScope s_Threads_pile) [] [] 60 fd := defM cD0 1 (d := dfn1) rfl
  obtain ⟨⟨oc1, od1, kV1, dc1, pm1, an1, cd1, ct1, sl1, rfl, l1, cc1⟩, k1⟩ := He5.fun_of F1
  obtain ⟨fd2, F2⟩ : ∃ fd, FunD K "put_together" "Threads.put_together" (defArgs s_Threads_put_together) (defBody s_Threads_put_together) (defScope s_Threads_put_together) [] [] 67 fd := defM cD0 2 (d := dfn2) rfl
  obtain ⟨⟨oc2, od2, kV2, dc2, pm2, an2, cd2, ct2, sl2, rfl, l2, cc2⟩, k2⟩ := He5.fun_of F2
  obtain ⟨fd3, F3⟩ : ∃ fd, FunD K "hang" "Threads.hang" (defArgs s_Threads_hang) (defBody s_Threads_hang) (defScope s_Threads_hang) [] [] 74 fd := defM cD0 3 (d := dfn3) rfl
  obtain ⟨⟨oc3, od3, kV3, dc3, pm3, an3, cd3, ct3, sl3, rfl, l3, cc3⟩, k3⟩ := He5.fun_of F3
  obtain ⟨fd4, F4⟩ : ∃ fd, FunD K "sure" "Threads.sure" (defArgs s_Threads_sure) (defBody s_Threads_sure) (defScope s_Threads_sure) [] [] 81 fd := defM cD0 4 (d := dfn4) rfl
  obtain ⟨⟨oc4, od4, kV4, dc4, pm4, an4, cd4, ct4, sl4, rfl, l4, cc4⟩, k4⟩ := He5.fun_of F4
  obtain ⟨fd5, F5⟩ : ∃ fd, FunD K "add" "Threads.add" (defArgs s_Threads_add) (defBody s_Threads_add) (defScope s_Threads_add) [.str ("" : Str)] [] 89 fd := defM cD0 5 (d := dfn5) rfl
  obtain ⟨fd6, F6⟩ : ∃ fd, FunD K "take_out" "Threads.take_out" (defArgs s_Threads_take_out) (defBody s_Threads_take_out) (defScope s_Threads_take_out) [] [] 96 fd := defM cD0 6 (d := dfn6) rfl
  obtain ⟨⟨oc6, od6, kV6, dc6, pm6, an6, cd6, ct6, sl6, rfl, l6, cc6⟩, k6⟩ := He5.fun_of F6
  obtain ⟨fd7, F7⟩ : ∃ fd, FunD K "names" "Threads.names" (defArgs s_Threads_names) (defBody s_Threads_names) (defScope s_Threads_names) [] [] 103 fd := defM cD0 7 (d := dfn7) rfl
  obtain ⟨⟨oc7, od7, kV7, dc7, pm7, an7, cd7, ct7, sl7, rfl, l7, cc7⟩, k7⟩ := He5.fun_of F7
  obtain ⟨fd8, F8⟩ : ∃ fd, FunD K "thread" "Threads.thread" (defArgs s_Threads_thread) (defBody s_Threads_thread) (defScope s_Threads_thread) [] [] 108 fd := defM cD0 8 (d := dfn8) rfl
  obtain ⟨⟨oc8, od8, kV8, dc8, pm8, an8, cd8, ct8, sl8, rfl, l8, cc8⟩, k8⟩ := He5.fun_of F8
  obtain ⟨fd9, F9⟩ : ∃ fd, FunD K "threads" "Threads.threads" (defArgs s_Threads_threads) (defBody s_Threads_threads) (defScope s_Threads_threads) [] [] 115 fd := defM cD0 9 (d := dfn9) rfl
  obtain ⟨⟨oc9, od9, kV9, dc9, pm9, an9, cd9, ct9, sl9, rfl, l9, cc9⟩, k9⟩ := He5.fun_of F9
  obtain ⟨fd10, F10⟩ : ∃ fd, FunD K "answers_to" "Threads.answers_to" (defArgs s_Threads_answers_to) (defBody s_Threads_answers_to) (defScope s_Threads_answers_to) [] [] 122 fd := defM cD0 10 (d := dfn10) rfl
  obtain ⟨⟨oc10, od10, kV10, dc10, pm10, an10, cd10, ct10, sl10, rfl, l10, cc10⟩, k10⟩ := He5.fun_of F10
  obtain ⟨fd11, F11⟩ : ∃ fd, FunD K "depth" "Threads.depth" (defArgs s_Threads_depth) (defBody s_Threads_depth) (defScope s_Threads_depth) [] [] 129 fd := defM cD0 11 (d := dfn11) rfl
  obtain ⟨⟨oc11, od11, kV11, dc11, pm11, an11, cd11, ct11, sl11, rfl, l11, cc11⟩, k11⟩ := He5.fun_of F11
  obtain ⟨fd12, F12⟩ : ∃ fd, FunD K "_law_draws" "_law_draws" (defArgs s_law_draws) (defBody s_law_draws) (defScope s_law_draws) [] [] 143 fd := defM cD0 12 (d := dfn12) rfl
  obtain ⟨⟨oc12, od12, kV12, dc12, pm12, an12, cd12, ct12, sl12, rfl, l12, cc12⟩, k12⟩ := He5.fun_of F12
  obtain ⟨fd13, F13⟩ : ∃ fd, FunD K "_law_name_by" "_law_name_by" (defArgs s_law_name_by) (defBody s_law_name_by) (defScope s_law_name_by) [] [] 150 fd := defM cD0 13 (d := dfn13) rfl
  obtain ⟨⟨oc13, od13, kV13, dc13, pm13, an13, cd13, ct13, sl13, rfl, l13, cc13⟩, k13⟩ := He5.fun_of F13
  obtain ⟨fd14, F14⟩ : ∃ fd, FunD K "_law_is_list" "_law_is_list" (defArgs s_law_is_list) (defBody s_law_is_list) (defScope s_law_is_list) [] [] 155 fd := defM cD0 14 (d := dfn14) rfl
  obtain ⟨⟨oc14, od14, kV14, dc14, pm14, an14, cd14, ct14, sl14, rfl, l14, cc14⟩, k14⟩ := He5.fun_of F14
  obtain ⟨fd15, F15⟩ : ∃ fd, FunD K "_law_rows" "_law_rows" (defArgs s_law_rows) (defBody s_law_rows) (defScope s_law_rows) [] [] 160 fd := defM cD0 15 (d := dfn15) rfl
  obtain ⟨⟨oc15, od15, kV15, dc15, pm15, an15, cd15, ct15, sl15, rfl, l15, cc15⟩, k15⟩ := He5.fun_of F15
  obtain ⟨fd16, F16⟩ : ∃ fd, FunD K "_law_order" "_law_order" (defArgs s_law_order) (defBody s_law_order) (defScope s_law_order) [] [] 167 fd := defM cD0 16 (d := dfn16) rfl
  obtain ⟨⟨oc16, od16, kV16, dc16, pm16, an16, cd16, ct16, sl16, rfl, l16, cc16⟩, k16⟩ := He5.fun_of F16
  obtain ⟨fd17, F17⟩ : ∃ fd, FunD K "_law_joined" "_law_joined" (defArgs s_law_joined) (defBody s_law_joined) (defScope s_law_joined) [] [] 172 fd := defM cD0 17 (d := dfn17) rfl
  obtain ⟨⟨oc17, od17, kV17, dc17, pm17, an17, cd17, ct17, sl17, rfl, l17, cc17⟩, k17⟩ := He5.fun_of F17
  obtain ⟨fd18, F18⟩ : ∃ fd, FunD K "_law_deep" "_law_deep" (defArgs s_law_deep) (defBody s_law_deep) (defScope s_law_deep) [] [] 179 fd := defM cD0 18 (d := dfn18) rfl
  obtain ⟨⟨oc18, od18, kV18, dc18, pm18, an18, cd18, ct18, sl18, rfl, l18, cc18⟩, k18⟩ := He5.fun_of F18
  obtain ⟨fd19, F19⟩ : ∃ fd, FunD K "_law_stands" "_law_stands" (defArgs s_law_stands) (defBody s_law_stands) (defScope s_law_stands) [] [] 184 fd := defM cD0 19 (d := dfn19) rfl
  obtain ⟨⟨oc19, od19, kV19, dc19, pm19, an19, cd19, ct19, sl19, rfl, l19, cc19⟩, k19⟩ := He5.fun_of F19
  obtain ⟨fd20, F20⟩ : ∃ fd, FunD K "law" "law" (defArgs s_law) (defBody s_law) (defScope s_law) [] [] 191 fd := defM cD0 20 (d := dfn20) rfl
  obtain ⟨⟨oc20, od20, kV20, dc20, pm20, an20, cd20, ct20, sl20, rfl, l20, cc20⟩, k20⟩ := He5.fun_of F20
  exact all_mk X H hfa ac0 ac1 ac2 a0_2 i0 l0 cc0 k0 mk2 kc2 a1_2 i1 l1 cc1 k1 a2_2 i2 l2 cc2 k2 a3_2 i3 l3 cc3 k3 a4_2 i4 l4 cc4 k4 a5_2 i5 F5 a6_2 i6 l6 cc6 k6 a7_2 i7 l7 cc7 k7 a8_2 i8 l8 cc8 k8 a9_2 i9 l9 cc9 k9 a10_2 i10 l10 cc10 k10 a11_2 i11 l11 cc11 k11 a12 l12 cc12 k12 a13 l13 cc13 k13 a14 l14 cc14 k14 a15 l15 cc15 k15 a16 l16 cc16 k16 a17 l17 cc17 k17 a18 l18 cc18 k18 a19 l19 cc19 k19 a20 l20 cc20 k20 xE1 kE1 bE1 tE1 pg2 hd2 po2 sa2 nf2_0 nf2_1 nf2_2 nf2_3 nf2_4 z_all z_dict z_int z_isinstance z_len z_list z_max z_min z_range z_sorted z_str
end Lw
open PySem PySem.W PyProof.Rows
set_option maxRecDepth 100000 in
set_option maxHeartbeats 0 in
theorem PySem.Challenge.cw_mailroom_k23_great_threads_holds : PySem.Challenge.rw_mailroom_k23_great_threads.Holds := by
  w_on; o_law
  refine HandSHeadRun.head_any (r := OpenLaw.row PySem.Challenge.rw_mailroom_k23_great_threads) (q := view (OpenLaw.row PySem.Challenge.rw_mailroom_k23_great_threads).prog [14]) (H := Lw.hookM) (ob := Lw.obM) (M := 40000) (loose := Lw.namesM) (d := HandSHeadRun.topDef (OpenLaw.row PySem.Challenge.rw_mailroom_k23_great_threads).prog 14) (kwd := []) Lw.obM_eq
    (by kernel_rfl) (fun s => by kernel_rfl) Lw.runM (by kernel_rfl) (by kernel_rfl) (by kernel_rfl) (by rfl) (by first | assumption | decide +kernel) (by decide +kernel) ⟨rfl, rfl, rfl, rfl, rfl, by decide +kernel⟩ ?hw ?hc
  case hw => w_witness2
  case hc =>
    refine L2.walk_ofE (l := PySem.Challenge.rw_mailroom_k23_great_threads) (n := 63) (k := 5) (x := "_law_script") (CX := L2.CX0) rfl (by decide) (by kernel_rfl) ⟨rfl, by decide, by decide⟩ ?F (fun _ _ _ _ z => z)
    intro w mg fa h Y G hmg0
    obtain ⟨K, KX, c⟩ := Y
    have hmg : mg ("law" : PySem.Str) = some (.ref fa) := by
      have e : (HandSHeadRun.topDef (OpenLaw.row PySem.Challenge.rw_mailroom_k23_great_threads).prog 14).name = ("law" : PySem.Str) := by kernel_rfl
      rw [← e]
      exact hmg0
    obtain ⟨fd, hb, hF⟩ := Lw.says_mk (l := PySem.Challenge.rw_mailroom_k23_great_threads) (w := w) KX G hmg c
    exact ⟨K, fd, Lw.sp_top K, KX, hb, fun H a ns hl hO hS => ⟨a, ns, rfl, hS, hO, hl, fun _ => rfl⟩, hF⟩
