import PyProof.Rows.All
import Wide.All
import OpenK.AllK
import Wide.FinOn
import HandS.ForMost
import HandS.ForExc
import HandS.SetKeys
import HandS.IsInst
import HandS.Flow
import HandS.Style
import HandS.CallSlots
import HandS.TryMany
import HandS.StrMore
import HandS.Strs
import HandS.TupLe
import HandS.TupAny
import HandS.More
import HandS.Conv
import HandS.Replace
import HandS.FStr
import HandS.ExcIs
import HandS.RaiseMore
import HandS.Defaults
import HandS.DictTup
import HandS.TupSets
import HandS.SortOrd
import HandS.SortKw
import HandS.Lambda
import PyProof.Rows.StrCase
import HandS.TryOnly
import KE.DataFind
import HandS.HotCalls
import HandS.Small
import HandS.WordsDict
import KE.KEqDict
import PyProof.NeKinds
import PyProof.FactsAll.dict_1
import PyProof.FactsAll.dict_2
import PyProof.FactsAll.str
import PyProof.FactsAll.int
import PyProof.FactsAll.subtypes
import HandS.SetTxt0
import HandS.SetFor
import KE.SortData
import KE.DataCmp
import HandS.Iter
import KE.DataMinMax
import HandS.ExcInit
import HandS.ClsMeth
import HandS.ExcField
import KE.KExcIs
import HandS.ExcInitHot
import HandS.SuiteRaise
import KE.GoesEnumKw
import HandS.NoneIn
import PyProof.SeqRoads2
import HandS.Ends
import HandS.Deep
import HandS.DictComp
import KE.SortKeyHeap
import HandS.Records
import HandS.Head0
import HandS.Head1
import HandS.Head2
import HandS.HeadEnd
import HandS.HeadHook1
import HandS.HeadHook2
import HandS.HeadNt
import PySem.Challenge.RW_mailroom_k42_deeds_done
set_option Elab.async false
set_option linter.all false
set_option maxRecDepth 100000
set_option maxHeartbeats 4000000
namespace Ml
open PySem L2
structure Gx where
  K : PySem.W.Frag
  fz : Addr → Option Nat
  cl : Nat → Addr
/-- what never changes once it stands -/
def per (G : Gx) : HO → Bool
  | .tup _ => true
  | .frz _ (.lst _) => true
  | .ins C _ fs => decide (G.fz C = some fs.length)
  | _ => false
/-- what sort of thing it is -/
def kindOf : HO → Nat
  | .lst _ => 0
  | .frz _ (.lst _) => 0
  | .dK _ => 1
  | .frz _ (.dK _) => 1
  | .dT _ => 6
  | .frz _ (.dT _) => 6
  | .tup _ => 2
  | .set _ _ => 3
  | .ins _ _ _ => 4
  | _ => 5
/-- all that never changes stands on, and nothing becomes another sort of thing -/
def Stab (G : Gx) (H H' : Hp) : Prop := (∀ a o, H a = some o → per G o = true → H' a = some o) ∧ ∀ a o, H a = some o → ∃ o', H' a = some o' ∧ kindOf o' = kindOf o
theorem Stab.refl {G : Gx} (H : Hp) : Stab G H H := ⟨fun _ _ h _ => h, fun _ o h => ⟨o, h, rfl⟩⟩
theorem Stab.trans {G : Gx} {H H1 H2 : Hp} (a : Stab G H H1) (b : Stab G H1 H2) : Stab G H H2 := ⟨fun x o h p => b.1 x o (a.1 x o h p) p, fun x o h => by
  obtain ⟨o1, h1, k1⟩ := a.2 x o h
  obtain ⟨o2, h2, k2⟩ := b.2 x o1 h1
  exact ⟨o2, h2, k2.trans k1⟩⟩
theorem Stab.of_same {G : Gx} {H H' : Hp} (s : Same H H') : Stab G H H' := ⟨fun a o h _ => s a o h, fun a o h => ⟨o, s a o h, rfl⟩⟩
theorem stab_put {G : Gx} {H : Hp} {a : Addr} {o o' : HO} (e : H a = some o) (n : per G o = false) (kd : kindOf o' = kindOf o) : Stab G H (upd H a o') := ⟨fun b x hb pb => by
  by_cases z : b = a
  · subst z; rw [e] at hb; cases hb; rw [n] at pb; cases pb
  · rw [upd_ne z]; exact hb, fun b x hb => by
  by_cases z : b = a
  · subst z; rw [e] at hb; cases hb; exact ⟨o', upd_same, kd⟩
  · exact ⟨x, by rw [upd_ne z]; exact hb, rfl⟩⟩
structure Asn (G : Gx) where
  sat : Hp → List Addr → Prop
  loc : ∀ H H' fp, sat H fp → (∀ a, a ∈ fp → H' a = H a) → Stab G H H' → sat H' fp
variable {G : Gx}
def satL (H : Hp) : List (Asn G) → List Addr → Prop
  | [], fp => fp = []
  | A :: L, fp => ∃ f1 f2, fp = f1 ++ f2 ∧ A.sat H f1 ∧ satL H L f2
theorem satL.loc {H H' : Hp} : ∀ {L : List (Asn G)} {fp : List Addr}, satL H L fp → (∀ a, a ∈ fp → H' a = H a) → Stab G H H' → satL H' L fp
  | [], fp, h, _, _ => h
  | A :: L, fp, ⟨f1, f2, e, h1, h2⟩, k, s => ⟨f1, f2, e, A.loc H H' f1 h1 (fun a m => k a (by rw [e]; exact List.mem_append_left _ m)) s,
      satL.loc h2 (fun a m => k a (by rw [e]; exact List.mem_append_right _ m)) s⟩
theorem satL.perm {H : Hp} {L L' : List (Asn G)} (p : L.Perm L') : ∀ {fp : List Addr}, satL H L fp → ∃ fp', fp'.Perm fp ∧ satL H L' fp' := by
  induction p with
  | nil => intro fp h; exact ⟨fp, .refl _, h⟩
  | cons x _ ih =>
    rintro fp ⟨f1, f2, e, h1, h2⟩
    obtain ⟨g, pg, hg⟩ := ih h2
    exact ⟨f1 ++ g, by rw [e]; exact List.Perm.append_left f1 pg, f1, g, rfl, h1, hg⟩
  | swap x y l =>
    rintro fp ⟨f1, f2, e, h1, g1, g2, e2, k1, k2⟩
    refine ⟨g1 ++ (f1 ++ g2), ?_, g1, f1 ++ g2, rfl, k1, f1, g2, rfl, h1, k2⟩
    rw [e, e2, ← List.append_assoc, ← List.append_assoc]
    exact List.Perm.append_right g2 List.perm_append_comm
  | trans _ _ ih1 ih2 =>
    intro fp h
    obtain ⟨g, pg, hg⟩ := ih1 h
    obtain ⟨k, pk, hk⟩ := ih2 hg
    exact ⟨k, pk.trans pg, hk⟩
theorem satL.append {H : Hp} : ∀ {L L' : List (Asn G)} {fp : List Addr}, satL H (L ++ L') fp ↔ ∃ f1 f2, fp = f1 ++ f2 ∧ satL H L f1 ∧ satL H L' f2
  | [], L', fp => ⟨fun h => ⟨[], fp, rfl, rfl, h⟩, fun ⟨f1, f2, e, h1, h2⟩ => by
      have h1' : f1 = [] := h1
      subst h1'; subst e; exact h2⟩
  | A :: L, L', fp => by
    constructor
    · rintro ⟨f1, f2, e, h1, h2⟩
      obtain ⟨g1, g2, e2, k1, k2⟩ := satL.append.mp h2
      exact ⟨f1 ++ g1, g2, by rw [e, e2, List.append_assoc], ⟨f1, g1, rfl, h1, k1⟩, k2⟩
    · rintro ⟨f1, f2, e, ⟨g1, g2, e2, h1, h2⟩, h3⟩
      exact ⟨g1, g2 ++ f2, by rw [e, e2, List.append_assoc], h1, satL.append.mpr ⟨g2, f2, rfl, h2, h3⟩⟩
/-- the assertions hold, each of its own part of the heap -/
def Sep (H : Hp) (L : List (Asn G)) : Prop := ∃ fp, satL H L fp ∧ fp.Nodup ∧ ∀ a, a ∈ fp → ∃ o, H a = some o ∧ per G o = false
theorem Sep.perm {H : Hp} {L L' : List (Asn G)} (h : Sep H L) (p : L.Perm L') : Sep H L' := by
  obtain ⟨fp, h1, h2, h3⟩ := h
  obtain ⟨g, pg, hg⟩ := satL.perm p h1
  exact ⟨g, hg, pg.nodup_iff.mpr h2, fun a m => h3 a (pg.mem_iff.mp m)⟩
theorem Sep.nil (H : Hp) : Sep H ([] : List (Asn G)) := ⟨[], rfl, List.nodup_nil, fun a m => absurd m (by simp)⟩
theorem Sep.left {H : Hp} {L L' : List (Asn G)} (h : Sep H (L ++ L')) : Sep H L := by
  obtain ⟨fp, h1, h2, h3⟩ := h
  obtain ⟨f1, f2, e, k1, k2⟩ := satL.append.mp h1
  subst e
  exact ⟨f1, k1, (List.nodup_append.mp h2).1, fun a m => h3 a (List.mem_append_left _ m)⟩
theorem Sep.tail {H : Hp} {A : Asn G} {L : List (Asn G)} (h : Sep H (A :: L)) : Sep H L := by
  have p : (A :: L).Perm (L ++ [A]) := (List.perm_append_singleton A L).symm
  exact (h.perm p).left
/-- old things stand, new ones may come -/
theorem Sep.more {H H' : Hp} {L : List (Asn G)} (h : Sep H L) (s : Same H H') : Sep H' L := by
  obtain ⟨fp, h1, h2, h3⟩ := h
  exact ⟨fp, h1.loc (fun a m => by obtain ⟨o, e, _⟩ := h3 a m; rw [e]; exact s a o e) (.of_same s), h2, fun a m => by
    obtain ⟨o, e, n⟩ := h3 a m; exact ⟨o, s a o e, n⟩⟩
theorem satL.at {H : Hp} {A : Asn G} : ∀ {L : List (Asn G)} {fp : List Addr} {i : Nat}, satL H L fp → L[i]? = some A → ∃ fp, A.sat H fp
  | [], _, _, _, e => by simp at e
  | B :: L, _, 0, ⟨f1, _, _, k1, _⟩, e => ⟨f1, by
      have : B = A := Option.some.inj e
      subst this; exact k1⟩
  | B :: L, _, i + 1, ⟨_, f2, _, _, k2⟩, e => satL.at (L := L) (i := i) k2 (by simpa using e)
theorem Sep.at {H : Hp} {L : List (Asn G)} (h : Sep H L) {i : Nat} {A : Asn G} (e : L[i]? = some A) : ∃ fp, A.sat H fp := by
  obtain ⟨fp, h1, _, _⟩ := h
  exact satL.at h1 e
/-- the i-th one ahead -/
theorem pull_perm {α : Type} : ∀ {L : List α} {i : Nat} {A : α}, L[i]? = some A → L.Perm (A :: L.eraseIdx i)
  | [], _, _, e => by simp at e
  | B :: L, 0, A, e => by
    have : B = A := Option.some.inj e
    subst this
    exact .refl _
  | B :: L, i + 1, A, e => by
    have ih := pull_perm (L := L) (i := i) (A := A) (by simpa using e)
    exact (List.Perm.cons B ih).trans (List.Perm.swap A B _)
theorem set_perm {α : Type} : ∀ {L : List α} {i : Nat} {A B : α}, L[i]? = some A → (B :: L.eraseIdx i).Perm (L.set i B)
  | [], _, _, _, e => by simp at e
  | C :: L, 0, A, B, e => .refl _
  | C :: L, i + 1, A, B, e => by
    have ih := set_perm (L := L) (i := i) (A := A) (B := B) (by simpa using e)
    exact (List.Perm.swap C B _).trans (List.Perm.cons C ih)
/-- chosen ones, in a chosen order -/
def pick {α : Type} (L : List α) (is : List Nat) : List α := is.filterMap fun i => L[i]?
theorem pick_perm {α : Type} : ∀ (is : List Nat) (L : List α), is.Nodup → ∃ R, L.Perm (pick L is ++ R)
  | [], L, _ => ⟨L, .refl _⟩
  | i :: is, L, nd => by
    obtain ⟨n1, n2⟩ := List.nodup_cons.mp nd
    cases e : L[i]? with
    | none =>
      obtain ⟨R, p⟩ := pick_perm is L n2
      refine ⟨R, ?_⟩
      have : pick L (i :: is) = pick L is := by unfold pick; rw [List.filterMap_cons, e]
      rw [this]; exact p
    | some A =>
      -- the others by their places without i
      have key : ∀ (js : List Nat), i ∉ js → pick L js = pick (L.eraseIdx i) (js.map fun j => if j < i then j else j - 1) := by
        intro js hj
        unfold pick
        rw [List.filterMap_map]
        have gen : ∀ js : List Nat, i ∉ js → js.filterMap (fun i => L[i]?) = js.filterMap ((fun j => (L.eraseIdx i)[j]?) ∘ fun j => if j < i then j else j - 1) := by
          intro js
          induction js with
          | nil => intro _; rfl
          | cons j js ih =>
            intro hm
            have hji : j ≠ i := fun z => hm (by rw [z]; exact List.mem_cons_self)
            have ih' := ih fun z => hm (List.mem_cons_of_mem _ z)
            have ej : L[j]? = ((fun j => (L.eraseIdx i)[j]?) ∘ fun j => if j < i then j else j - 1) j := by
              show L[j]? = (L.eraseIdx i)[if j < i then j else j - 1]?
              rw [List.getElem?_eraseIdx]
              by_cases c : j < i
              · rw [if_pos c, if_pos c]
              · rw [if_neg c, if_neg (by omega)]
                congr 1; omega
            rw [List.filterMap_cons, List.filterMap_cons, ih', ej]
        exact gen js hj
      have nd2 : (is.map fun j => if j < i then j else j - 1).Nodup := by
        refine List.pairwise_map.mpr (List.Pairwise.imp_of_mem ?_ n2)
        intro a b ha hb hab z
        have ha' : a ≠ i := fun q => n1 (q ▸ ha)
        have hb' : b ≠ i := fun q => n1 (q ▸ hb)
        split at z <;> split at z <;> omega
      obtain ⟨R, p⟩ := pick_perm (is.map fun j => if j < i then j else j - 1) (L.eraseIdx i) nd2
      refine ⟨R, ?_⟩
      have e2 : pick L (i :: is) = A :: pick L is := by unfold pick; rw [List.filterMap_cons, e]
      rw [e2, key is n1]
      exact (pull_perm e).trans (List.Perm.cons A p)
termination_by is => is.length
theorem Sep.sel {H : Hp} {L L' : List (Asn G)} (h : Sep H L) (is : List Nat) (nd : is.Nodup) (e : pick L is = L') : Sep H L' := by
  obtain ⟨R, p⟩ := pick_perm is L nd
  rw [e] at p
  exact (h.perm p).left
/-- at a stands o, owned -/
def cell (a : Addr) (o : HO) : Asn G := ⟨fun H fp => fp = [a] ∧ H a = some o, fun H H' fp h k _ => ⟨h.1, by rw [k a (by rw [h.1]; simp)]; exact h.2⟩⟩
/-- a fact that stays -/
def fact (p : Hp → Prop) (st : ∀ H H', p H → Stab G H H' → p H') : Asn G := ⟨fun H fp => fp = [] ∧ p H, fun H H' fp h _ s => ⟨h.1, st H H' h.2 s⟩⟩
/-- several as one -/
def star (L : List (Asn G)) : Asn G := ⟨fun H fp => satL H L fp, fun H H' fp h k s => h.loc k s⟩
/-- some one of them -/
def exA {α : Type} (f : α → Asn G) : Asn G := ⟨fun H fp => ∃ x, (f x).sat H fp, fun H H' fp ⟨x, h⟩ k s => ⟨x, (f x).loc H H' fp h k s⟩⟩
/-- and a plain truth -/
def andA (p : Prop) (A : Asn G) : Asn G := ⟨fun H fp => p ∧ A.sat H fp, fun H H' fp ⟨x, h⟩ k s => ⟨x, A.loc H H' fp h k s⟩⟩
theorem Sep.star {H : Hp} {L M : List (Asn G)} (h : Sep H (M ++ [Ml.star L])) : Sep H (M ++ L) := by
  obtain ⟨fp, h1, h2, h3⟩ := h
  obtain ⟨f1, f2, e, k1, g1, g2, e2, k2, k3⟩ := satL.append.mp h1
  have k3' : g2 = [] := k3
  subst k3'
  rw [List.append_nil] at e2
  subst e2
  exact ⟨fp, satL.append.mpr ⟨f1, f2, e, k1, k2⟩, h2, h3⟩
theorem Sep.unstar {H : Hp} {L M : List (Asn G)} (h : Sep H (M ++ L)) : Sep H (M ++ [Ml.star L]) := by
  obtain ⟨fp, h1, h2, h3⟩ := h
  obtain ⟨f1, f2, e, k1, k2⟩ := satL.append.mp h1
  exact ⟨fp, satL.append.mpr ⟨f1, f2, e, k1, f2, [], by simp, k2, rfl⟩, h2, h3⟩
theorem Sep.star1 {H : Hp} {L M : List (Asn G)} (h : Sep H (Ml.star L :: M)) : Sep H (L ++ M) := by
  obtain ⟨fp, ⟨f1, f2, e, h1, k⟩, h2, h3⟩ := h
  exact ⟨fp, satL.append.mpr ⟨f1, f2, e, h1, k⟩, h2, h3⟩
theorem Sep.unstar1 {H : Hp} {L M : List (Asn G)} (h : Sep H (L ++ M)) : Sep H (Ml.star L :: M) := by
  obtain ⟨fp, h1, h2, h3⟩ := h
  obtain ⟨f1, f2, e, k1, k2⟩ := satL.append.mp h1
  exact ⟨fp, ⟨f1, f2, e, k1, k2⟩, h2, h3⟩
theorem Sep.ex {α : Type} {f : α → Asn G} {H : Hp} {M : List (Asn G)} (h : Sep H (exA f :: M)) : ∃ x, Sep H (f x :: M) := by
  obtain ⟨fp, ⟨f1, f2, e, ⟨x, h1⟩, k⟩, h2, h3⟩ := h
  exact ⟨x, fp, ⟨f1, f2, e, h1, k⟩, h2, h3⟩
theorem Sep.exI {α : Type} {f : α → Asn G} {H : Hp} {M : List (Asn G)} (x : α) (h : Sep H (f x :: M)) : Sep H (exA f :: M) := by
  obtain ⟨fp, ⟨f1, f2, e, h1, k⟩, h2, h3⟩ := h
  exact ⟨fp, ⟨f1, f2, e, ⟨x, h1⟩, k⟩, h2, h3⟩
theorem Sep.and {p : Prop} {A : Asn G} {H : Hp} {M : List (Asn G)} (h : Sep H (andA p A :: M)) : p ∧ Sep H (A :: M) := by
  obtain ⟨fp, ⟨f1, f2, e, ⟨x, h1⟩, k⟩, h2, h3⟩ := h
  exact ⟨x, fp, ⟨f1, f2, e, h1, k⟩, h2, h3⟩
theorem Sep.andI {p : Prop} {A : Asn G} {H : Hp} {M : List (Asn G)} (x : p) (h : Sep H (A :: M)) : Sep H (andA p A :: M) := by
  obtain ⟨fp, ⟨f1, f2, e, h1, k⟩, h2, h3⟩ := h
  exact ⟨fp, ⟨f1, f2, e, ⟨x, h1⟩, k⟩, h2, h3⟩
/-- another view of the first one, over the same part -/
theorem Sep.view {A B : Asn G} {H : Hp} {M : List (Asn G)} (h : Sep H (A :: M)) (v : ∀ fp, A.sat H fp → B.sat H fp) : Sep H (B :: M) := by
  obtain ⟨fp, ⟨f1, f2, e, h1, k⟩, h2, h3⟩ := h
  exact ⟨fp, ⟨f1, f2, e, v f1 h1, k⟩, h2, h3⟩
theorem Sep.addFact {p : Hp → Prop} {st : ∀ H H', p H → Stab G H H' → p H'} {H : Hp} {M : List (Asn G)} (h : Sep H M) (x : p H) : Sep H (fact p st :: M) := by
  obtain ⟨fp, h1, h2, h3⟩ := h
  exact ⟨fp, ⟨[], fp, rfl, ⟨rfl, x⟩, h1⟩, h2, h3⟩
theorem Sep.getFact {p : Hp → Prop} {st : ∀ H H', p H → Stab G H H' → p H'} {H : Hp} {M : List (Asn G)} (h : Sep H M) {i : Nat} (e : M[i]? = some (fact p st)) : p H := by
  obtain ⟨fp, _, x⟩ := h.at e
  exact x
theorem Sep.getCell {H : Hp} {M : List (Asn G)} (h : Sep H M) {i : Nat} {a : Addr} {o : HO} (e : M[i]? = some (cell a o)) : H a = some o := by
  obtain ⟨fp, _, x⟩ := h.at e
  exact x
theorem same_new {H : Hp} {p : Addr} {o : HO} (h : H p = none) : Same H (upd H p o) := fun b u e => by
  rw [upd_ne (ne_of_none e h)]; exact e
/-- a new thing -/
theorem Sep.new {H : Hp} {M : List (Asn G)} (h : Sep H M) {p : Addr} {o : HO} (hp : H p = none) (n : per G o = false) : Sep (upd H p o) (cell p o :: M) := by
  have h' := h.more (same_new (o := o) hp)
  obtain ⟨fp, h1, h2, h3⟩ := h
  obtain ⟨_, k1, _, _⟩ := (⟨fp, h1, h2, h3⟩ : Sep H M)
  have q : satL (upd H p o) M fp := h1.loc (fun a m => by obtain ⟨u, e, _⟩ := h3 a m; exact upd_ne (ne_of_none e hp)) (.of_same (same_new hp))
  refine ⟨p :: fp, ⟨[p], fp, rfl, ⟨rfl, upd_same⟩, q⟩, List.nodup_cons.mpr ⟨fun m => ?_, h2⟩, fun a m => ?_⟩
  · obtain ⟨u, e, _⟩ := h3 p m
    rw [hp] at e; cases e
  · rcases List.mem_cons.mp m with rfl | m
    · exact ⟨o, upd_same, n⟩
    · obtain ⟨u, e, z⟩ := h3 a m
      exact ⟨u, by rw [upd_ne (ne_of_none e hp)]; exact e, z⟩
/-- a store at the first one's place -/
theorem Sep.put1 {H : Hp} {M : List (Asn G)} {a : Addr} {o o' : HO} (h : Sep H (cell a o :: M)) (n : per G o' = false) (kd : kindOf o' = kindOf o) : Sep (upd H a o') (cell a o' :: M) := by
  obtain ⟨fp, ⟨f1, f2, e, ⟨e1, ho⟩, k⟩, h2, h3⟩ := h
  subst e1; subst e
  have nd : ¬ a ∈ f2 := (List.nodup_cons.mp h2).1
  obtain ⟨u, hu, nu⟩ := h3 a (by simp)
  have st : Stab G H (upd H a o') := stab_put ho (by rw [hu] at ho; cases ho; exact nu) kd
  refine ⟨a :: f2, ⟨[a], f2, rfl, ⟨rfl, upd_same⟩, k.loc (fun b m => upd_ne fun z => nd (z ▸ m)) st⟩, h2, fun b m => ?_⟩
  rcases List.mem_cons.mp m with rfl | m
  · exact ⟨o', upd_same, n⟩
  · obtain ⟨x, hx, nx⟩ := h3 b (by simp [m])
    exact ⟨x, by rw [upd_ne (fun z => nd (by rw [← z]; exact m))]; exact hx, nx⟩
theorem Sep.put {H : Hp} {M : List (Asn G)} {i : Nat} {a : Addr} {o o' : HO} (h : Sep H M) (e : M[i]? = some (cell a o)) (n : per G o' = false) (kd : kindOf o' = kindOf o) : Sep (upd H a o') (M.set i (cell a o')) :=
  ((h.perm (pull_perm e)).put1 n kd).perm (set_perm e)
/-- another view of the i-th one -/
theorem Sep.viewAt {A B : Asn G} {H : Hp} {M : List (Asn G)} {i : Nat} (h : Sep H M) (e : M[i]? = some A) (v : ∀ fp, A.sat H fp → B.sat H fp) : Sep H (M.set i B) :=
  ((h.perm (pull_perm e)).view v).perm (set_perm e)
end Ml
namespace Ml
open PySem L2
structure Exc where
  cls : Nat
  row : Int
  deriving DecidableEq, Repr
inductive R (α : Type) where
  | ok (a : α) | exc (x : Exc) | bad
  deriving DecidableEq, Repr
namespace R
variable {α β σ ρ : Type}
def bind : R α → (α → R β) → R β
  | .ok a, f => f a
  | .exc x, _ => .exc x
  | .bad, _ => .bad
@[simp] theorem bind_ok (a : α) (f : α → R β) : (R.ok a).bind f = f a := rfl
@[simp] theorem bind_exc (x : Exc) (f : α → R β) : (R.exc x : R α).bind f = .exc x := rfl
@[simp] theorem bind_bad (f : α → R β) : (R.bad : R α).bind f = .bad := rfl
def need (p : Prop) [Decidable p] (k : R α) : R α := if p then k else .bad
@[simp] theorem need_pos {p : Prop} [Decidable p] (h : p) (k : R α) : need p k = k := if_pos h
/-- what holds of the answer, or of the error -/
def wp : R α → (α → Prop) → (Exc → Prop) → Prop
  | .ok a, q, _ => q a
  | .exc x, _, e => e x
  | .bad, _, _ => False
theorem wp_bind {m : R α} {f : α → R β} {q : β → Prop} {e : Exc → Prop} (h : wp (m.bind f) q e) : wp m (fun a => wp (f a) q e) e := by
  cases m <;> exact h
theorem wp_need {p : Prop} [Decidable p] {k : R α} {q : α → Prop} {e : Exc → Prop} (h : wp (need p k) q e) : p ∧ wp k q e := by
  unfold need at h
  by_cases c : p
  · rw [if_pos c] at h; exact ⟨c, h⟩
  · rw [if_neg c] at h; exact h.elim
theorem wp_mono {m : R α} {q q' : α → Prop} {e e' : Exc → Prop} (h : wp m q e) (hq : ∀ a, q a → q' a) (he : ∀ x, e x → e' x) : wp m q' e' := by
  cases m with
  | ok a => exact hq a h
  | exc x => exact he x h
  | bad => exact h
theorem wp_of {m : R α} {a : α} {q : α → Prop} {e : Exc → Prop} (h : m = .ok a) (k : q a) : wp m q e := by rw [h]; exact k
theorem wp_if {c : Prop} [Decidable c] {a b : R α} {q : α → Prop} {e : Exc → Prop} (h : wp (if c then a else b) q e) : (c → wp a q e) ∧ (¬ c → wp b q e) := by
  by_cases x : c
  · rw [if_pos x] at h; exact ⟨fun _ => h, fun n => absurd x n⟩
  · rw [if_neg x] at h; exact ⟨fun y => absurd y x, fun _ => h⟩
end R
/-- a turn's end: on with s, out of the loop with s, out of the def with r -/
inductive Fl (σ ρ : Type) where
  | go (s : σ) | brk (s : σ) | out (r : ρ)
  deriving DecidableEq, Repr
section
variable {α β σ ρ : Type}
def forR (f : σ → α → R σ) : List α → σ → R σ
  | [], s => .ok s
  | x :: xs, s => (f s x).bind fun s => forR f xs s
def forF (f : σ → α → R (Fl σ ρ)) : List α → σ → R (Fl σ ρ)
  | [], s => .ok (.go s)
  | x :: xs, s => (f s x).bind fun r => match r with
    | .go s => forF f xs s
    | .brk s => .ok (.go s)
    | .out r => .ok (.out r)
/-- a comprehension: what each item gives, the state carried -/
def compR (f : σ → α → R (σ × Option β)) : List α → σ → R (σ × List β)
  | [], s => .ok (s, [])
  | x :: xs, s => (f s x).bind fun r => (compR f xs r.1).bind fun t => .ok (t.1, match r.2 with
    | some y => y :: t.2
    | none => t.2)
end
class Im (G : Gx) (α : Type) where
  im : Hp → V → α → Prop
  st : ∀ {H H' : Hp} {v : V} {x : α}, im H v x → Stab G H H' → im H' v x
class Fv (G : Gx) (α : Type) extends Im G α where
  enc : α → V
  im_iff : ∀ {H : Hp} {v : V} {x : α}, im H v x ↔ v = enc x
variable {G : Gx}
instance imInt : Im G Int := ⟨fun _ v x => v = .int x, fun h _ => h⟩
instance imBool : Im G Bool := ⟨fun _ v x => v = .bl x, fun h _ => h⟩
instance imStr : Im G Str := ⟨fun _ v x => v = .str x, fun h _ => h⟩
instance imUnit : Im G Unit := ⟨fun _ v _ => v = .non, fun h _ => h⟩
instance fInt : Fv G Int := { enc := .int, im_iff := .rfl }
instance fBool : Fv G Bool := { enc := .bl, im_iff := .rfl }
instance fStr : Fv G Str := { enc := .str, im_iff := .rfl }
instance fUnit : Fv G Unit := { enc := fun _ => .non, im_iff := .rfl }
/-- the script -/
structure Script where
  ns : List Int
instance : Im G Script := ⟨fun H v x => ∃ a, v = .ref a ∧ ((∃ o, H a = some (.frz o (.lst (x.ns.map V.int)))) ∨ ∃ o its n, List.lookup a G.K = some o ∧ o.cls = Value.type "list" ∧ o.dict = none ∧ o.data = Data.seq its n ∧ its.size ≤ sizeLine ∧ Vals (x.ns.map V.int) its.toList),
  fun ⟨a, e, h⟩ s => ⟨a, e, h.imp (fun ⟨o, h⟩ => ⟨o, s.1 a _ h rfl⟩) id⟩⟩
theorem im_script {H : Hp} {v : V} {x : Script} (h : Im.im G H v x) : ∃ a, v = .ref a ∧ SqL G.K H a (x.ns.map V.int) := by
  obtain ⟨a, e, h⟩ := h
  refine ⟨a, e, ?_⟩
  rcases h with ⟨o, h⟩ | h
  · exact .inl (.inr ⟨o, h⟩)
  · exact .inr h
theorem sq_script {H : Hp} {a : Addr} {x : Script} (h : Im.im G H (.ref a) x) : SqL G.K H a (x.ns.map V.int) := by
  obtain ⟨b, e, h⟩ := im_script h
  cases e; exact h
def imL {α : Type} [Im G α] (H : Hp) : List V → List α → Prop
  | [], [] => True
  | v :: vs, x :: xs => Im.im G H v x ∧ imL H vs xs
  | _, _ => False
section
variable {α : Type} [Im G α] {H H' : Hp}
theorem imL.st : ∀ {vs : List V} {xs : List α}, imL (G := G) H vs xs → Stab G H H' → imL (G := G) H' vs xs
  | [], [], _, _ => True.intro
  | v :: vs, x :: xs, h, s => ⟨Im.st h.1 s, imL.st h.2 s⟩
  | [], _ :: _, h, _ => h
  | _ :: _, [], h, _ => h
theorem imL.len : ∀ {vs : List V} {xs : List α}, imL (G := G) H vs xs → vs.length = xs.length
  | [], [], _ => rfl
  | v :: vs, x :: xs, h => by rw [List.length_cons, List.length_cons, imL.len h.2]
  | [], _ :: _, h => h.elim
  | _ :: _, [], h => h.elim
theorem imL.app : ∀ {vs ws : List V} {xs ys : List α}, imL (G := G) H vs xs → imL (G := G) H ws ys → imL (G := G) H (vs ++ ws) (xs ++ ys)
  | [], _, [], _, _, h => h
  | v :: vs, _, x :: xs, _, h, k => ⟨h.1, imL.app h.2 k⟩
  | [], _, _ :: _, _, h, _ => h.elim
  | _ :: _, _, [], _, h, _ => h.elim
theorem imL.get : ∀ {vs : List V} {xs : List α} {i : Nat} {x : α}, imL (G := G) H vs xs → xs[i]? = some x → ∃ v, vs[i]? = some v ∧ Im.im G H v x
  | [], [], _, _, _, e => by simp at e
  | v :: vs, x :: xs, 0, y, h, e => by
    have : x = y := Option.some.inj e
    subst this
    exact ⟨v, rfl, h.1⟩
  | v :: vs, x :: xs, i + 1, y, h, e => by
    obtain ⟨u, h1, h2⟩ := imL.get (i := i) (x := y) h.2 (by simpa using e)
    exact ⟨u, by simpa using h1, h2⟩
  | [], _ :: _, _, _, h, _ => h.elim
  | _ :: _, [], _, _, h, _ => h.elim
theorem imL.set : ∀ {vs : List V} {xs : List α} {i : Nat} {x : α} {v : V}, imL (G := G) H vs xs → Im.im G H v x → imL (G := G) H (vs.set i v) (xs.set i x)
  | [], [], _, _, _, _, _ => True.intro
  | v :: vs, x :: xs, 0, y, u, h, k => ⟨k, h.2⟩
  | v :: vs, x :: xs, i + 1, y, u, h, k => ⟨h.1, imL.set h.2 k⟩
  | [], _ :: _, _, _, _, h, _ => h.elim
  | _ :: _, [], _, _, _, h, _ => h.elim
theorem imL.take : ∀ {vs : List V} {xs : List α} (n : Nat), imL (G := G) H vs xs → imL (G := G) H (vs.take n) (xs.take n)
  | [], [], n, _ => by simp [imL]
  | v :: vs, x :: xs, 0, h => True.intro
  | v :: vs, x :: xs, n + 1, h => ⟨h.1, imL.take n h.2⟩
  | [], _ :: _, _, h => h.elim
  | _ :: _, [], _, h => h.elim
theorem imL.drop : ∀ {vs : List V} {xs : List α} (n : Nat), imL (G := G) H vs xs → imL (G := G) H (vs.drop n) (xs.drop n)
  | [], [], n, _ => by simp [imL]
  | v :: vs, x :: xs, 0, h => h
  | v :: vs, x :: xs, n + 1, h => imL.drop n h.2
  | [], _ :: _, _, h => h.elim
  | _ :: _, [], _, h => h.elim
end
section
variable {α : Type} [Fv G α] {H H' : Hp}
theorem imL.flat : ∀ {vs : List V} {xs : List α}, imL (G := G) H vs xs ↔ vs = xs.map (Fv.enc G)
  | [], [] => ⟨fun _ => rfl, fun _ => True.intro⟩
  | v :: vs, x :: xs => by
    show (Im.im G H v x ∧ imL (G := G) H vs xs) ↔ _
    rw [Fv.im_iff, imL.flat]
    simp
  | [], _ :: _ => by simp [imL]
  | _ :: _, [] => by simp [imL]
end
section
variable {α : Type} [Im G α]
def lstA (a : Addr) (xs : List α) : Asn G := ⟨fun H fp => fp = [a] ∧ ∃ vs, H a = some (.lst vs) ∧ imL (G := G) H vs xs,
  fun H H' fp ⟨e, vs, h, m⟩ k s => ⟨e, vs, by rw [k a (by rw [e]; simp)]; exact h, m.st s⟩⟩
/-- a value's fact -/
def imA (v : V) (x : α) : Asn G := fact (fun H => Im.im G H v x) fun H H' h s => Im.st h s
variable {H : Hp} {L : List (Asn G)}
theorem Sep.lst (h : Sep H L) {i : Nat} {a : Addr} {xs : List α} (e : L[i]? = some (lstA a xs)) : ∃ vs, H a = some (.lst vs) ∧ imL (G := G) H vs xs := by
  obtain ⟨fp, _, x⟩ := h.at e
  exact x
theorem Sep.im (h : Sep H L) {i : Nat} {v : V} {x : α} (e : L[i]? = some (imA v x)) : Im.im G H v x := h.getFact e
theorem Sep.addIm (h : Sep H L) {v : V} {x : α} (e : Im.im G H v x) : Sep H (imA v x :: L) := h.addFact e
/-- the list's own cell, and back -/
theorem Sep.openL (h : Sep H L) {i : Nat} {a : Addr} {xs : List α} (e : L[i]? = some (lstA a xs)) : ∃ vs, imL (G := G) H vs xs ∧ Sep H (L.set i (cell a (.lst vs))) := by
  obtain ⟨vs, e1, m⟩ := h.lst e
  exact ⟨vs, m, h.viewAt e fun fp ⟨q, _⟩ => ⟨q, e1⟩⟩
theorem Sep.closeL {i : Nat} {a : Addr} {vs : List V} {xs : List α} (h : Sep H L) (e : L[i]? = some (cell a (.lst vs))) (m : imL (G := G) H vs xs) : Sep H (L.set i (lstA a xs)) :=
  h.viewAt e fun fp ⟨q, r⟩ => ⟨q, vs, r, m⟩
theorem Sep.newL (h : Sep H L) {p : Addr} {vs : List V} {xs : List α} (hp : H p = none) (m : imL (G := G) H vs xs) : Sep (upd H p (.lst vs)) (lstA p xs :: L) :=
  (h.new (o := .lst vs) hp rfl).view fun fp ⟨q, r⟩ => ⟨q, vs, r, m.st (.of_same (same_new hp))⟩
theorem set_set {β : Type} {l : List β} {i : Nat} {x y : β} : (l.set i x).set i y = l.set i y := by simp
theorem get_set {β : Type} {l : List β} {i : Nat} {x y : β} (h : l[i]? = some x) : (l.set i y)[i]? = some y := by
  have : i < l.length := by
    have := List.getElem?_eq_some_iff.mp h
    exact this.1
  simp [this]
theorem Sep.putL (h : Sep H L) {i : Nat} {a : Addr} {xs ys : List α} {vs : List V} (e : L[i]? = some (lstA a xs)) (m : imL (G := G) H vs ys) : Sep (upd H a (.lst vs)) (L.set i (lstA a ys)) := by
  obtain ⟨us, mu, h1⟩ := h.openL e
  have e1 := get_set (y := cell (G := G) a (.lst us)) e
  have h2 := h1.put (o' := .lst vs) e1 rfl rfl
  rw [set_set] at h2
  have st : Stab G H (upd H a (.lst vs)) := stab_put (h1.getCell e1) rfl rfl
  have h3 := h2.closeL (get_set e) (m.st st)
  rw [set_set] at h3
  exact h3
end
end Ml
namespace Ml
open PySem L2
variable {G : Gx}
def Ev (te : TE) (σ : St) (H : Hp) (v : V) : Prop := ∀ Q : VK, Q v H → te σ H Q
def Et (t : TT) (σ : St) (H : Hp) (b : Bool) : Prop := ∀ Q : Bool → Hp → Prop, Q b H → t σ H Q
def Ea (t : TA) (σ : St) (H : Hp) (vs : List V) : Prop := ∀ Q : List V → Hp → Prop, Q vs H → t σ H Q
def Eo (t : TO) (σ : St) (H : Hp) (o : Option Int) : Prop := ∀ Q : Option Int → Hp → Prop, Q o H → t σ H Q
section
variable {σ : St} {H : Hp} {ta tb tc te : TE} {t u : TT} {x y v : V} {i j : Int} {a b : Bool} {s z : Str} {vs : List V}
theorem ev_var {k : Nat} (h : σ[k]? = some (some v)) : Ev (tVar k) σ H v := fun _ q => ⟨v, h, q⟩
theorem ev_c : Ev (tC v) σ H v := fun _ q => q
theorem ev_op {r : R2} (ha : Ev ta σ H x) (hb : Ev tb σ H y) (hr : ∀ Q : VK, Q v H → r x y H Q) : Ev (tOp r ta tb) σ H v := fun Q q => ha _ (hb _ (hr _ q))
theorem ev_un {r : V → Hp → VK → Prop} (ha : Ev ta σ H x) (hr : ∀ Q : VK, Q v H → r x H Q) : Ev (tUn r ta) σ H v := fun Q q => ha _ (hr _ q)
theorem r_I0 {g : Int → Int → V} (Q : VK) (q : Q (g i j) H) : rI0 g (.int i) (.int j) H Q := ⟨i, j, rfl, rfl, q⟩
theorem r_I {C : Int → Int → Prop} {g : Int → Int → V} (c : C i j) (Q : VK) (q : Q (g i j) H) : rI C g (.int i) (.int j) H Q := ⟨i, j, rfl, rfl, c, q⟩
theorem ev_i0 {g : Int → Int → V} (ha : Ev ta σ H (.int i)) (hb : Ev tb σ H (.int j)) : Ev (tOp (rI0 g) ta tb) σ H (g i j) := ev_op ha hb fun Q q => r_I0 Q q
theorem ev_i {C : Int → Int → Prop} {g : Int → Int → V} (ha : Ev ta σ H (.int i)) (hb : Ev tb σ H (.int j)) (c : C i j) : Ev (tOp (rI C g) ta tb) σ H (g i j) := ev_op ha hb fun Q q => r_I c Q q
theorem ev_mul (ha : Ev ta σ H (.int i)) (hb : Ev tb σ H (.int j)) (c : CMul i j) : Ev (tOp (rI CMul fun i j => .int (i * j)) ta tb) σ H (.int (i * j)) := ev_i ha hb c
theorem ev_fdiv (ha : Ev ta σ H (.int i)) (hb : Ev tb σ H (.int j)) (c : 0 < j ∧ j < 1073741824) : Ev (tOp (rI CDiv fun i j => .int (i / j)) ta tb) σ H (.int (i / j)) := ev_i ha hb c
theorem ev_mod (ha : Ev ta σ H (.int i)) (hb : Ev tb σ H (.int j)) (c : 0 < j) : Ev (tOp (rI (fun _ j => 0 < j) fun i j => .int (i % j)) ta tb) σ H (.int (i % j)) := ev_i ha hb c
theorem ev_add (ha : Ev ta σ H (.int i)) (hb : Ev tb σ H (.int j)) : Ev (tOp (rI0 fun i j => .int (i + j)) ta tb) σ H (.int (i + j)) := ev_i0 ha hb
theorem ev_sub (ha : Ev ta σ H (.int i)) (hb : Ev tb σ H (.int j)) : Ev (tOp (rI0 fun i j => .int (i - j)) ta tb) σ H (.int (i - j)) := ev_i0 ha hb
theorem r_eqI (Q : VK) (q : Q (.bl (decide (i = j))) H) : rEq (.int i) (.int j) H Q := ⟨rfl, by
  have : decide (V.int i = V.int j) = decide (i = j) := by simp
  rw [this]; exact q⟩
theorem r_neI (Q : VK) (q : Q (.bl (!decide (i = j))) H) : rNe (.int i) (.int j) H Q := ⟨rfl, by
  have : decide (V.int i = V.int j) = decide (i = j) := by simp
  rw [this]; exact q⟩
theorem r_neS (Q : VK) (q : Q (.bl (!decide (s = z))) H) : rNe (.str s) (.str z) H Q := ⟨rfl, by
  have : decide (V.str s = V.str z) = decide (s = z) := by simp
  rw [this]; exact q⟩
theorem ev_eqI (ha : Ev ta σ H (.int i)) (hb : Ev tb σ H (.int j)) : Ev (tOp rEq ta tb) σ H (.bl (decide (i = j))) := ev_op ha hb fun Q q => r_eqI Q q
theorem ev_neI (ha : Ev ta σ H (.int i)) (hb : Ev tb σ H (.int j)) : Ev (tOp rNe ta tb) σ H (.bl (!decide (i = j))) := ev_op ha hb fun Q q => r_neI Q q
theorem ev_neS (ha : Ev ta σ H (.str s)) (hb : Ev tb σ H (.str z)) : Ev (tOp rNe ta tb) σ H (.bl (!decide (s = z))) := ev_op ha hb fun Q q => r_neS Q q
def rCatS : R2 := fun x y H Q => ∃ i j, x = .str i ∧ y = .str j ∧ i.length + j.length ≤ sizeLine ∧ Q (.str (i ++ j)) H
theorem op_catS {X : Cx} : OpR X (binaryOp .Add) rCatS := op_add_str
theorem r_catS (c : s.length + z.length ≤ sizeLine) (Q : VK) (q : Q (.str (s ++ z)) H) : rCatS (.str s) (.str z) H Q := ⟨s, z, rfl, rfl, c, q⟩
theorem ev_catS (ha : Ev ta σ H (.str s)) (hb : Ev tb σ H (.str z)) (c : s.length + z.length ≤ sizeLine) : Ev (tOp rCatS ta tb) σ H (.str (s ++ z)) := ev_op ha hb fun Q q => r_catS c Q q
/-- a sign in a written text -/
def rInSg : R2 := fun x y H Q => ∃ (c : Nat) (z : Str), x = .str ⟨#[c]⟩ ∧ y = .str z ∧ Q (.bl (decide (c ∈ z.cps.toList))) H
theorem op_inSg {X : Cx} : OpR X (compareOp .In) rInSg := op_in_sign
theorem ev_inSg {c : Nat} (ha : Ev ta σ H (.str ⟨#[c]⟩)) (hb : Ev tb σ H (.str z)) : Ev (tOp rInSg ta tb) σ H (.bl (decide (c ∈ z.cps.toList))) := ev_op ha hb fun Q q => ⟨c, z, rfl, rfl, q⟩
theorem et_test (h : Ev te σ H (.bl b)) : Et (tTest te) σ H b := fun _ q => h _ ⟨b, rfl, q⟩
theorem et_B (h : Ev te σ H (.bl b)) : Et (tB te) σ H b := fun _ q => h _ ⟨b, rfl, q⟩
theorem et_not (h : Et t σ H a) : Et (tNot t) σ H (!a) := fun _ q => h _ q
theorem ev_orV (h1 : Ev ta σ H (.bl a)) (h2 : a = false → Ev tb σ H (.bl b)) : Ev (tOrV ta tb) σ H (.bl (a || b)) := fun Q q => h1 _ ⟨a, rfl, by
  cases a with
  | true => exact q
  | false => exact h2 rfl _ q⟩
theorem ev_notV (h1 : Ev ta σ H (.bl a)) : Ev (tNotV ta) σ H (.bl (!a)) := fun _ q => h1 _ ⟨a, rfl, q⟩
theorem ev_chainB {r r' : R2} (ha : Ev ta σ H x) (hb : Ev tb σ H y) (hc : a = true → Ev tc σ H v) (h1 : ∀ Q : VK, Q (.bl a) H → r x y H Q) (h2 : a = true → ∀ Q : VK, Q (.bl b) H → r' y v H Q) :
    Ev (tChain r r' ta tb tc) σ H (.bl (a && b)) := fun Q q => ha _ (hb _ (h1 _ ⟨a, rfl, by
  cases a with
  | true => exact hc rfl _ (h2 rfl _ q)
  | false => exact q⟩))
theorem ea_nil : Ea tNil σ H [] := fun _ q => q
theorem ea_cons {tr : TA} (h : Ev ta σ H x) (hr : Ea tr σ H vs) : Ea (tCons ta tr) σ H (x :: vs) := fun _ q => h _ (hr _ q)
theorem eo_no : Eo tNoPart σ H none := fun _ q => q
theorem eo_some (h : Ev te σ H (.int i)) : Eo (tPart te) σ H (some i) := fun _ q => h _ ⟨i, rfl, q⟩
theorem ev_cb {r : List V → Hp → VK → Prop} {tr : TA} (h : Ea tr σ H vs) (hr : ∀ Q : VK, Q v H → r vs H Q) : Ev (tCB r tr) σ H v := fun Q q => h _ (hr _ q)
variable {K : PySem.W.Frag} {α : Type}
theorem ev_ixSq {p : Addr} {ws : List V} (ha : Ev ta σ H (.ref p)) (hb : Ev tb σ H (.int i)) (hs : SqL K H p ws) (e : atI ws i = some v) : Ev (tOp (rIxL K) ta tb) σ H v := ev_op ha hb fun _ q => ⟨p, ws, i, v, rfl, rfl, hs, e, q⟩
theorem ev_ixS {c : Nat} (ha : Ev ta σ H (.str z)) (hb : Ev tb σ H (.int i)) (hl : z.length ≤ sizeLine) (e : atI z.cps.toList i = some c) : Ev (tOp rIxS ta tb) σ H (.str ⟨#[c]⟩) := ev_op ha hb fun _ q => ⟨z, i, c, rfl, rfl, hl, e, q⟩
theorem ev_slS {tl th : TO} {l h : Option Int} (ha : Ev ta σ H (.str z)) (h1 : Eo tl σ H l) (h2 : Eo th σ H h) (hl : z.length ≤ sizeLine) : Ev (tSl rSlS ta tl th) σ H (.str (cutS z l h)) := fun _ q => ha _ (h1 _ (h2 _ ⟨z, rfl, hl, q⟩))
def rLenSq (K : PySem.W.Frag) : List V → Hp → VK → Prop := fun xs H Q => ∃ p ys, xs = [.ref p] ∧ (SqL K H p ys ∨ SqT K H p ys) ∧ Q (.int ys.length) H
theorem call_lenSq {X : Cx} : CallR X (.builtin "len") (rLenSq X.K) := call_len_seq
def rLenS : List V → Hp → VK → Prop := fun xs H Q => ∃ z, xs = [.str z] ∧ z.length ≤ sizeLine ∧ Q (.int z.length) H
theorem call_lenS {X : Cx} : CallR X (.builtin "len") rLenS := call_len_str
theorem ev_lenL {p : Addr} {ws : List V} (ha : Ev ta σ H (.ref p)) (hs : SqL K H p ws) : Ev (tCB (rLenSq K) (tCons ta tNil)) σ H (.int ws.length) := ev_cb (ea_cons ha ea_nil) fun _ q => ⟨p, ws, rfl, .inl hs, q⟩
theorem ev_lenS (ha : Ev ta σ H (.str z)) (hl : z.length ≤ sizeLine) : Ev (tCB rLenS (tCons ta tNil)) σ H (.int z.length) := ev_cb (ea_cons ha ea_nil) fun _ q => ⟨z, rfl, hl, q⟩
end
section
variable {σ σ' : St} {H : Hp} {te : TE} {t : TT} {D : Ends} {t1 t2 tb : TS} {v : V} {b : Bool}
theorem ev_to (h : Ev te σ H v) {Q : VK} (q : Q v H) : te σ H Q := h Q q
theorem ea_to {t : TA} {vs : List V} (h : Ea t σ H vs) {Q : List V → Hp → Prop} (q : Q vs H) : t σ H Q := h Q q
theorem eo_to {t : TO} {o : Option Int} (h : Eo t σ H o) {Q : Option Int → Hp → Prop} (q : Q o H) : t σ H Q := h Q q
theorem et_to (h : Et t σ H b) {Q : Bool → Hp → Prop} (q : Q b H) : t σ H Q := h Q q
end
section
variable {α β τ ρ : Type} {H : Hp} {σ : St} {D : Ends} {tb : TS} {g : TG} {K : PySem.W.Frag}
/-- a walk J over the items xs: at turn i it yields a v of which the i-th item holds -/
structure Wk (J : It) (I : St → Hp → Prop) (im : Hp → V → α → Prop) (xs : List α) : Prop where
  go : ∀ i σ H, I σ H → i < xs.length → J.go i H
  yl : ∀ i σ H v H' x, I σ H → xs[i]? = some x → J.yld i H v H' → I σ H' ∧ im H' v x
  sp : ∀ σ H, I σ H → J.stop xs.length H
/-- for .. in ..: the state s : τ, I s its place in slots and heap; each turn reckons f -/
theorem for_walk {J : It} {I : τ → St → Hp → Prop} {im : Hp → V → α → Prop} {xs : List α} {f : τ → α → R τ} {k : τ → Prop} {e : Exc → Prop} {s : τ}
    (w : ∀ s, Wk J (I s) im xs) (h0 : I s σ H) (hm : R.wp (forR f xs s) k e)
    (turn : ∀ (s : τ) (x : α) (v : V) (σ : St) (H : Hp) (q : τ → Prop) (N : St → Hp → Prop), I s σ H → im H v x → R.wp (f s x) q e → (∀ s' σ' H', q s' → I s' σ' H' → N σ' H') → g v σ H fun σ2 H2 => tb { D with nx := N, ct := N, bk := D.nx } σ2 H2)
    (done : ∀ s σ H, k s → I s σ H → D.nx σ H) :
    ∃ W : Nat → Nat → St → Hp → Prop, (∃ m, W 0 m σ H) ∧ ∀ i m σ H, W i m σ H →
      (J.stop i H ∧ D.nx σ H) ∨ (J.go i H ∧ ∃ N : St → Hp → Prop, (∀ σ' H', N σ' H' → ∃ m', m' < m ∧ W (i + 1) m' σ' H') ∧ ∀ x H', J.yld i H x H' → g x σ H' fun σ2 H2 => tb { D with nx := N, ct := N, bk := D.nx } σ2 H2) := by
  refine ⟨fun i m σ H => m = xs.length - i ∧ i ≤ xs.length ∧ ∃ s, I s σ H ∧ R.wp (forR f (xs.drop i) s) k e, ⟨xs.length, by simp, Nat.zero_le _, s, h0, by simpa using hm⟩, ?_⟩
  rintro i m σ H ⟨rfl, hi, s, hI, hw⟩
  by_cases c : i < xs.length
  · have ed : xs.drop i = xs[i] :: xs.drop (i + 1) := List.drop_eq_getElem_cons c
    rw [ed] at hw
    refine .inr ⟨(w s).go i σ H hI c, fun σ' H' => ∃ s', I s' σ' H' ∧ R.wp (forR f (xs.drop (i + 1)) s') k e, fun σ' H' ⟨s', h1, h2⟩ => ⟨xs.length - (i + 1), by omega, rfl, c, s', h1, h2⟩, fun v H' y => ?_⟩
    obtain ⟨hI', hv⟩ := (w s).yl i σ H v H' xs[i] hI (List.getElem?_eq_getElem c) y
    exact turn s xs[i] v σ H' _ _ hI' hv (R.wp_bind hw) fun s' σ' H'' q hI'' => ⟨s', hI'', q⟩
  · have ei : i = xs.length := by omega
    subst ei
    rw [List.drop_length] at hw
    exact .inl ⟨(w s).sp σ H hI, done s σ H hw hI⟩
/-- .. whose turns may leave it -/
theorem for_walkF {J : It} {I : τ → St → Hp → Prop} {im : Hp → V → α → Prop} {xs : List α} {f : τ → α → R (Fl τ ρ)} {k : Fl τ ρ → Prop} {e : Exc → Prop} {s : τ}
    (w : ∀ s, Wk J (I s) im xs) (h0 : I s σ H) (hm : R.wp (forF f xs s) k e)
    (turn : ∀ (s : τ) (x : α) (v : V) (σ : St) (H : Hp) (q : Fl τ ρ → Prop) (N B : St → Hp → Prop), I s σ H → im H v x → R.wp (f s x) q e → (∀ s' σ' H', q (.go s') → I s' σ' H' → N σ' H') → (∀ s' σ' H', q (.brk s') → I s' σ' H' → B σ' H') → (∀ r, q (.out r) → k (.out r)) →
      g v σ H fun σ2 H2 => tb { D with nx := N, ct := N, bk := B } σ2 H2)
    (done : ∀ s σ H, k (.go s) → I s σ H → D.nx σ H) :
    ∃ W : Nat → Nat → St → Hp → Prop, (∃ m, W 0 m σ H) ∧ ∀ i m σ H, W i m σ H →
      (J.stop i H ∧ D.nx σ H) ∨ (J.go i H ∧ ∃ N : St → Hp → Prop, (∀ σ' H', N σ' H' → ∃ m', m' < m ∧ W (i + 1) m' σ' H') ∧ ∀ x H', J.yld i H x H' → g x σ H' fun σ2 H2 => tb { D with nx := N, ct := N, bk := D.nx } σ2 H2) := by
  refine ⟨fun i m σ H => m = xs.length - i ∧ i ≤ xs.length ∧ ∃ s, I s σ H ∧ R.wp (forF f (xs.drop i) s) k e, ⟨xs.length, by simp, Nat.zero_le _, s, h0, by simpa using hm⟩, ?_⟩
  rintro i m σ H ⟨rfl, hi, s, hI, hw⟩
  by_cases c : i < xs.length
  · have ed : xs.drop i = xs[i] :: xs.drop (i + 1) := List.drop_eq_getElem_cons c
    rw [ed] at hw
    refine .inr ⟨(w s).go i σ H hI c, fun σ' H' => ∃ s', I s' σ' H' ∧ R.wp (forF f (xs.drop (i + 1)) s') k e, fun σ' H' ⟨s', h1, h2⟩ => ⟨xs.length - (i + 1), by omega, rfl, c, s', h1, h2⟩, fun v H' y => ?_⟩
    obtain ⟨hI', hv⟩ := (w s).yl i σ H v H' xs[i] hI (List.getElem?_eq_getElem c) y
    have hw' := R.wp_bind hw
    exact turn s xs[i] v σ H' _ _ _ hI' hv hw' (fun s' σ' H'' q hI'' => ⟨s', hI'', q⟩) (fun s' σ' H'' q hI'' => done s' σ' H'' q hI'') fun r q => q
  · have ei : i = xs.length := by omega
    subst ei
    rw [List.drop_length] at hw
    exact .inl ⟨(w s).sp σ H hI, done s σ H hw hI⟩
/-- a comprehension -/
theorem lc_walk {J : It} {I : Addr → τ → List β → Hp → Prop} {im : Hp → V → α → Prop} [Im G β] {xs : List α} {f : τ → α → R (τ × Option β)} {k : τ × List β → Prop} {e : Exc → Prop} {s : τ} {tt : TT} {te : TE} {vs : List Nat} {Q : VK} {Dr : Addr}
    (w : ∀ s ys, Wk J (fun _ H => I Dr s ys H) im xs) (h0 : I Dr s [] (upd H Dr (.lst []))) (hm : R.wp (compR f xs s) k e) (hl : xs.length ≤ sizeLine)
    (turn : ∀ (s : τ) (ys : List β) (x : α) (v : V) (H : Hp) (q : τ × Option β → Prop) (Nx : Hp → Prop), I Dr s ys H → im H v x → R.wp (f s x) q e → ys.length < sizeLine →
      (∀ s' y u H', q (s', some y) → Im.im G H' u y → I Dr s' ys H' → ∃ acc, H' Dr = some (.lst acc) ∧ acc.length < sizeLine ∧ Nx (upd H' Dr (.lst (acc ++ [u])))) → (∀ s' H', q (s', none) → I Dr s' ys H' → Nx H') →
      g v (wipe σ vs) H fun σ2 H2 => wipe σ2 vs = wipe σ vs ∧ tt σ2 H2 fun b H3 => if b = true then te σ2 H3 fun y H4 => ∃ acc, H4 Dr = some (.lst acc) ∧ acc.length < sizeLine ∧ Nx (upd H4 Dr (.lst (acc ++ [y]))) else Nx H3)
    (app : ∀ s ys y u H, I Dr s ys H → Im.im G H u y → ∃ acc, H Dr = some (.lst acc) ∧ acc.length = ys.length ∧ I Dr s (ys ++ [y]) (upd H Dr (.lst (acc ++ [u]))))
    (done : ∀ s ys H, k (s, ys) → I Dr s ys H → Q (.ref Dr) H) :
    ∃ W : Nat → Nat → Hp → Prop, (∃ m, W 0 m (upd H Dr (.lst []))) ∧ ∀ i m H, W i m H →
      (J.stop i H ∧ Q (.ref Dr) H) ∨ (J.go i H ∧ ∃ Nx : Hp → Prop, (∀ H', Nx H' → ∃ m', m' < m ∧ W (i + 1) m' H') ∧ ∀ x H', J.yld i H x H' → g x (wipe σ vs) H' fun σ2 H2 => wipe σ2 vs = wipe σ vs ∧ tt σ2 H2 fun b H3 =>
        if b = true then te σ2 H3 fun y H4 => ∃ acc, H4 Dr = some (.lst acc) ∧ acc.length < sizeLine ∧ Nx (upd H4 Dr (.lst (acc ++ [y]))) else Nx H3) := by
  refine ⟨fun i m H => m = xs.length - i ∧ i ≤ xs.length ∧ ∃ s ys, ys.length ≤ i ∧ I Dr s ys H ∧ R.wp (compR f (xs.drop i) s) (fun t => k (t.1, ys ++ t.2)) e, ⟨xs.length, by simp, Nat.zero_le _, s, [], Nat.le_refl _, h0, by simpa using hm⟩, ?_⟩
  rintro i m H ⟨rfl, hi, s, ys, hy, hI, hw⟩
  by_cases c : i < xs.length
  · have ed : xs.drop i = xs[i] :: xs.drop (i + 1) := List.drop_eq_getElem_cons c
    rw [ed] at hw
    refine .inr ⟨(w s ys).go i [] H hI c, fun H' => ∃ s' ys', ys'.length ≤ i + 1 ∧ I Dr s' ys' H' ∧ R.wp (compR f (xs.drop (i + 1)) s') (fun t => k (t.1, ys' ++ t.2)) e,
      fun H' ⟨s', ys', h0, h1, h2⟩ => ⟨xs.length - (i + 1), by omega, rfl, c, s', ys', h0, h1, h2⟩, fun v H' y => ?_⟩
    obtain ⟨hI', hv⟩ := (w s ys).yl i [] H v H' xs[i] hI (List.getElem?_eq_getElem c) y
    have hw' := R.wp_bind hw
    refine turn s ys xs[i] v H' _ _ hI' hv hw' (by omega) (fun s' y u H'' q hu hI'' => ?_) (fun s' H'' q hI'' => ?_)
    · have q' := R.wp_bind q
      obtain ⟨acc, ea, la, hI3⟩ := app s' ys y u H'' hI'' hu
      refine ⟨acc, ea, by omega, s', ys ++ [y], by simp; omega, hI3, ?_⟩
      refine R.wp_mono q' (fun t ht => ?_) fun _ z => z
      have ht' : k (t.1, ys ++ y :: t.2) := ht
      rw [List.append_assoc]; exact ht'
    · have q' := R.wp_bind q
      exact ⟨s', ys, by omega, hI'', R.wp_mono q' (fun t ht => ht) fun _ z => z⟩
  · have ei : i = xs.length := by omega
    subst ei
    rw [List.drop_length] at hw
    have hw : k (s, ys ++ []) := hw
    rw [List.append_nil] at hw
    exact .inl ⟨(w s ys).sp [] H hI, done s ys H hw hI⟩
end
end Ml
namespace Ml
open PySem L2
variable {G : Gx}
def idxR {α : Type} (xs : List α) (i : Int) : R α := match atI xs i with
  | some x => .ok x
  | none => .bad
theorem wp_idx {α ρ : Type} {xs : List α} {i : Int} {f : α → R ρ} {q : ρ → Prop} {e : Exc → Prop} (h : R.wp ((idxR xs i).bind f) q e) : ∃ x, atI xs i = some x ∧ R.wp (f x) q e := by
  unfold idxR at h
  cases c : atI xs i with
  | some x => rw [c] at h; exact ⟨x, rfl, h⟩
  | none => rw [c] at h; exact h.elim
theorem atI_map {α β : Type} {xs : List α} {f : α → β} {i : Int} {x : α} (h : atI xs i = some x) : atI (xs.map f) i = some (f x) := by
  unfold atI at h ⊢
  rw [List.length_map]
  cases e : ixN xs.length i with
  | none => rw [e] at h; cases h
  | some j =>
    rw [e] at h
    show (xs.map f)[j]? = some (f x)
    have h : xs[j]? = some x := h
    rw [List.getElem?_map, h]; rfl
theorem atI_im {α : Type} [Im G α] {H : Hp} {vs : List V} {xs : List α} {i : Int} {x : α} (m : imL (G := G) H vs xs) (h : atI xs i = some x) : ∃ v, atI vs i = some v ∧ Im.im G H v x := by
  unfold atI at h ⊢
  rw [m.len]
  cases e : ixN xs.length i with
  | none => rw [e] at h; cases h
  | some j =>
    rw [e] at h
    exact m.get h
theorem atI_ok {α : Type} {xs : List α} {i : Int} (h0 : 0 ≤ i) (h1 : i < xs.length) : ∃ x, xs[i.toNat]? = some x ∧ atI xs i = some x := by
  have hj : i.toNat < xs.length := by omega
  refine ⟨xs[i.toNat], List.getElem?_eq_getElem hj, ?_⟩
  unfold atI ixN
  rw [if_pos h0, if_pos h1]
  exact List.getElem?_eq_getElem hj
theorem idxR_ok {α : Type} {xs : List α} {i : Int} {x : α} (h0 : 0 ≤ i) (h1 : xs[i.toNat]? = some x) : idxR xs i = .ok x := by
  have hl : i.toNat < xs.length := (List.getElem?_eq_some_iff.mp h1).1
  obtain ⟨y, hy, h⟩ := atI_ok (xs := xs) h0 (by omega)
  rw [h1] at hy; cases hy
  unfold idxR; rw [h]
/-- one sign as a text -/
abbrev sg (c : Nat) : Str := ⟨#[c]⟩
def rngL (lo : Int) (n : Nat) : List Int := (List.range n).map fun (i : Nat) => lo + (i : Int)
theorem rngL_len (lo : Int) (n : Nat) : (rngL lo n).length = n := by simp [rngL]
theorem rngL_get {lo : Int} {n i : Nat} {x : Int} (h : (rngL lo n)[i]? = some x) : x = lo + (i : Int) ∧ i < n := by
  have hl : i < (rngL lo n).length := (List.getElem?_eq_some_iff.mp h).1
  rw [rngL_len] at hl
  unfold rngL at h
  rw [List.getElem?_map, List.getElem?_range hl] at h
  exact ⟨(Option.some.inj h).symm, hl⟩
section
variable {α τ : Type} {I : St → Hp → Prop} {K : PySem.W.Frag} {a : Addr}
theorem wk_list [Im G α] {xs : List α} (h : ∀ σ H, I σ H → ∃ vs, SqL K H a vs ∧ imL (G := G) H vs xs) : Wk (Itl K a) I (Im.im G) xs where
  go := fun i σ H hI hi => by
    obtain ⟨vs, s, m⟩ := h σ H hI
    have hl : i < vs.length := by rw [m.len]; exact hi
    exact ⟨vs, vs[i], s, List.getElem?_eq_getElem hl⟩
  yl := fun i σ H v H' x hI hx y => by
    obtain ⟨vs, s, m⟩ := h σ H hI
    obtain ⟨rfl, y⟩ := y
    obtain ⟨u, hu, im⟩ := m.get hx
    have e := y vs s
    rw [hu] at e; cases e
    exact ⟨hI, im⟩
  sp := fun σ H hI => by
    obtain ⟨vs, s, m⟩ := h σ H hI
    exact ⟨vs, s, by rw [m.len]; exact Nat.le_refl _⟩
theorem wk_range {lo : Int} {n : Nat} : Wk (Itr lo n) I (fun _ v (x : Int) => v = .int x) (rngL lo n) where
  go := fun i σ H _ hi => by rw [rngL_len] at hi; exact hi
  yl := fun i σ H v H' x hI hx y => by
    obtain ⟨rfl, y⟩ := y
    obtain ⟨e, _⟩ := rngL_get hx
    exact ⟨hI, by rw [y, e]⟩
  sp := fun σ H _ => by rw [rngL_len]; exact Nat.le_refl _
theorem wk_str {z : Str} : Wk (Its z) I (fun _ v (c : Nat) => v = .str (sg c)) z.cps.toList where
  go := fun i σ H _ hi => by show i < z.cps.size; simpa using hi
  yl := fun i σ H v H' x hI hx y => by
    obtain ⟨rfl, c, hc, y⟩ := y
    have : z.cps[i]? = some x := by simpa using hx
    rw [hc] at this; cases this
    exact ⟨hI, y⟩
  sp := fun σ H _ => by show z.cps.size ≤ _; simp
end
theorem Sep.sq {α : Type} [Im G α] {H : Hp} {L : List (Asn G)} (h : Sep H L) {i : Nat} {a : Addr} {xs : List α} (e : L[i]? = some (lstA a xs)) : ∃ vs, SqL G.K H a vs ∧ imL (G := G) H vs xs := by
  obtain ⟨vs, e, m⟩ := h.lst e
  exact ⟨vs, .inl (.inl e), m⟩
theorem Sep.sqF {α : Type} [Fv G α] {H : Hp} {L : List (Asn G)} (h : Sep H L) {i : Nat} {a : Addr} {xs : List α} (e : L[i]? = some (lstA a xs)) : SqL G.K H a (xs.map (Fv.enc G)) := by
  obtain ⟨vs, e, m⟩ := h.sq e
  rw [imL.flat.mp m] at e
  exact e
section
variable {σ σ' : St} {H : Hp} {L L' : List (Asn G)} {D : Ends} {Q : VK} {te ta tb : TE} {α β : Type}
theorem c_op {r : R2} (h : ta σ H fun x H1 => tb σ H1 fun y H2 => r x y H2 Q) : tOp r ta tb σ H Q := h
theorem c_cons {tr : TA} {P : List V → Hp → Prop} (h : ta σ H fun x H1 => tr σ H1 fun xs H2 => P (x :: xs) H2) : tCons ta tr σ H P := h
theorem c_nil {P : List V → Hp → Prop} (h : P [] H) : tNil σ H P := h
theorem c_call {sp : Sp} {dvs : List V} {E : XK} {t : TA} (h : t σ H fun vs H1 => sp (vs ++ dvs) H1 Q E) : tCall sp dvs E t σ H Q := h
theorem c_cb {r : List V → Hp → VK → Prop} {t : TA} (h : t σ H fun vs H1 => r vs H1 Q) : tCB r t σ H Q := h
theorem c_asg {i : Nat} (h : te σ H fun v H1 => D.nx (σ.set i (some v)) H1) : tAsg te (gName i) D σ H := h
theorem c_ret (h : te σ H D.rt) : tRet te D σ H := h
theorem c_drop (h : te σ H fun _ H1 => D.nx σ H1) : tDrop te D σ H := h
theorem c_set {i : Nat} {v : V} (e : σ.set i (some v) = σ') (h : D.nx σ' H) : D.nx (σ.set i (some v)) H := by rw [e]; exact h
/-- a new list of written items -/
def lstK (Q : VK) : List V → Hp → Prop := fun xs H1 => xs.length ≤ sizeLine ∧ ∀ p, H1 p = none → Q (.ref p) (upd H1 p (.lst xs))
def tupK (Q : VK) : List V → Hp → Prop := fun xs H1 => xs.length ≤ sizeLine ∧ ∀ p, H1 p = none → Q (.ref p) (upd H1 p (.tup xs))
theorem k_lst [Im G α] {vs : List V} {xs : List α} (hS : Sep H L) (m : imL (G := G) H vs xs) (z : vs.length ≤ sizeLine) (k : ∀ p H', Sep H' (lstA p xs :: L) → Q (.ref p) H') :
    lstK Q vs H := ⟨z, fun p hp => k p _ (hS.newL hp m)⟩
theorem c_lst {t : TA} (h : t σ H (lstK Q)) : tLst t σ H Q := h
theorem c_tup {t : TA} (h : t σ H (tupK Q)) : tTup t σ H Q := h
theorem c_bm {K : PySem.W.Frag} {T : String} {r : V → List V → Hp → VK → Prop} {to : TE} {t : TA} (h : to σ H fun x H1 => tyV K T x H1 ∧ t σ H1 fun xs H2 => r x xs H2 Q) : tBM K T r to t σ H Q := h
theorem tyL [Im G α] {i : Nat} {a : Addr} {xs : List α} (hS : Sep H L) (e : L[i]? = some (lstA a xs)) : tyV G.K "list" (.ref a) H := by
  obtain ⟨vs, h, _⟩ := hS.sq e
  exact .inl ⟨rfl, vs, h⟩
theorem k_append [Im G α] {i : Nat} {a : Addr} {xs : List α} {x : α} {v : V} (hS : Sep H L) (e : L[i]? = some (lstA a xs)) (hv : Im.im G H v x) (z : xs.length < sizeLine) (e2 : L.set i (lstA a (xs ++ [x])) = L')
    (k : ∀ H', Sep H' L' → Q .non H') : rAppend (.ref a) [v] H Q := by
  obtain ⟨vs, h, m⟩ := hS.lst e
  refine ⟨a, vs, v, rfl, rfl, h, by rw [m.len]; exact z, k _ ?_⟩
  subst e2
  exact hS.putL e (m.app (vs := vs) (ws := [v]) ⟨hv, True.intro⟩)
/-- xs[i] = v -/
theorem k_setL [Im G α] {n : Nat} {a : Addr} {xs : List α} {x : α} {v : V} {i : Int} {P : Hp → Prop} (hS : Sep H L) (e : L[n]? = some (lstA a xs)) (hv : Im.im G H v x) (j : Nat) (hj : ixN xs.length i = some j) (e2 : L.set n (lstA a (xs.set j x)) = L')
    (k : ∀ H', Sep H' L' → P H') : rSetL (.ref a) (.int i) v H P := by
  obtain ⟨vs, h, m⟩ := hS.lst e
  refine ⟨a, vs, i, j, rfl, rfl, h, by rw [m.len]; exact hj, k _ ?_⟩
  subst e2
  exact hS.putL e (m.set hv)
def cutL (xs : List α) (lo hi : Option Int) : List α := (xs.drop (HT.sIx xs.length 0 lo)).take (HT.sIx xs.length xs.length hi - HT.sIx xs.length 0 lo)
theorem cutL_im [Im G α] {vs : List V} {xs : List α} {lo hi : Option Int} (m : imL (G := G) H vs xs) : imL (G := G) H (cutV vs lo hi) (cutL xs lo hi) := by
  unfold cutV cutL
  rw [m.len]
  exact (m.drop _).take _
theorem c_sl {r : V → Option Int → Option Int → Hp → VK → Prop} {tl th : TO} (h : te σ H fun x H1 => tl σ H1 fun l H2 => th σ H2 fun u H3 => r x l u H3 Q) : tSl r te tl th σ H Q := h
def rListSq (K : PySem.W.Frag) : List V → Hp → VK → Prop := fun xs H Q => ∃ p ys, xs = [.ref p] ∧ (SqL K H p ys ∨ SqT K H p ys) ∧ ∀ l, H l = none → Q (.ref l) (upd H l (.lst ys))
theorem call_listSq {X : Cx} : CallR X (.type "list") (rListSq X.K) := call_list_of
/-- sep.join(xs) -/
def rJoin (K : PySem.W.Frag) : V → List V → Hp → VK → Prop := fun x xs H Q => ∃ a p, ∃ ys : List Str, x = .str a ∧ xs = [.ref p] ∧ (SqL K H p (ys.map V.str) ∨ SqT K H p (ys.map V.str)) ∧ (ys.map (·.length)).sum + ys.length * a.length ≤ 16777216 ∧ Q (.str (Txt.join a ys)) H
theorem c_m1 {r : V → List V → Hp → VK → Prop} {to : TE} {a : Str} (h1 : Ev to σ H (.str a)) (h : te σ H fun y H2 => r (.str a) [y] H2 Q) : tM1 r to te σ H Q := h1 _ ⟨⟨a, rfl⟩, h⟩
end
end Ml
namespace Ml
open PySem L2
variable {G : Gx}
section
variable {κ β : Type} [DecidableEq κ]
def dget (kvs : List (κ × β)) (k : κ) : Option β := (kvs.find? fun kv => decide (kv.1 = k)).map (·.2)
def dput (kvs : List (κ × β)) (k : κ) (v : β) : List (κ × β) :=
  if (kvs.any fun kv => decide (kv.1 = k)) = true then kvs.map (fun kv => if kv.1 = k then (kv.1, v) else kv) else kvs ++ [(k, v)]
def ddrop (kvs : List (κ × β)) (k : κ) : List (κ × β) := kvs.filter fun kv => decide (kv.1 ≠ k)
def dhas (kvs : List (κ × β)) (k : κ) : Bool := (dget kvs k).isSome
end
class Kx (κ : Type) where
  key : κ → Key
  inj : ∀ {a b : κ}, key a = key b → a = b
instance : Kx Int := ⟨Sum.inl, fun h => Sum.inl.inj h⟩
instance : Kx Str := ⟨Sum.inr, fun h => Sum.inr.inj h⟩
section
variable {κ β : Type} [DecidableEq κ] [Kx κ] [Im G β]
def imD (H : Hp) : List (Key × V) → List (κ × β) → Prop
  | [], [] => True
  | p :: ps, q :: qs => (p.1 = Kx.key q.1 ∧ Im.im G H p.2 q.2) ∧ imD H ps qs
  | _, _ => False
variable {H H' : Hp}
theorem imD.st : ∀ {ps : List (Key × V)} {qs : List (κ × β)}, imD (G := G) H ps qs → Stab G H H' → imD (G := G) H' ps qs
  | [], [], _, _ => True.intro
  | p :: ps, q :: qs, h, s => ⟨⟨h.1.1, Im.st h.1.2 s⟩, imD.st h.2 s⟩
  | [], _ :: _, h, _ => h
  | _ :: _, [], h, _ => h
theorem imD.len : ∀ {ps : List (Key × V)} {qs : List (κ × β)}, imD (G := G) H ps qs → ps.length = qs.length
  | [], [], _ => rfl
  | p :: ps, q :: qs, h => by rw [List.length_cons, List.length_cons, imD.len h.2]
  | [], _ :: _, h => h.elim
  | _ :: _, [], h => h.elim
theorem key_dec (a b : κ) : decide (Kx.key a = Kx.key b) = decide (a = b) := by
  by_cases h : a = b
  · subst h; simp
  · have : ¬ Kx.key a = Kx.key b := fun e => h (Kx.inj e)
    simp [h, this]
theorem imD.val : ∀ {ps : List (Key × V)} {qs : List (κ × β)} (k : κ), imD (G := G) H ps qs → (∀ y, dget qs k = some y → ∃ v, valV ps (Kx.key k) = some v ∧ Im.im G H v y) ∧ (dget qs k = none → valV ps (Kx.key k) = none)
  | [], [], _, _ => ⟨fun y e => (by cases (show (none : Option β) = some y from e)), fun _ => rfl⟩
  | p :: ps, q :: qs, k, ⟨⟨e1, e2⟩, h⟩ => by
    have ih := imD.val k h
    by_cases c : q.1 = k
    · have c1 : p.1 = Kx.key k := by rw [e1, c]
      have d : dget (q :: qs) k = some q.2 := by simp [dget, List.find?_cons, c]
      rw [d, valV_pos c1]
      exact ⟨fun y e => ⟨p.2, rfl, by cases e; exact e2⟩, fun e => by cases e⟩
    · have c1 : ¬ p.1 = Kx.key k := fun z => c (Kx.inj (e1.symm.trans z))
      have d : dget (q :: qs) k = dget qs k := by simp [dget, List.find?_cons, c]
      rw [d, valV_neg c1]
      exact ih
  | [], _ :: _, _, h => h.elim
  | _ :: _, [], _, h => h.elim
theorem imD.any : ∀ {ps : List (Key × V)} {qs : List (κ × β)} (k : κ), imD (G := G) H ps qs → (ps.any fun kv => decide (kv.1 = Kx.key k)) = qs.any fun kv => decide (kv.1 = k)
  | [], [], _, _ => rfl
  | p :: ps, q :: qs, k, ⟨⟨e1, e2⟩, h⟩ => by
    rw [List.any_cons, List.any_cons, imD.any k h, e1, key_dec]
  | [], _ :: _, _, h => h.elim
  | _ :: _, [], _, h => h.elim
theorem imD.app : ∀ {ps rs : List (Key × V)} {qs ts : List (κ × β)}, imD (G := G) H ps qs → imD (G := G) H rs ts → imD (G := G) H (ps ++ rs) (qs ++ ts)
  | [], _, [], _, _, h => h
  | _ :: _, _, _ :: _, _, h, k => ⟨h.1, imD.app h.2 k⟩
  | [], _, _ :: _, _, h, _ => h.elim
  | _ :: _, _, [], _, h, _ => h.elim
theorem imD.rep : ∀ {ps : List (Key × V)} {qs : List (κ × β)} {k : κ} {v : V} {y : β}, imD (G := G) H ps qs → Im.im G H v y →
    imD (G := G) H (ps.map fun kv => if kv.1 = Kx.key k then (kv.1, v) else kv) (qs.map fun kv => if kv.1 = k then (kv.1, y) else kv)
  | [], [], _, _, _, _, _ => True.intro
  | p :: ps, q :: qs, k, v, y, ⟨⟨e1, e2⟩, h⟩, hv => by
    refine ⟨?_, imD.rep h hv⟩
    show (if p.1 = Kx.key k then (p.1, v) else p).1 = Kx.key (if q.1 = k then (q.1, y) else q).1 ∧ Im.im G H (if p.1 = Kx.key k then (p.1, v) else p).2 (if q.1 = k then (q.1, y) else q).2
    by_cases c : q.1 = k
    · have c1 : p.1 = Kx.key k := by rw [e1, c]
      rw [if_pos c, if_pos c1]; exact ⟨e1, hv⟩
    · have c1 : ¬ p.1 = Kx.key k := fun z => c (Kx.inj (e1.symm.trans z))
      rw [if_neg c, if_neg c1]; exact ⟨e1, e2⟩
  | [], _ :: _, _, _, _, h, _ => h.elim
  | _ :: _, [], _, _, _, h, _ => h.elim
theorem imD.put {ps : List (Key × V)} {qs : List (κ × β)} {k : κ} {v : V} {y : β} (h : imD (G := G) H ps qs) (hv : Im.im G H v y) : imD (G := G) H (putK ps (Kx.key k) v) (dput qs k y) := by
  unfold putK dput
  rw [h.any k]
  split
  · exact h.rep hv
  · exact h.app (rs := [(Kx.key k, v)]) (ts := [(k, y)]) ⟨⟨rfl, hv⟩, True.intro⟩
theorem imD.drop : ∀ {ps : List (Key × V)} {qs : List (κ × β)} (k : κ), imD (G := G) H ps qs → imD (G := G) H (dropK ps (Kx.key k)) (ddrop qs k)
  | [], [], _, _ => True.intro
  | p :: ps, q :: qs, k, ⟨⟨e1, e2⟩, h⟩ => by
    have ih := imD.drop k h
    unfold dropK ddrop at ih ⊢
    rw [List.filter_cons, List.filter_cons]
    by_cases c : q.1 = k
    · have c1 : p.1 = Kx.key k := by rw [e1, c]
      simp only [c, c1, ne_eq, not_true_eq_false, decide_false, Bool.false_eq_true, if_false]
      exact ih
    · have c1 : ¬ p.1 = Kx.key k := fun z => c (Kx.inj (e1.symm.trans z))
      simp only [c, c1, ne_eq, not_false_eq_true, decide_true, if_true]
      exact ⟨⟨e1, e2⟩, ih⟩
  | [], _ :: _, _, h => h.elim
  | _ :: _, [], _, h => h.elim
def dictA (a : Addr) (kvs : List (κ × β)) : Asn G := ⟨fun H fp => fp = [a] ∧ ∃ ps, H a = some (.dK ps) ∧ imD (G := G) H ps kvs,
  fun H H' fp ⟨e, ps, h, m⟩ k s => ⟨e, ps, by rw [k a (by rw [e]; simp)]; exact h, m.st s⟩⟩
variable {L L' : List (Asn G)}
theorem Sep.dict (h : Sep H L) {i : Nat} {a : Addr} {kvs : List (κ × β)} (e : L[i]? = some (dictA a kvs)) : ∃ ps, H a = some (.dK ps) ∧ imD (G := G) H ps kvs := by
  obtain ⟨fp, _, x⟩ := h.at e
  exact x
theorem Sep.newD (h : Sep H L) {p : Addr} (hp : H p = none) : Sep (upd H p (.dK [])) (dictA p ([] : List (κ × β)) :: L) :=
  (h.new (o := .dK []) hp rfl).view fun fp ⟨q, r⟩ => ⟨q, [], r, True.intro⟩
theorem Sep.putD (h : Sep H L) {i : Nat} {a : Addr} {xs ys : List (κ × β)} {ps : List (Key × V)} (e : L[i]? = some (dictA a xs)) (m : imD (G := G) H ps ys) : Sep (upd H a (.dK ps)) (L.set i (dictA a ys)) := by
  obtain ⟨us, e0, mu⟩ := h.dict e
  have h1 : Sep H (L.set i (cell a (.dK us))) := h.viewAt e fun fp ⟨q, _⟩ => ⟨q, e0⟩
  have e1 := get_set (y := cell (G := G) a (.dK us)) e
  have h2 := h1.put (o' := .dK ps) e1 rfl rfl
  rw [set_set] at h2
  have st : Stab G H (upd H a (.dK ps)) := stab_put (h1.getCell e1) rfl rfl
  have h3 := h2.viewAt (B := dictA a ys) (get_set e) fun fp ⟨q, r⟩ => ⟨q, ps, r, m.st st⟩
  rw [set_set] at h3
  exact h3
variable {σ : St} {Q : VK} {td ty tx : TE} {k : κ} {a : Addr} {xs : List (κ × β)} {i : Nat}
theorem k_dnew (hS : Sep H L) (q : ∀ p H', Sep H' (dictA p ([] : List (κ × β)) :: L) → Q (.ref p) H') : tDNewK σ H Q := fun p hp => q p _ (hS.newD hp)
end
class Lay (α : Type) where
  lay : α → Bool
instance : Lay Int := ⟨fun _ => true⟩
instance : Lay Bool := ⟨fun _ => true⟩
instance : Lay Str := ⟨fun x => PyData.strOk x⟩
def layAllB {α : Type} [Lay α] (xs : List α) : Bool := xs.all Lay.lay
class Pd (G : Gx) (α : Type) [Im G α] [DecidableEq α] [Lay α] where
  pd : α → PyData
  dep : Nat
  dp : ∀ {H : Hp} {v : V} {x : α}, Im.im G H v x → Dp G.K H v (pd x)
  lay_ok : ∀ x, Lay.lay x = true → (pd x).canLay0 = true
  dep_ok : ∀ x, (pd x).depth ≤ dep
  eqv : ∀ x y, PyData.eqv (pd x) (pd y) = decide (x = y)
instance pInt : Pd G Int where
  pd := .int
  dep := 0
  dp := fun {H v x} h => by
    have h : v = .int x := h
    subst h; exact .int x
  lay_ok := fun _ _ => rfl
  dep_ok := fun _ => Nat.le_refl _
  eqv := fun x y => by
    show (x == y) = decide (x = y)
    rfl
instance pBool : Pd G Bool where
  pd := .bool
  dep := 0
  dp := fun {H v x} h => by
    have h : v = .bl x := h
    subst h; exact .bl x
  lay_ok := fun _ _ => rfl
  dep_ok := fun _ => Nat.le_refl _
  eqv := fun x y => by cases x <;> cases y <;> rfl
theorem str_beq (x y : Str) : (x == y) = decide (x = y) := by
  by_cases h : x = y
  · subst h; simp
  · simp [h]
instance pStr : Pd G Str where
  pd := .str
  dep := 0
  dp := fun {H v x} h => by
    have h : v = .str x := h
    subst h; exact .str x
  lay_ok := fun _ h => h
  dep_ok := fun _ => Nat.le_refl _
  eqv := fun x y => str_beq x y
section
variable {α : Type} [Im G α] [DecidableEq α] [Lay α] [Pd G α] {H : Hp} {L : List (Asn G)}
theorem dpAll : ∀ {vs : List V} {xs : List α}, imL (G := G) H vs xs → DpAll G.K H vs (xs.map (Pd.pd G))
  | [], [], _ => .nil
  | v :: vs, x :: xs, h => .cons (Pd.dp h.1) (dpAll h.2)
  | [], _ :: _, h => h.elim
  | _ :: _, [], h => h.elim
theorem layAll : ∀ {xs : List α}, layAllB xs = true → PyData.canLayAll0 (xs.map (Pd.pd G)) = true
  | [], _ => rfl
  | x :: xs, h => by
    unfold layAllB at h
    rw [List.all_cons, Bool.and_eq_true] at h
    show ((Pd.pd G x).canLay0 && PyData.canLayAll0 (xs.map (Pd.pd G))) = true
    rw [Pd.lay_ok x h.1, layAll h.2]; rfl
theorem depAll : ∀ (xs : List α), PyData.depthAll (xs.map (Pd.pd G)) ≤ Pd.dep G α
  | [] => Nat.zero_le _
  | x :: xs => by
    show max (Pd.pd G x).depth (PyData.depthAll (xs.map (Pd.pd G))) ≤ _
    exact Nat.max_le.mpr ⟨Pd.dep_ok x, depAll xs⟩
theorem eqvAll_is : ∀ (xs ys : List α), PyData.eqvAll (xs.map (Pd.pd G)) (ys.map (Pd.pd G)) = decide (xs = ys)
  | [], [] => rfl
  | x :: xs, y :: ys => by
    show (PyData.eqv (Pd.pd G x) (Pd.pd G y) && PyData.eqvAll (xs.map (Pd.pd G)) (ys.map (Pd.pd G))) = _
    rw [Pd.eqv, eqvAll_is xs ys]
    simp
  | [], _ :: _ => rfl
  | _ :: _, [] => rfl
variable {a b : Addr} {xs ys : List α} {i j : Nat} {σ : St} {ta tb : TE}
end
section
variable {H : Hp} {L : List (Asn G)} {σ : St} {ta tb : TE} {a : Addr} {i : Nat}
theorem ev_isi {x : V} {T U : String} {b : Bool} (ha : Ev ta σ H x) (hb : Ev tb σ H (.ty U)) (t : TyX G.K H x (.type T)) (e : kitB T U = some b) : Ev (tCB (rIsi G.K) (tCons ta (tCons tb tNil))) σ H (.bl b) :=
  ev_cb (ea_cons ha (ea_cons hb ea_nil)) fun Q q => ⟨x, .ty U, _, _, b, rfl, .ty U, t, kit_ty e, q⟩
theorem ty_lst {α : Type} [Im G α] {xs : List α} (hS : Sep H L) (e : L[i]? = some (lstA a xs)) : TyX G.K H (.ref a) (.type "list") := by
  obtain ⟨vs, h, _⟩ := hS.lst e
  exact .base (.lst h)
end
end Ml
namespace Ml
open PySem L2
variable {G : Gx}
section
variable {σ σ' : St} {H : Hp} {L L' M : List (Asn G)} {D : Ends} {Q : VK} {te : TE} {tt : TT} {tb : TS} {α β τ ρ : Type} {i : Nat} {v : V} {vs : List Nat}
theorem c_gN {P : St → Hp → Prop} (e : σ.set i (some v) = σ') (h : P σ' H) : gName i v σ H P := by
  show P (σ.set i (some v)) H
  rw [e]; exact h
theorem c_gLc {P : Bool → Hp → Prop} (e : (wipe σ vs).set i (some v) = σ') (hw : wipe σ' vs = wipe σ vs) (h : tt σ' H P) : gName i v (wipe σ vs) H fun σ2 H2 => wipe σ2 vs = wipe σ vs ∧ tt σ2 H2 P := by
  show wipe ((wipe σ vs).set i (some v)) vs = wipe σ vs ∧ tt ((wipe σ vs).set i (some v)) H P
  rw [e]; exact ⟨hw, h⟩
theorem c_yes {A B : Hp → Prop} (h : A H) : tYes σ H fun b H3 => if b = true then A H3 else B H3 := h
theorem lc_app [Im G β] {Dr : Addr} {ys : List β} {y : β} {u : V} (hS : Sep H (lstA Dr ys :: M)) (hu : Im.im G H u y) : ∃ acc, H Dr = some (.lst acc) ∧ acc.length = ys.length ∧ Sep (upd H Dr (.lst (acc ++ [u]))) (lstA Dr (ys ++ [y]) :: M) := by
  obtain ⟨acc, h, m⟩ := hS.lst (i := 0) rfl
  exact ⟨acc, h, m.len, hS.putL (i := 0) rfl (m.app (vs := acc) (ws := [u]) ⟨hu, True.intro⟩)⟩
theorem st_nx (h : D.nx σ H) : tNext D σ H := h
def sq (t : TS) (D : Ends) : Ends := { D with nx := t D }
theorem f_seq {t1 t2 : TS} (h : t1 (sq t2 D) σ H) : tSeq t1 t2 D σ H := h
theorem sq_nx {t2 : TS} (h : t2 D σ H) : (sq t2 D).nx σ H := h
def forK (g : TG) (tb : TS) (D : Ends) (σ : L2.St) : It → Hp → Prop := fun J H1 => ∃ W : Nat → Nat → L2.St → Hp → Prop, (∃ m, W 0 m σ H1) ∧ ∀ i m σ H, W i m σ H →
  (J.stop i H ∧ D.nx σ H) ∨ (J.go i H ∧ ∃ N : L2.St → Hp → Prop, (∀ σ' H', N σ' H' → ∃ m', m' < m ∧ W (i + 1) m' σ' H') ∧ ∀ x H', J.yld i H x H' → g x σ H' fun σ2 H2 => tb { D with nx := N, ct := N, bk := D.nx } σ2 H2)
def loopD (D : Ends) (N B : L2.St → Hp → Prop) : Ends := { D with nx := N, ct := N, bk := B }
theorem c_for {wi : TI} {g : TG} (h : wi σ H (forK g tb D σ)) : tFor wi g tb D σ H := h
def lcK (g : TG) (tt : TT) (te : TE) (vs : List Nat) (σ : L2.St) (Q : VK) : It → Hp → Prop := fun J H1 => ∀ D, H1 D = none → ∃ W : Nat → Nat → Hp → Prop, (∃ m, W 0 m (upd H1 D (.lst []))) ∧ ∀ i m H, W i m H →
  (J.stop i H ∧ Q (.ref D) H) ∨ (J.go i H ∧ ∃ Nx : Hp → Prop, (∀ H', Nx H' → ∃ m', m' < m ∧ W (i + 1) m' H') ∧ ∀ x H', J.yld i H x H' → g x (wipe σ vs) H' fun σ2 H2 => wipe σ2 vs = wipe σ vs ∧ tt σ2 H2 fun b H3 =>
    if b = true then te σ2 H3 fun y H4 => ∃ acc, H4 D = some (.lst acc) ∧ acc.length < sizeLine ∧ Nx (upd H4 D (.lst (acc ++ [y]))) else Nx H3)
theorem c_lc {wi : TI} {g : TG} (h : wi σ H (lcK g tt te vs σ Q)) : tLc wi g tt te vs σ H Q := h
def rng1K (R : It → Hp → Prop) : List V → Hp → Prop := fun vs H1 => ∃ j : Int, vs = [.int j] ∧ -(2 ^ 62) ≤ j ∧ j < 2 ^ 62 ∧ R (Itr 0 j.toNat) H1
def ilK (K : PySem.W.Frag) (R : It → Hp → Prop) : VK := fun x H1 => ∃ a, x = .ref a ∧ (∃ xs, SqL K H1 a xs) ∧ R (Itl K a) H1
def isK (R : It → Hp → Prop) : VK := fun v H1 => ∃ x, v = .str x ∧ R (Its x) H1
theorem c_rng1 {ta : TA} {R : It → Hp → Prop} (h : ta σ H (rng1K R)) : iRng1 ta σ H R := h
theorem c_il {K : PySem.W.Frag} {R : It → Hp → Prop} (h : te σ H (ilK K R)) : iList K te σ H R := h
theorem c_is {R : It → Hp → Prop} (h : te σ H (isK R)) : iStr te σ H R := h
theorem k_rng1 {R : It → Hp → Prop} {j : Int} (h1 : -(2 ^ 62) ≤ j) (h2 : j < 2 ^ 62) (h : R (Itr 0 j.toNat) H) : rng1K R [.int j] H := ⟨j, rfl, h1, h2, h⟩
theorem k_il [Im G α] {a : Addr} {xs : List α} {R : It → Hp → Prop} (hS : Sep H L) (e : L[i]? = some (lstA a xs)) (h : R (Itl G.K a) H) : ilK G.K R (.ref a) H := by
  obtain ⟨vs, s, _⟩ := hS.sq e
  exact ⟨a, rfl, ⟨vs, s⟩, h⟩
theorem k_is {z : Str} {R : It → Hp → Prop} (h : R (Its z) H) : isK R (.str z) H := ⟨z, rfl, h⟩
/-- for .. in .. -/
theorem k_for {J : It} {g : TG} {im : Hp → V → α → Prop} {xs : List α} {f : τ → α → R τ} {rest : τ → R ρ} {q : ρ → Prop} {e : Exc → Prop} {s : τ} (I : τ → L2.St → Hp → Prop)
    (w : ∀ s, Wk J (I s) im xs) (h0 : I s σ H) (hm : R.wp ((forR f xs s).bind rest) q e)
    (turn : ∀ (s : τ) (x : α) (v : V) (σ : L2.St) (H : Hp) (q : τ → Prop) (N : L2.St → Hp → Prop), I s σ H → im H v x → R.wp (f s x) q e → (∀ s' σ' H', q s' → I s' σ' H' → N σ' H') → g v σ H fun σ2 H2 => tb (loopD D N D.nx) σ2 H2)
    (done : ∀ s σ H, R.wp (rest s) q e → I s σ H → D.nx σ H) : forK g tb D σ J H :=
  for_walk (I := I) w h0 (R.wp_bind hm) turn done
/-- a comprehension over owned things -/
theorem lc_sep [Im G β] {J : It} {im : Hp → V → α → Prop} {xs : List α} {f : τ → α → R (τ × Option β)} {rest : τ × List β → R ρ} {q : ρ → Prop} {e : Exc → Prop} {s : τ} (M : τ → List (Asn G))
    (hS : Sep H (M s)) (w : ∀ (Dr : Addr) (s : τ) (ys : List β), Wk J (fun (_ : St) H => Sep H (lstA Dr ys :: M s)) im xs) (hl : xs.length ≤ sizeLine) (hm : R.wp ((compR f xs s).bind rest) q e)
    (turn : ∀ (Dr : Addr) (s : τ) (ys : List β) (x : α) (v : V) (H : Hp) (q : τ × Option β → Prop) (Nx : Hp → Prop), Sep H (lstA Dr ys :: M s) → im H v x → R.wp (f s x) q e →
      (∀ s' y u H', q (s', some y) → Im.im G H' u y → Sep H' (lstA Dr ys :: M s') → ∃ acc, H' Dr = some (.lst acc) ∧ acc.length < sizeLine ∧ Nx (upd H' Dr (.lst (acc ++ [u])))) → (∀ s' H', q (s', none) → Sep H' (lstA Dr ys :: M s') → Nx H') →
      gName i v (wipe σ vs) H fun σ2 H2 => wipe σ2 vs = wipe σ vs ∧ tt σ2 H2 fun b H3 => if b = true then te σ2 H3 fun y H4 => ∃ acc, H4 Dr = some (.lst acc) ∧ acc.length < sizeLine ∧ Nx (upd H4 Dr (.lst (acc ++ [y]))) else Nx H3)
    (done : ∀ (Dr : Addr) (t : τ × List β) H, R.wp (rest t) q e → Sep H (lstA Dr t.2 :: M t.1) → Q (.ref Dr) H) :
    lcK (gName i) tt te vs σ Q J H := fun Dr hD =>
  lc_walk (G := G) (I := fun Dr s ys H => Sep H (lstA Dr ys :: M s)) (im := im) (xs := xs) (f := f) (k := fun t => R.wp (rest t) q e) (e := e) (s := s) (w Dr)
    (hS.newL (vs := []) (xs := ([] : List β)) hD True.intro) (R.wp_bind hm) hl
    (fun s ys x v H q Nx hI hv hw _ k1 k2 => turn Dr s ys x v H q Nx hI hv hw k1 k2)
    (fun s ys y u H hI hu => lc_app hI hu)
    (fun s ys H hk hI => done Dr (s, ys) H hk hI)
theorem c_asgS {to ti : TE} {t : TSet} (h : te σ H fun v H1 => to σ H1 fun o H2 => ti σ H2 fun j H3 => t o j v H3 fun H4 => D.nx σ H4) : tAsg te (gSub to ti t) D σ H := h
theorem mt_joinS {X : Cx} : MtR X "str.join" (rJoin X.K) := mt_join
theorem m2 {X : Cx} {o : Expr} {m : Str} {apos : Pos} {e f : Expr} {cpos : Pos} (base : attributeBase o m X.env (eval o X.env) = eval o X.env := by rfl)
  (few : ((backTo cpos (starEach [e, f] X.env)).all (fun x => !x.1) && (backToKw cpos (keywordEach [] X.env)).all (fun x => x.1.isSome)
    && decide (([e, f] : List Expr).length + ([] : List Keyword).length + (if ([] : List Keyword).isEmpty then 0 else 1) < 30)) = true := by rfl)
  (line : (apos.endLine == cpos.line) = true := by rfl) (trees : backTo cpos (starEach [e, f] X.env) = [(false, eval e X.env), (false, eval f X.env)] := by rfl) : M2 X o m apos e f cpos := ⟨base, few, line, trees⟩
def ixR {α : Type} (xs : List α) (i : Int) : R Nat := match ixN xs.length i with
  | some j => .ok j
  | none => .bad
theorem wp_ix {xs : List α} {i : Int} {f : Nat → R ρ} {q : ρ → Prop} {e : Exc → Prop} (h : R.wp ((ixR xs i).bind f) q e) : ∃ j, ixN xs.length i = some j ∧ R.wp (f j) q e := by
  unfold ixR at h
  cases c : ixN xs.length i with
  | some x => rw [c] at h; exact ⟨x, rfl, h⟩
  | none => rw [c] at h; exact h.elim
theorem r_ixSq {K : PySem.W.Frag} {p : Addr} {ws : List V} {i : Int} (hs : SqL K H p ws) (e : atI ws i = some v) (Q : VK) (q : Q v H) : rIxL K (.ref p) (.int i) H Q := ⟨p, ws, i, v, rfl, rfl, hs, e, q⟩
theorem ev_lenLm {K : PySem.W.Frag} {ta : TE} {p : Addr} {xs : List α} {f : α → V} (ha : Ev ta σ H (.ref p)) (hs : SqL K H p (xs.map f)) : Ev (tCB (rLenSq K) (tCons ta tNil)) σ H (.int xs.length) := by
  have := ev_lenL ha hs
  rw [List.length_map] at this
  exact this
end
end Ml
namespace Ml
open PySem L2
variable {G : Gx}
def andK (u : TT) (σ : St) (P : Bool → Hp → Prop) : Bool → Hp → Prop := fun c H => if c = true then u σ H P else P false H
def orK (u : TT) (σ : St) (P : Bool → Hp → Prop) : Bool → Hp → Prop := fun c H => if c = true then P true H else u σ H P
def notK (P : Bool → Hp → Prop) : Bool → Hp → Prop := fun c H => P (!c) H
def ifK (t1 t2 : TS) (D : Ends) (σ : St) : Bool → Hp → Prop := fun c H => if c = true then t1 D σ H else t2 D σ H
/-- a value that is a Bool -/
def blK (P : Bool → Hp → Prop) : VK := fun x H => ∃ k, x = .bl k ∧ P k H
def andVK (tb : TE) (σ : St) (Q : VK) : VK := fun x H => ∃ c, x = .bl c ∧ if c = true then tb σ H Q else Q (.bl false) H
section
variable {σ : St} {H : Hp} {L : List (Asn G)} {D : Ends} {Q : VK} {P : Bool → Hp → Prop} {t u : TT} {t1 t2 : TS} {ta tb te : TE} {ρ τ : Type} {a b : Bool} {v w : V}
theorem f_and (h : t σ H (andK u σ P)) : tAnd t u σ H P := h
theorem f_or (h : t σ H (orK u σ P)) : tOr t u σ H P := h
theorem f_not (h : t σ H (notK P)) : tNot t σ H P := h
theorem f_if (h : t σ H (ifK t1 t2 D σ)) : tIfS t t1 t2 D σ H := h
theorem f_test (h : te σ H (blK P)) : tTest te σ H P := h
theorem f_B (h : te σ H (blK P)) : tB te σ H P := h
theorem f_bl (h : P b H) : blK P (.bl b) H := ⟨b, rfl, h⟩
theorem f_andV (h : ta σ H (andVK tb σ Q)) : tAndV ta tb σ H Q := h
theorem f_nK (h : P (!b) H) : notK P b H := h
theorem andVK_t (h : tb σ H Q) : andVK tb σ Q (.bl true) H := ⟨true, rfl, h⟩
variable {A B : R Bool} {rest : Bool → R ρ} {q : ρ → Prop} {e : Exc → Prop}
theorem andK_J (hm : R.wp ((if a = true then A else .ok false).bind rest) q e) (hS : Sep H L)
    (h1 : a = true → ∀ q' : Bool → Prop, R.wp A q' e → (∀ b H', q' b → Sep H' L → P b H') → u σ H P) (k : ∀ b H', R.wp (rest b) q e → Sep H' L → P b H') : andK u σ P a H := by
  have hm' := R.wp_bind hm
  cases a with
  | true => exact h1 rfl _ hm' k
  | false => exact k false H hm' hS
theorem orK_J (hm : R.wp ((if a = true then .ok true else A).bind rest) q e) (hS : Sep H L)
    (h1 : a = false → ∀ q' : Bool → Prop, R.wp A q' e → (∀ b H', q' b → Sep H' L → P b H') → u σ H P) (k : ∀ b H', R.wp (rest b) q e → Sep H' L → P b H') : orK u σ P a H := by
  have hm' := R.wp_bind hm
  cases a with
  | true => exact k true H hm' hS
  | false => exact h1 rfl _ hm' k
theorem andVK_J (hm : R.wp ((if a = true then A else .ok false).bind rest) q e) (hS : Sep H L)
    (h1 : a = true → ∀ q' : Bool → Prop, R.wp A q' e → (∀ b H', q' b → Sep H' L → Q (.bl b) H') → tb σ H Q) (k : ∀ b H', R.wp (rest b) q e → Sep H' L → Q (.bl b) H') : andVK tb σ Q (.bl a) H := by
  have hm' := R.wp_bind hm
  refine ⟨a, rfl, ?_⟩
  cases a with
  | true => exact h1 rfl _ hm' k
  | false => exact k false H hm' hS
theorem ifK_2 (h1 : a = true → t1 D σ H) (h2 : a = false → t2 D σ H) : ifK t1 t2 D σ a H := by
  cases a with
  | true => exact h1 rfl
  | false => exact h2 rfl
theorem ifK_J {A B : R τ} {rest : τ → R ρ} (J : τ → St → Hp → Prop) (hm : R.wp ((if a = true then A else B).bind rest) q e)
    (h1 : a = true → ∀ q' : τ → Prop, R.wp A q' e → (∀ s σ' H', q' s → J s σ' H' → D.nx σ' H') → t1 D σ H)
    (h2 : a = false → ∀ q' : τ → Prop, R.wp B q' e → (∀ s σ' H', q' s → J s σ' H' → D.nx σ' H') → t2 D σ H)
    (k : ∀ s σ' H', R.wp (rest s) q e → J s σ' H' → D.nx σ' H') : ifK t1 t2 D σ a H := by
  have hm' := R.wp_bind hm
  cases a with
  | true => exact h1 rfl _ hm' k
  | false => exact h2 rfl _ hm' k
theorem wp_let {α : Type} {x : α} {f : α → R ρ} (hm : R.wp ((R.ok x).bind f) q e) : ∃ y, x = y ∧ R.wp (f y) q e := ⟨x, rfl, hm⟩
theorem ev_is (h : Ev te σ H v) (e : v = w) : Ev te σ H w := by rw [← e]; exact h
theorem n_is {i : Nat} (e : v = w) (h : D.nx (σ.set i (some w)) H) : D.nx (σ.set i (some v)) H := by rw [e]; exact h
/-- [elt ..] with a test: the two ways -/
theorem lc_if {A B : Prop} (h1 : a = true → A) (h2 : a = false → B) : if a = true then A else B := by
  cases a with
  | true => exact h1 rfl
  | false => exact h2 rfl
end
end Ml
namespace Ml
open PySem L2
section
variable {X : Cx} (K : PySem.W.Frag) (hK : X.K = K := by rfl)
include hK
theorem ix_listK : IxR X (rIxL K) := by subst hK; exact ix_list
theorem ix_tupK : IxR X (rIxT K) := by subst hK; exact ix_tup
theorem sl_listK : SlR X (rSlL K) := by subst hK; exact sl_list
theorem lenSqK : CallR X (.builtin "len") (rLenSq K) := by subst hK; exact call_lenSq
theorem listSqK : CallR X (.type "list") (rListSq K) := by subst hK; exact call_listSq
theorem isiK : CallR X (.builtin "isinstance") (rIsi K) := by subst hK; exact call_isi
theorem joinK : MtR X "str.join" (rJoin K) := by subst hK; exact mt_joinS
end
theorem eqDK {X : Cx} (K : PySem.W.Frag) (hu : X.A.units + 64 < cLine) (hK : X.K = K := by rfl) : OpR X (compareOp .Eq) (rEqD K) := by subst hK; exact op_eqD hu
theorem neDK {X : Cx} (K : PySem.W.Frag) (hu : X.A.units + 64 < cLine) (hK : X.K = K := by rfl) : OpR X (compareOp .NotEq) (rNeD K) := by subst hK; exact op_neD hu
theorem allK {X : Cx} (K : PySem.W.Frag) (hc : X.calm = true) (hK : X.K = K := by rfl) : CallR X (.builtin "all") (rAll K) := by subst hK; exact cr_all hc
theorem pi_listK {X : Cx} {tg e : Expr} {tl : TE} (K : PySem.W.Frag) (h : PE X e tl) (hK : X.K = K := by rfl) : PI X tg e (iList K tl) := by subst hK; exact pi_list h
section
variable {X : Cx} {T : String} {name : Str} {id : String} {r : V → List V → Hp → VK → Prop} {o e : Expr} {es : List Expr} {to : TE} {t : TA} {apos cpos : Pos}
theorem pe_bmK (K : PySem.W.Frag) (pa : PlainAttrs T) (slot : Slot T name id) (hty : typeOf (.builtin id) = pure (.type "method_descriptor")) (hm : MtR X id r) (ho : PE X o to) (ha : PA X (e :: es) t) (hK : X.K = K := by rfl)
    (hbase : attributeBase o name X.env (eval o X.env) = eval o X.env := by rfl)
    (hfew : ((backTo cpos (starEach (e :: es) X.env)).all (fun x => !x.1) && (backToKw cpos (keywordEach [] X.env)).all (fun x => x.1.isSome)
      && decide ((e :: es).length + ([] : List Keyword).length + (if ([] : List Keyword).isEmpty then 0 else 1) < 30)) = true := by rfl)
    (hline : (apos.endLine == cpos.line) = true := by rfl) (hs : starEach (e :: es) X.env = (false, eval e X.env) :: starEach es X.env := by rfl) (hplain : (backTo cpos (starEach es X.env)).any (·.1) = false := by rfl) :
    PE X (.Call (.Attribute o name apos) (e :: es) [] cpos) (tBM K T r to t) := by subst hK; exact pe_bm pa slot hty hm ho ha hbase hfew hline hs hplain
end
end Ml
namespace Ml
open PySem L2
theorem im_of_only {G : Gx} {H : Hp} {a : Addr} {ns : List Int} (hO : Only H) (hS : SqL G.K H a (ns.map V.int)) : Im.im G H (.ref a) (⟨ns⟩ : Script) := by
  refine ⟨a, rfl, ?_⟩
  rcases hS with (h | ⟨o, h⟩) | h
  · rcases hO a with z | ⟨o, xs, z⟩
    · rw [h] at z; cases z
    · rw [h] at z; cases z
  · exact .inl ⟨o, h⟩
  · exact .inr h
end Ml
namespace Ml
open PySem L2
variable {G : Gx} {σ : St} {H : Hp} {L : List (Asn G)} {D : Ends} {Q : VK} {α ρ : Type} {v : V}
theorem r_mod {i j : Int} (c : 0 < j) (q : Q (.int (i % j)) H) : rI (fun _ j => 0 < j) (fun i j => V.int (i % j)) (.int i) (.int j) H Q := ⟨i, j, rfl, rfl, c, q⟩
end Ml
namespace Ml
open PySem L2
def fzK (Q : VK) : VK := fun v H => Q v H ∨ ∃ a u, v = .ref a ∧ H a = some u ∧ Mut (some u) ∧ ∀ o, Q v (upd H a (.frz o u))
def tFz (t : TE) : TE := fun σ H Q => t σ H (fzK Q)
theorem pe_fz {X : Cx} {e : Expr} {t : TE} (h : PE X e t) : PE X e (tFz t) := by
  refine ⟨fun pins s σ H Q I hw => ?_⟩
  refine thn (h.run pins s σ H _ I hw) fun v s1 ⟨x, H1, I1, r, q⟩ => ?_
  rcases q with q | ⟨a, u, e, ha, mu, q⟩
  · exact ⟨x, H1, I1, r, q⟩
  · obtain ⟨od, I2⟩ := I1.lock ha mu
    exact ⟨x, _, I2, r, q od⟩
variable {G : Gx}
section
variable {σ : St} {H : Hp} {L : List (Asn G)} {te : TE} {Q : VK} {v : V} {α : Type}
theorem c_fz (h : te σ H (fzK Q)) : tFz te σ H Q := h
theorem fz_no (h : Q v H) : fzK Q v H := .inl h
theorem ev_fz (h : Ev te σ H v) : Ev (tFz te) σ H v := fun Q q => h _ (.inl q)
/-- a locked list: a value -/
instance imList [Im G α] : Im G (List α) := ⟨fun H v xs => ∃ a vs, v = .ref a ∧ (∃ o, H a = some (.frz o (.lst vs))) ∧ imL (G := G) H vs xs,
  fun ⟨a, vs, e, ⟨o, h⟩, m⟩ s => ⟨a, vs, e, ⟨o, s.1 a _ h rfl⟩, m.st s⟩⟩
/-- the i-th thing is dropped, the rest stays while its cell changes -/
theorem Sep.drop1 {a : Addr} {o o' : HO} {M : List (Asn G)} (h : Sep H (cell a o :: M)) (kd : kindOf o' = kindOf o) : Sep (upd H a o') M := by
  obtain ⟨fp, ⟨f1, f2, e, ⟨e1, ho⟩, k⟩, h2, h3⟩ := h
  subst e1; subst e
  have nd : ¬ a ∈ f2 := (List.nodup_cons.mp h2).1
  obtain ⟨u, hu, nu⟩ := h3 a (by simp)
  have eu : u = o := by rw [ho] at hu; cases hu; rfl
  have st : Stab G H (upd H a o') := stab_put hu nu (by rw [eu]; exact kd)
  refine ⟨f2, k.loc (fun b m => upd_ne fun z => nd (z ▸ m)) st, (List.nodup_cons.mp h2).2, fun b m => ?_⟩
  obtain ⟨x, hx, nx⟩ := h3 b (by simp [m])
  exact ⟨x, by rw [upd_ne (fun z => nd (by rw [← z]; exact m))]; exact hx, nx⟩
theorem fz_yes [Im G α] {i : Nat} {a : Addr} {xs : List α} (hS : Sep H L) (e : L[i]? = some (lstA a xs)) (k : ∀ H', Sep H' (imA (.ref a) xs :: L.eraseIdx i) → Q (.ref a) H') : fzK Q (.ref a) H := by
  obtain ⟨vs, m, h1⟩ := hS.openL e
  have h0 := h1.getCell (get_set e)
  refine .inr ⟨a, .lst vs, rfl, h0, True.intro, fun o => k _ ?_⟩
  have h2 := h1.perm (pull_perm (get_set (y := cell (G := G) a (.lst vs)) e))
  have e3 : (L.set i (cell a (.lst vs))).eraseIdx i = L.eraseIdx i := by simp [List.eraseIdx_set_eq]
  rw [e3] at h2
  obtain ⟨fp, ⟨f1, f2, _, ⟨ef, _⟩, _⟩, nd0, nper⟩ := id h2
  have nu : per G (.lst vs) = false := rfl
  have st : Stab G H (upd H a (.frz o (.lst vs))) := stab_put h0 nu rfl
  have h4 := h2.drop1 (o' := .frz o (.lst vs)) rfl
  exact h4.addIm ⟨a, vs, rfl, ⟨o, upd_same⟩, m.st st⟩
end
structure T3 (α β γ : Type) where
  a : α
  b : β
  c : γ
  deriving DecidableEq, Repr
structure T4 (α β γ δ : Type) where
  a : α
  b : β
  c : γ
  d : δ
  deriving DecidableEq, Repr
structure T5 (α β γ δ ε : Type) where
  a : α
  b : β
  c : γ
  d : δ
  e : ε
  deriving DecidableEq, Repr
structure T1 (α : Type) where
  a : α
  deriving DecidableEq, Repr
section
variable {α β γ δ ε : Type} [Im G α] [Im G β] [Im G γ] [Im G δ] [Im G ε] {H H' : Hp} {a : Addr} {u1 u2 u3 u4 u5 : V}
instance imT1 : Im G (T1 α) := ⟨fun H v x => ∃ a u1, v = .ref a ∧ H a = some (.tup [u1]) ∧ Im.im G H u1 x.a,
  fun ⟨a, u1, e, h, i1⟩ s => ⟨a, u1, e, s.1 a _ h rfl, Im.st i1 s⟩⟩
instance imT2 : Im G (α × β) := ⟨fun H v x => ∃ a u1 u2, v = .ref a ∧ H a = some (.tup [u1, u2]) ∧ Im.im G H u1 x.1 ∧ Im.im G H u2 x.2,
  fun ⟨a, u1, u2, e, h, i1, i2⟩ s => ⟨a, u1, u2, e, s.1 a _ h rfl, Im.st i1 s, Im.st i2 s⟩⟩
instance imT3 : Im G (T3 α β γ) := ⟨fun H v x => ∃ a u1 u2 u3, v = .ref a ∧ H a = some (.tup [u1, u2, u3]) ∧ Im.im G H u1 x.a ∧ Im.im G H u2 x.b ∧ Im.im G H u3 x.c,
  fun ⟨a, u1, u2, u3, e, h, i1, i2, i3⟩ s => ⟨a, u1, u2, u3, e, s.1 a _ h rfl, Im.st i1 s, Im.st i2 s, Im.st i3 s⟩⟩
instance imT4 : Im G (T4 α β γ δ) := ⟨fun H v x => ∃ a u1 u2 u3 u4, v = .ref a ∧ H a = some (.tup [u1, u2, u3, u4]) ∧ Im.im G H u1 x.a ∧ Im.im G H u2 x.b ∧ Im.im G H u3 x.c ∧ Im.im G H u4 x.d,
  fun ⟨a, u1, u2, u3, u4, e, h, i1, i2, i3, i4⟩ s => ⟨a, u1, u2, u3, u4, e, s.1 a _ h rfl, Im.st i1 s, Im.st i2 s, Im.st i3 s, Im.st i4 s⟩⟩
instance imT5 : Im G (T5 α β γ δ ε) := ⟨fun H v x => ∃ a u1 u2 u3 u4 u5, v = .ref a ∧ H a = some (.tup [u1, u2, u3, u4, u5]) ∧ Im.im G H u1 x.a ∧ Im.im G H u2 x.b ∧ Im.im G H u3 x.c ∧ Im.im G H u4 x.d ∧ Im.im G H u5 x.e,
  fun ⟨a, u1, u2, u3, u4, u5, e, h, i1, i2, i3, i4, i5⟩ s => ⟨a, u1, u2, u3, u4, u5, e, s.1 a _ h rfl, Im.st i1 s, Im.st i2 s, Im.st i3 s, Im.st i4 s, Im.st i5 s⟩⟩
theorem im1 {x : T1 α} (h : Im.im G H (.ref a) x) : ∃ u1, H a = some (.tup [u1]) ∧ Im.im G H u1 x.a := by
  obtain ⟨b, u1, e, h⟩ := h; cases e; exact ⟨u1, h⟩
theorem im2 {x : α × β} (h : Im.im G H (.ref a) x) : ∃ u1 u2, H a = some (.tup [u1, u2]) ∧ Im.im G H u1 x.1 ∧ Im.im G H u2 x.2 := by
  obtain ⟨b, u1, u2, e, h⟩ := h; cases e; exact ⟨u1, u2, h⟩
theorem im4 {x : T4 α β γ δ} (h : Im.im G H (.ref a) x) : ∃ u1 u2 u3 u4, H a = some (.tup [u1, u2, u3, u4]) ∧ Im.im G H u1 x.a ∧ Im.im G H u2 x.b ∧ Im.im G H u3 x.c ∧ Im.im G H u4 x.d := by
  obtain ⟨b, u1, u2, u3, u4, e, h⟩ := h; cases e; exact ⟨u1, u2, u3, u4, h⟩
theorem im5 {x : T5 α β γ δ ε} (h : Im.im G H (.ref a) x) : ∃ u1 u2 u3 u4 u5, H a = some (.tup [u1, u2, u3, u4, u5]) ∧ Im.im G H u1 x.a ∧ Im.im G H u2 x.b ∧ Im.im G H u3 x.c ∧ Im.im G H u4 x.d ∧ Im.im G H u5 x.e := by
  obtain ⟨b, u1, u2, u3, u4, u5, e, h⟩ := h; cases e; exact ⟨u1, u2, u3, u4, u5, h⟩
theorem mk1 {x : T1 α} (i1 : Im.im G H u1 x.a) (h : H' a = some (.tup [u1])) (s : Stab G H H') : Im.im G H' (.ref a) x := ⟨a, u1, rfl, h, Im.st i1 s⟩
theorem mk2 {x : α × β} (i1 : Im.im G H u1 x.1) (i2 : Im.im G H u2 x.2) (h : H' a = some (.tup [u1, u2])) (s : Stab G H H') : Im.im G H' (.ref a) x := ⟨a, u1, u2, rfl, h, Im.st i1 s, Im.st i2 s⟩
theorem mk4 {x : T4 α β γ δ} (i1 : Im.im G H u1 x.a) (i2 : Im.im G H u2 x.b) (i3 : Im.im G H u3 x.c) (i4 : Im.im G H u4 x.d) (h : H' a = some (.tup [u1, u2, u3, u4])) (s : Stab G H H') : Im.im G H' (.ref a) x := ⟨a, u1, u2, u3, u4, rfl, h, Im.st i1 s, Im.st i2 s, Im.st i3 s, Im.st i4 s⟩
theorem mk5 {x : T5 α β γ δ ε} (i1 : Im.im G H u1 x.a) (i2 : Im.im G H u2 x.b) (i3 : Im.im G H u3 x.c) (i4 : Im.im G H u4 x.d) (i5 : Im.im G H u5 x.e) (h : H' a = some (.tup [u1, u2, u3, u4, u5])) (s : Stab G H H') : Im.im G H' (.ref a) x :=
  ⟨a, u1, u2, u3, u4, u5, rfl, h, Im.st i1 s, Im.st i2 s, Im.st i3 s, Im.st i4 s, Im.st i5 s⟩
end
class IsRef (G : Gx) (α : Type) [Im G α] : Prop where
  isref : ∀ {H : Hp} {v : V} {x : α}, Im.im G H v x → ∃ a, v = .ref a
theorem isref {α : Type} [Im G α] [IsRef G α] {H : Hp} {v : V} {x : α} (h : Im.im G H v x) : ∃ a, v = .ref a := IsRef.isref h
section
variable {α β γ δ ε : Type} [Im G α] [Im G β] [Im G γ] [Im G δ] [Im G ε]
instance : IsRef G (List α) := ⟨fun h => by obtain ⟨a, _, e, _⟩ := h; exact ⟨a, e⟩⟩
instance : IsRef G (T1 α) := ⟨fun h => by obtain ⟨a, _, e, _⟩ := h; exact ⟨a, e⟩⟩
instance : IsRef G (α × β) := ⟨fun h => by obtain ⟨a, _, _, e, _⟩ := h; exact ⟨a, e⟩⟩
instance : IsRef G (T3 α β γ) := ⟨fun h => by obtain ⟨a, _, _, _, e, _⟩ := h; exact ⟨a, e⟩⟩
instance : IsRef G (T4 α β γ δ) := ⟨fun h => by obtain ⟨a, _, _, _, _, e, _⟩ := h; exact ⟨a, e⟩⟩
instance : IsRef G (T5 α β γ δ ε) := ⟨fun h => by obtain ⟨a, _, _, _, _, _, e, _⟩ := h; exact ⟨a, e⟩⟩
end
section
variable {σ σ' : St} {H : Hp} {L : List (Asn G)} {D : Ends} {Q : VK} {te ta tb : TE} {α : Type} {K : PySem.W.Frag} {v : V}
/-- a tuple is laid -/
theorem k_tupP [Im G α] {vs : List V} {x : α} (hS : Sep H L) (mk : ∀ (H' : Hp) (p : Addr), H' p = some (.tup vs) → Stab G H H' → Im.im G H' (.ref p) x) (hl : vs.length ≤ sizeLine)
    (k : ∀ p H', Sep H' (imA (.ref p) x :: L) → Q (.ref p) H') : tupK Q vs H :=
  ⟨hl, fun p hp => k p _ ((hS.more (same_new hp)).addIm (mk _ p upd_same (.of_same (same_new hp))))⟩
theorem ev_ixT {a : Addr} {i : Int} {us : List V} (ha : Ev ta σ H (.ref a)) (hb : Ev tb σ H (.int i)) (h : H a = some (.tup us)) (e : atI us i = some v) : Ev (tOp (rIxT K) ta tb) σ H v :=
  ev_op ha hb fun _ q => ⟨a, us, i, v, rfl, rfl, SqT.of h, e, q⟩
/-- a field -/
theorem ev_fld {a C dx : Addr} {fs : List (Str × V)} {f : Str} (ha : Ev ta σ H (.ref a)) (h : H a = some (.ins C dx fs)) (c : Cls K C) (n : NoAttr K C f) (l : fs.lookup f = some v) : Ev (tFld K ta f) σ H v :=
  fun _ q => ha _ ⟨a, C, dx, fs, v, rfl, h, c, n, l, q⟩
end
end Ml
namespace Ml
open PySem L2
inductive Any where
  | str (s : Str) | int (i : Int) | bl (b : Bool) | non | tup (xs : List Any) | lst (xs : List Any) | oth (k : Nat)
section
variable (G : Gx)
mutual
def imAny (H : Hp) : V → Any → Prop
  | v, .str s => v = .str s
  | v, .int i => v = .int i
  | v, .bl b => v = .bl b
  | v, .non => v = .non
  | v, .tup xs => ∃ a vs, v = .ref a ∧ H a = some (.tup vs) ∧ imAnyL H vs xs
  | v, .lst xs => ∃ a vs, v = .ref a ∧ (∃ o, H a = some (.frz o (.lst vs))) ∧ imAnyL H vs xs
  | v, .oth k => ∃ a o, v = .ref a ∧ H a = some o ∧ kindOf o = k ∧ (k = 0 ∨ k = 1)
def imAnyL (H : Hp) : List V → List Any → Prop
  | [], [] => True
  | v :: vs, x :: xs => imAny H v x ∧ imAnyL H vs xs
  | _, _ => False
end
variable {G} {H H' : Hp}
mutual
theorem imAny.st : ∀ {v : V} {x : Any}, imAny H v x → Stab G H H' → imAny H' v x
  | v, .str s, h, _ => by rw [imAny] at h ⊢; exact h
  | v, .int i, h, _ => by rw [imAny] at h ⊢; exact h
  | v, .bl b, h, _ => by rw [imAny] at h ⊢; exact h
  | v, .non, h, _ => by rw [imAny] at h ⊢; exact h
  | v, .tup xs, h, s => by
    rw [imAny] at h ⊢
    obtain ⟨a, vs, e, g, m⟩ := h
    exact ⟨a, vs, e, s.1 a _ g rfl, imAnyL.st m s⟩
  | v, .lst xs, h, s => by
    rw [imAny] at h ⊢
    obtain ⟨a, vs, e, ⟨o, g⟩, m⟩ := h
    exact ⟨a, vs, e, ⟨o, s.1 a _ g rfl⟩, imAnyL.st m s⟩
  | v, .oth k, h, s => by
    rw [imAny] at h ⊢
    obtain ⟨a, o, e, g, q, z⟩ := h
    obtain ⟨o', g', q'⟩ := s.2 a o g
    exact ⟨a, o', e, g', q'.trans q, z⟩
theorem imAnyL.st : ∀ {vs : List V} {xs : List Any}, imAnyL H vs xs → Stab G H H' → imAnyL H' vs xs
  | [], [], h, _ => h
  | v :: vs, x :: xs, h, s => by
    rw [imAnyL] at h ⊢
    exact ⟨imAny.st h.1 s, imAnyL.st h.2 s⟩
  | [], _ :: _, h, _ => by rw [imAnyL] at h; exact h.elim; all_goals simp
  | _ :: _, [], h, _ => by rw [imAnyL] at h; exact h.elim; all_goals simp
end
instance imAnyI : Im G Any := ⟨fun H v x => imAny H v x, fun h s => imAny.st h s⟩
end
variable {G : Gx} {H : Hp} {L : List (Asn G)}
theorem any_str {v : V} {s : Str} : Im.im G H v (Any.str s) ↔ v = .str s := by show imAny H v (.str s) ↔ _; rw [imAny]
theorem any_int {v : V} {s : Int} : Im.im G H v (Any.int s) ↔ v = .int s := by show imAny H v (.int s) ↔ _; rw [imAny]
theorem any_bl {v : V} {s : Bool} : Im.im G H v (Any.bl s) ↔ v = .bl s := by show imAny H v (.bl s) ↔ _; rw [imAny]
theorem any_non {v : V} : Im.im G H v Any.non ↔ v = .non := by show imAny H v .non ↔ _; rw [imAny]
theorem imAnyL_eq : ∀ {vs : List V} {xs : List Any}, imAnyL H vs xs ↔ imL (G := G) H vs xs
  | [], [] => by rw [imAnyL]; exact Iff.rfl
  | v :: vs, x :: xs => by
    rw [imAnyL]
    exact and_congr_right fun _ => imAnyL_eq (vs := vs) (xs := xs)
  | [], _ :: _ => ⟨fun h => by rw [imAnyL] at h; exact h.elim; all_goals simp, fun h => h.elim⟩
  | _ :: _, [] => ⟨fun h => by rw [imAnyL] at h; exact h.elim; all_goals simp, fun h => h.elim⟩
theorem any_tup {v : V} {xs : List Any} : Im.im G H v (Any.tup xs) ↔ ∃ a vs, v = .ref a ∧ H a = some (.tup vs) ∧ imL (G := G) H vs xs := by
  show imAny H v (.tup xs) ↔ _
  rw [imAny]
  exact exists_congr fun a => exists_congr fun vs => and_congr_right fun _ => and_congr_right fun _ => imAnyL_eq
theorem any_lsts {v : V} {xs : List Any} : Im.im G H v (Any.lst xs) ↔ ∃ a vs, v = .ref a ∧ (∃ o, H a = some (.frz o (.lst vs))) ∧ imL (G := G) H vs xs := by
  show imAny H v (.lst xs) ↔ _
  rw [imAny]
  exact exists_congr fun a => exists_congr fun vs => and_congr_right fun _ => and_congr_right fun _ => imAnyL_eq
theorem any_oth {v : V} {k : Nat} : Im.im G H v (Any.oth k) ↔ ∃ a o, v = .ref a ∧ H a = some o ∧ kindOf o = k ∧ (k = 0 ∨ k = 1) := by
  show imAny H v (.oth k) ↔ _
  rw [imAny]
def Any.ty : Any → String
  | .str _ => "str"
  | .int _ => "int"
  | .bl _ => "bool"
  | .non => "NoneType"
  | .tup _ => "tuple"
  | .lst _ => "list"
  | .oth 0 => "list"
  | .oth _ => "dict"
theorem ty_of_kind {K : PySem.W.Frag} {a : Addr} {o : HO} {k : Nat} (h : H a = some o) (e : kindOf o = k) (z : k = 0 ∨ k = 1) : TyX K H (.ref a) (.type (Any.oth k).ty) := by
  rcases z with rfl | rfl
  · cases o with
    | lst xs => exact .base (.lst h)
    | frz o x => cases x with
      | lst xs => exact .base (.frz h)
      | _ => cases e
    | _ => cases e
  · cases o with
    | dK xs => exact .base (.dK h)
    | frz o x => cases x with
      | dK xs => exact .fDict h
      | _ => cases e
    | _ => cases e
theorem ty_any {v : V} {x : Any} (h : Im.im G H v x) : TyX G.K H v (.type x.ty) := by
  cases x with
  | str s => rw [any_str] at h; subst h; exact .base (.str s)
  | int s => rw [any_int] at h; subst h; exact .base (.int s)
  | bl s => rw [any_bl] at h; subst h; exact .base (.bl s)
  | non => rw [any_non] at h; subst h; exact .base .non
  | tup xs => rw [any_tup] at h; obtain ⟨a, vs, rfl, g, _⟩ := h; exact .base (.tup g)
  | lst xs => rw [any_lsts] at h; obtain ⟨a, vs, rfl, ⟨o, g⟩, _⟩ := h; exact .base (.frz g)
  | oth k => rw [any_oth] at h; obtain ⟨a, o, rfl, g, q, z⟩ := h; exact ty_of_kind g q z
/-- isinstance of a plain type -/
def Any.is (x : Any) (t : String) : Bool := x.ty == t || (x.ty == "bool" && t == "int")
theorem any_kit (x : Any) (t : String) (ht : t ∈ ["str", "int", "bool", "tuple", "list", "dict"]) : kitB x.ty t = some (x.is t) := by
  have : ∀ u, u ∈ ["str", "int", "bool", "tuple", "list", "dict", "NoneType"] → ∀ t, t ∈ ["str", "int", "bool", "tuple", "list", "dict"] → kitB u t = some (u == t || (u == "bool" && t == "int")) := by decide +kernel
  refine this _ ?_ t ht
  unfold Any.ty
  split <;> decide
theorem ev_isAny {σ : St} {ta tb : TE} {v : V} {x : Any} {t : String} (ha : Ev ta σ H v) (hb : Ev tb σ H (.ty t)) (h : Im.im G H v x) (ht : t ∈ ["str", "int", "bool", "tuple", "list", "dict"]) : Ev (tCB (rIsi G.K) (tCons ta (tCons tb tNil))) σ H (.bl (x.is t)) :=
  ev_isi ha hb (ty_any h) (any_kit x t ht)
end Ml
namespace Ml
open PySem L2
variable {G : Gx} {H : Hp} {L : List (Asn G)} {ρ : Type} {q : ρ → Prop} {e : Exc → Prop} {Q : VK} {σ : St}
def Any.asStr : Any → R Str
  | .str s => .ok s
  | _ => .bad
def Any.asInt : Any → R Int
  | .int s => .ok s
  | _ => .bad
def Any.asTup : Any → R (List Any)
  | .tup s => .ok s
  | _ => .bad
theorem wp_asStr {x : Any} {f : Str → R ρ} (h : R.wp (x.asStr.bind f) q e) : ∃ s, x = .str s ∧ R.wp (f s) q e := by
  cases x with
  | str s => exact ⟨s, rfl, h⟩
  | _ => exact h.elim
theorem wp_asInt {x : Any} {f : Int → R ρ} (h : R.wp (x.asInt.bind f) q e) : ∃ s, x = .int s ∧ R.wp (f s) q e := by
  cases x with
  | int s => exact ⟨s, rfl, h⟩
  | _ => exact h.elim
theorem wp_asTup {x : Any} {f : List Any → R ρ} (h : R.wp (x.asTup.bind f) q e) : ∃ s, x = .tup s ∧ R.wp (f s) q e := by
  cases x with
  | tup s => exact ⟨s, rfl, h⟩
  | _ => exact h.elim
theorem v_str {v : V} {x : Any} {s : Str} (h : Im.im G H v x) (e : x = .str s) : v = .str s := any_str.mp (e ▸ h)
theorem v_int {v : V} {x : Any} {s : Int} (h : Im.im G H v x) (e : x = .int s) : v = .int s := any_int.mp (e ▸ h)
theorem any_dict {κ β : Type} [DecidableEq κ] [Kx κ] [Im G β] {i : Nat} {a : Addr} {xs : List (κ × β)} (hS : Sep H L) (e : L[i]? = some (dictA a xs)) : Im.im G H (.ref a) (Any.oth 1) := by
  obtain ⟨vs, h, _⟩ := hS.dict e
  exact any_oth.mpr ⟨a, _, rfl, h, rfl, .inr rfl⟩
/-- a tuple, of things of any sort -/
theorem k_tupA {vs : List V} {xs : List Any} (hS : Sep H L) (m : imL (G := G) H vs xs) (hl : vs.length ≤ sizeLine) (k : ∀ p H', Sep H' (imA (.ref p) (Any.tup xs) :: L) → Q (.ref p) H') :
    tupK Q vs H :=
  ⟨hl, fun p hp => k p _ ((hS.more (same_new hp)).addIm (any_tup.mpr ⟨p, vs, rfl, upd_same, m.st (.of_same (same_new hp))⟩))⟩
end Ml
namespace Ml
open PySem L2
variable {G : Gx}
section
variable {α β γ δ ε : Type} [Lay α] [Lay β] [Lay γ] [Lay δ] [Lay ε]
instance layList : Lay (List α) := ⟨layAllB⟩
instance layT1 : Lay (T1 α) := ⟨fun x => Lay.lay x.a⟩
instance layT2 : Lay (α × β) := ⟨fun x => Lay.lay x.1 && Lay.lay x.2⟩
instance layT3 : Lay (T3 α β γ) := ⟨fun x => Lay.lay x.a && (Lay.lay x.b && Lay.lay x.c)⟩
instance layT4 : Lay (T4 α β γ δ) := ⟨fun x => Lay.lay x.a && (Lay.lay x.b && (Lay.lay x.c && Lay.lay x.d))⟩
instance layT5 : Lay (T5 α β γ δ ε) := ⟨fun x => Lay.lay x.a && (Lay.lay x.b && (Lay.lay x.c && (Lay.lay x.d && Lay.lay x.e)))⟩
end
section
variable {α β γ δ ε : Type} [Im G α] [DecidableEq α] [Lay α] [Pd G α] [Im G β] [DecidableEq β] [Lay β] [Pd G β] [Im G γ] [DecidableEq γ] [Lay γ] [Pd G γ] [Im G δ] [DecidableEq δ] [Lay δ] [Pd G δ] [Im G ε] [DecidableEq ε] [Lay ε] [Pd G ε]
instance pdList : Pd G (List α) where
  pd := fun xs => .list (xs.map (Pd.pd G))
  dep := Pd.dep G α + 1
  dp := fun {H v x} h => by
    obtain ⟨a, vs, rfl, ⟨o, g⟩, m⟩ := h
    exact .lst (.inl (.inr ⟨o, g⟩)) (dpAll m)
  lay_ok := fun x h => layAll (G := G) h
  dep_ok := fun x => Nat.succ_le_succ (depAll (G := G) x)
  eqv := fun x y => eqvAll_is x y
theorem canTup (ds : List PyData) : (PyData.tuple ds).canLay0 = PyData.canLayAll0 ds := rfl
theorem canCons (d : PyData) (ds : List PyData) : PyData.canLayAll0 (d :: ds) = (d.canLay0 && PyData.canLayAll0 ds) := rfl
theorem depTup (ds : List PyData) : (PyData.tuple ds).depth = PyData.depthAll ds + 1 := rfl
theorem depCons (d : PyData) (ds : List PyData) : PyData.depthAll (d :: ds) = max d.depth (PyData.depthAll ds) := rfl
theorem depNil : PyData.depthAll [] = 0 := rfl
theorem eqvTup (ds es : List PyData) : PyData.eqv (.tuple ds) (.tuple es) = PyData.eqvAll ds es := rfl
theorem eqvCons (d e : PyData) (ds es : List PyData) : PyData.eqvAll (d :: ds) (e :: es) = (PyData.eqv d e && PyData.eqvAll ds es) := rfl
theorem eqvNil : PyData.eqvAll [] [] = true := rfl
instance pdT1 : Pd G (T1 α) where
  pd := fun x => .tuple [Pd.pd G x.a]
  dep := Pd.dep G α + 1
  dp := fun {H v x} h => by
    obtain ⟨a, u1, rfl, g, i1⟩ := h
    exact .tup (SqT.of g) (.cons (Pd.dp i1) .nil)
  lay_ok := fun x h => by rw [canTup, canCons, Pd.lay_ok x.a h]; rfl
  dep_ok := fun x => by
    rw [depTup, depCons, depNil]
    have := Pd.dep_ok (G := G) x.a
    omega
  eqv := fun x y => by
    rw [eqvTup, eqvCons, eqvNil, Pd.eqv]
    obtain ⟨a⟩ := x; obtain ⟨b⟩ := y
    simp
instance pdT2 : Pd G (α × β) where
  pd := fun x => .tuple [Pd.pd G x.1, Pd.pd G x.2]
  dep := max (Pd.dep G α) (Pd.dep G β) + 1
  dp := fun {H v x} h => by
    obtain ⟨a, u1, u2, rfl, g, i1, i2⟩ := h
    exact .tup (SqT.of g) (.cons (Pd.dp i1) (.cons (Pd.dp i2) .nil))
  lay_ok := fun x h => by
    have h : (Lay.lay x.1 && Lay.lay x.2) = true := h
    rw [Bool.and_eq_true] at h
    rw [canTup, canCons, canCons, Pd.lay_ok x.1 h.1, Pd.lay_ok x.2 h.2]; rfl
  dep_ok := fun x => by
    rw [depTup, depCons, depCons, depNil]
    have := Pd.dep_ok (G := G) x.1
    have := Pd.dep_ok (G := G) x.2
    omega
  eqv := fun x y => by
    rw [eqvTup, eqvCons, eqvCons, eqvNil, Pd.eqv, Pd.eqv]
    obtain ⟨a, b⟩ := x; obtain ⟨c, d⟩ := y
    simp
instance pdT3 : Pd G (T3 α β γ) where
  pd := fun x => .tuple [Pd.pd G x.a, Pd.pd G x.b, Pd.pd G x.c]
  dep := max (Pd.dep G α) (max (Pd.dep G β) (Pd.dep G γ)) + 1
  dp := fun {H v x} h => by
    obtain ⟨a, u1, u2, u3, rfl, g, i1, i2, i3⟩ := h
    exact .tup (SqT.of g) (.cons (Pd.dp i1) (.cons (Pd.dp i2) (.cons (Pd.dp i3) .nil)))
  lay_ok := fun x h => by
    have h : (Lay.lay x.a && (Lay.lay x.b && Lay.lay x.c)) = true := h
    simp only [Bool.and_eq_true] at h
    rw [canTup, canCons, canCons, canCons, Pd.lay_ok x.a h.1, Pd.lay_ok x.b h.2.1, Pd.lay_ok x.c h.2.2]; rfl
  dep_ok := fun x => by
    rw [depTup, depCons, depCons, depCons, depNil]
    have := Pd.dep_ok (G := G) x.a
    have := Pd.dep_ok (G := G) x.b
    have := Pd.dep_ok (G := G) x.c
    omega
  eqv := fun x y => by
    rw [eqvTup, eqvCons, eqvCons, eqvCons, eqvNil, Pd.eqv, Pd.eqv, Pd.eqv]
    obtain ⟨a, b, c⟩ := x; obtain ⟨d, e, f⟩ := y
    simp
instance pdT4 : Pd G (T4 α β γ δ) where
  pd := fun x => .tuple [Pd.pd G x.a, Pd.pd G x.b, Pd.pd G x.c, Pd.pd G x.d]
  dep := max (Pd.dep G α) (max (Pd.dep G β) (max (Pd.dep G γ) (Pd.dep G δ))) + 1
  dp := fun {H v x} h => by
    obtain ⟨a, u1, u2, u3, u4, rfl, g, i1, i2, i3, i4⟩ := h
    exact .tup (SqT.of g) (.cons (Pd.dp i1) (.cons (Pd.dp i2) (.cons (Pd.dp i3) (.cons (Pd.dp i4) .nil))))
  lay_ok := fun x h => by
    have h : (Lay.lay x.a && (Lay.lay x.b && (Lay.lay x.c && Lay.lay x.d))) = true := h
    simp only [Bool.and_eq_true] at h
    rw [canTup, canCons, canCons, canCons, canCons, Pd.lay_ok x.a h.1, Pd.lay_ok x.b h.2.1, Pd.lay_ok x.c h.2.2.1, Pd.lay_ok x.d h.2.2.2]; rfl
  dep_ok := fun x => by
    rw [depTup, depCons, depCons, depCons, depCons, depNil]
    have := Pd.dep_ok (G := G) x.a
    have := Pd.dep_ok (G := G) x.b
    have := Pd.dep_ok (G := G) x.c
    have := Pd.dep_ok (G := G) x.d
    omega
  eqv := fun x y => by
    rw [eqvTup, eqvCons, eqvCons, eqvCons, eqvCons, eqvNil, Pd.eqv, Pd.eqv, Pd.eqv, Pd.eqv]
    obtain ⟨a, b, c, d⟩ := x; obtain ⟨a', b', c', d'⟩ := y
    simp
instance pdT5 : Pd G (T5 α β γ δ ε) where
  pd := fun x => .tuple [Pd.pd G x.a, Pd.pd G x.b, Pd.pd G x.c, Pd.pd G x.d, Pd.pd G x.e]
  dep := max (Pd.dep G α) (max (Pd.dep G β) (max (Pd.dep G γ) (max (Pd.dep G δ) (Pd.dep G ε)))) + 1
  dp := fun {H v x} h => by
    obtain ⟨a, u1, u2, u3, u4, u5, rfl, g, i1, i2, i3, i4, i5⟩ := h
    exact .tup (SqT.of g) (.cons (Pd.dp i1) (.cons (Pd.dp i2) (.cons (Pd.dp i3) (.cons (Pd.dp i4) (.cons (Pd.dp i5) .nil)))))
  lay_ok := fun x h => by
    have h : (Lay.lay x.a && (Lay.lay x.b && (Lay.lay x.c && (Lay.lay x.d && Lay.lay x.e)))) = true := h
    simp only [Bool.and_eq_true] at h
    rw [canTup, canCons, canCons, canCons, canCons, canCons, Pd.lay_ok x.a h.1, Pd.lay_ok x.b h.2.1, Pd.lay_ok x.c h.2.2.1, Pd.lay_ok x.d h.2.2.2.1, Pd.lay_ok x.e h.2.2.2.2]; rfl
  dep_ok := fun x => by
    rw [depTup, depCons, depCons, depCons, depCons, depCons, depNil]
    have := Pd.dep_ok (G := G) x.a
    have := Pd.dep_ok (G := G) x.b
    have := Pd.dep_ok (G := G) x.c
    have := Pd.dep_ok (G := G) x.d
    have := Pd.dep_ok (G := G) x.e
    omega
  eqv := fun x y => by
    rw [eqvTup, eqvCons, eqvCons, eqvCons, eqvCons, eqvCons, eqvNil, Pd.eqv, Pd.eqv, Pd.eqv, Pd.eqv, Pd.eqv]
    obtain ⟨a, b, c, d, e⟩ := x; obtain ⟨a', b', c', d', e'⟩ := y
    simp
end
section
variable {α : Type} [Im G α] [DecidableEq α] [Lay α] [Pd G α] {H : Hp} {L : List (Asn G)} {σ : St} {ta tb : TE} {Q : VK} {v w : V} {x y : α}
theorem shapedP (h : Lay.lay x = true) (d : Pd.dep G α ≤ 64) : SeqAt.shaped (Pd.pd G x) = true := by
  unfold SeqAt.shaped
  rw [Pd.lay_ok x h, decide_eq_true (Nat.le_trans (Pd.dep_ok x) d)]; rfl
/-- the data of a list that one owns -/
theorem dpOwn {i : Nat} {a : Addr} {xs : List α} (hS : Sep H L) (e : L[i]? = some (lstA a xs)) : Dp G.K H (.ref a) (Pd.pd G xs) := by
  obtain ⟨vs, s, m⟩ := hS.sq e
  exact .lst s (dpAll m)
theorem ev_neP (ha : Ev ta σ H v) (hb : Ev tb σ H w) (d1 : Dp G.K H v (Pd.pd G x)) (d2 : Dp G.K H w (Pd.pd G y)) (l1 : Lay.lay x = true) (l2 : Lay.lay y = true) (d : Pd.dep G α ≤ 64) :
    Ev (tOp (rNeD G.K) ta tb) σ H (.bl (!decide (x = y))) := ev_op ha hb fun Q q => by
  refine ⟨_, _, d1, d2, shapedP l1 d, shapedP l2 d, ?_⟩
  rw [Pd.eqv]; exact q
end
mutual
def pdA : Any → PyData
  | .str s => .str s
  | .int i => .int i
  | .bl b => .bool b
  | .non => .none
  | .tup xs => .tuple (pdAL xs)
  | .lst xs => .list (pdAL xs)
  | .oth _ => .none
def pdAL : List Any → List PyData
  | [] => []
  | x :: xs => pdA x :: pdAL xs
end
mutual
def plA : Any → Bool
  | .tup xs => plAL xs
  | .lst xs => plAL xs
  | .oth _ => false
  | _ => true
def plAL : List Any → Bool
  | [] => true
  | x :: xs => plA x && plAL xs
end
section
variable {H : Hp}
mutual
theorem dpA : ∀ {v : V} {x : Any}, imAny H v x → plA x = true → Dp G.K H v (pdA x)
  | v, .str s, h, _ => by rw [imAny] at h; subst h; rw [pdA]; exact .str s
  | v, .int s, h, _ => by rw [imAny] at h; subst h; rw [pdA]; exact .int s
  | v, .bl s, h, _ => by rw [imAny] at h; subst h; rw [pdA]; exact .bl s
  | v, .non, h, _ => by rw [imAny] at h; subst h; rw [pdA]; exact .non
  | v, .tup xs, h, l => by
    rw [imAny] at h; rw [plA] at l; rw [pdA]
    obtain ⟨a, vs, rfl, g, m⟩ := h
    exact .tup (SqT.of g) (dpAL m l)
  | v, .lst xs, h, l => by
    rw [imAny] at h; rw [plA] at l; rw [pdA]
    obtain ⟨a, vs, rfl, ⟨o, g⟩, m⟩ := h
    exact .lst (.inl (.inr ⟨o, g⟩)) (dpAL m l)
  | v, .oth k, h, l => by rw [plA] at l; cases l
theorem dpAL : ∀ {vs : List V} {xs : List Any}, imAnyL H vs xs → plAL xs = true → DpAll G.K H vs (pdAL xs)
  | [], [], h, _ => by rw [pdAL]; exact .nil
  | v :: vs, x :: xs, h, l => by
    rw [imAnyL] at h; rw [plAL, Bool.and_eq_true] at l; rw [pdAL]
    exact .cons (dpA h.1 l.1) (dpAL h.2 l.2)
  | [], _ :: _, h, _ => by rw [imAnyL] at h; exact h.elim; all_goals simp
  | _ :: _, [], h, _ => by rw [imAnyL] at h; exact h.elim; all_goals simp
end
end
/-- x == y of things of any sort -/
def eqA (x y : Any) : R Bool := R.need (plA x = true ∧ plA y = true ∧ SeqAt.shaped (pdA x) = true ∧ SeqAt.shaped (pdA y) = true) (.ok (PyData.eqv (pdA x) (pdA y)))
section
variable {H : Hp} {σ : St} {ta tb : TE} {Q : VK} {v w : V} {x y : Any} {ρ : Type} {q : ρ → Prop} {e : Exc → Prop}
theorem wp_eqA {f : Bool → R ρ} (h : R.wp ((eqA x y).bind f) q e) : ∃ b, (plA x = true ∧ plA y = true ∧ SeqAt.shaped (pdA x) = true ∧ SeqAt.shaped (pdA y) = true ∧ b = PyData.eqv (pdA x) (pdA y)) ∧ R.wp (f b) q e := by
  unfold eqA R.need at h
  by_cases c : plA x = true ∧ plA y = true ∧ SeqAt.shaped (pdA x) = true ∧ SeqAt.shaped (pdA y) = true
  · rw [if_pos c] at h; exact ⟨_, ⟨c.1, c.2.1, c.2.2.1, c.2.2.2, rfl⟩, h⟩
  · rw [if_neg c] at h; exact h.elim
theorem ev_eqA {b : Bool} (ha : Ev ta σ H v) (hb : Ev tb σ H w) (i1 : Im.im G H v x) (i2 : Im.im G H w y) (h : plA x = true ∧ plA y = true ∧ SeqAt.shaped (pdA x) = true ∧ SeqAt.shaped (pdA y) = true ∧ b = PyData.eqv (pdA x) (pdA y)) :
    Ev (tOp (rEqD G.K) ta tb) σ H (.bl b) := ev_op ha hb fun Q q => by
  obtain ⟨h1, h2, h3, h4, rfl⟩ := h
  exact ⟨_, _, dpA i1 h1, dpA i2 h2, h3, h4, q⟩
theorem ev_neA {b : Bool} (ha : Ev ta σ H v) (hb : Ev tb σ H w) (i1 : Im.im G H v x) (i2 : Im.im G H w y) (h : plA x = true ∧ plA y = true ∧ SeqAt.shaped (pdA x) = true ∧ SeqAt.shaped (pdA y) = true ∧ b = PyData.eqv (pdA x) (pdA y)) :
    Ev (tOp (rNeD G.K) ta tb) σ H (.bl (!b)) := ev_op ha hb fun Q q => by
  obtain ⟨h1, h2, h3, h4, rfl⟩ := h
  exact ⟨_, _, dpA i1 h1, dpA i2 h2, h3, h4, q⟩
end
end Ml
namespace L2
open PySem PySem.Spec PyProof.Rows
section
variable {X : Cx} {CX : CXT} {k : Nat} {f C : Addr} {fd : FuncData} {ps : List Str} {sp : Sp} {dvs : List V} {ds : List Value} {E : St → XK} {x m : Str} {p pos apos : Pos} {e o : Expr} {es : List Expr} {ta : TE} {t : TA}
def tMethSD (C : Addr) (m : Str) (sp : Sp) (dvs : List V) (E : St → XK) (ta : TE) (t : TA) : TE := fun σ H Q => ta σ H fun x H1 => ∃ a dx fs, x = .ref a ∧ H1 a = some (.ins C dx fs) ∧ fs.lookup m = none ∧
  t σ H1 fun vs H2 => sp (x :: (vs ++ dvs)) H2 Q (E σ)
def tMakeSD (C : Addr) (sp : Sp) (dvs : List V) (E : St → XK) (t : TA) : TE := fun σ H Q => t σ H fun vs H1 => ∀ x dx, H1 x = none → H1 dx = none → dx ≠ x →
  sp (.ref x :: (vs ++ dvs)) (upd (upd H1 dx (.own x)) x (.ins C dx [])) (fun v H2 => v = .non ∧ Q (.ref x) H2) (E σ)
theorem pe_methSD {pl : Sem Bool} (he : PE X o ta) (c : Cls X.K C) (hm : Meth X.K C m f) (F : FnOk X.prog X.w X.K X.mg X.base CX k f fd ps sp) (hr : Room k X.A) (hb : Binds X.K fd ps ds) (hd : Vals dvs ds) (hx : ∀ σ, PassesAt CX X σ (E σ)) (ha : PA X (e :: es) t)
    (hst : starEach (e :: es) X.env = (false, eval e X.env) :: starEach es X.env := by rfl) (hpl : (backTo pos (starEach es X.env)).any (·.1) = false := by rfl)
    (ht : eval (.Call (.Attribute o m apos) (e :: es) [] pos) X.env = (do
      let ov ← eval o X.env
      standAt apos.atName
      let (f, first) ← holding [ov] (getMethod ov m pl)
      callWith pos f first (backTo pos (starEach (e :: es) X.env)) (backToKw pos (keywordEach [] X.env))) := by rfl) :
    PE X (.Call (.Attribute o m apos) (e :: es) [] pos) (tMethSD C m sp dvs E ta t) := by
  refine ⟨fun pins s σ H Q I h => ?_⟩
  refine PySem.W.methodCall_KW (pl := pl) (thn (he.run pins s σ H _ I h) fun u s1 ⟨x, H1, I1, rx, a, dx, fs, ex, ea, l, q⟩ => ?_) ht
  subst ex
  obtain rfl : u = Value.ref a := rx
  refine getmeth_ok I1 ea c hm l ?_
  refine PySem.W.callWith_K (first := [.ref a]) (h₀ := X.base) I.ok.mod.kin hm.kp (thn (ha.run pos pins s1 σ H1 _ I1 q) fun us s2 ⟨vs, H2, I2, r, q2⟩ => ⟨I2.kIn, ?_⟩) hst hpl
  exact run_fnSD (us := .ref a :: us) (vs := .ref a :: vs) F hr hb hd (hx σ) I2 (.cons rfl r) q2
theorem run_makeSD {pins : List (Addr × Obj)} {σ : St} {H : Hp} {s : Shared} {Q : VK} {us : List Value} {vs : List V} (M : Mk X.K C f) (F : FnOk X.prog X.w X.K X.mg X.base CX k f fd ps sp) (hr : Room (k + 1) X.A) (hb : Binds X.K fd ps ds) (hd : Vals dvs ds)
    (hx : PassesAt CX X σ (E σ)) (I : Inv X pins σ H s) (r : Vals vs us)
    (h : ∀ x dx, H x = none → H dx = none → dx ≠ x → sp (.ref x :: (vs ++ dvs)) (upd (upd H dx (.own x)) x (.ins C dx [])) (fun v H2 => v = .non ∧ Q (.ref x) H2) (E σ)) :
    wpAny (model X.prog X.w) X.A (call (.ref C) us) (EP X pins σ Q) X.xe s := by
  have hq := h (s.heap.objs.size + 1) s.heap.objs.size (I.hok.fresh (Nat.le_succ _)) (I.hok.fresh (Nat.le_refl _)) (Nat.ne_of_lt (Nat.lt_succ_self _))
  have I2 := Inv.made (C := C) I
  have r2 : Vals (V.ref (s.heap.objs.size + 1) :: (vs ++ dvs)) (Value.ref (s.heap.objs.size + 1) :: (us ++ ds)) := .cons rfl (r.append hd)
  have hl : (Value.ref (s.heap.objs.size + 1) :: us ++ ds).length = ps.length := by
    have e := r2.length
    rw [F.len _ _ _ _ hq] at e
    exact e.symm
  refine wpAny_call (make_map (f := f) I.kIn M.makes M.init (beq_iff_eq.mp M.fn) (codeAny_mono (F.run _ X.stack _ _ ⟨Value.ref (s.heap.objs.size + 1) :: us, []⟩ (Value.ref (s.heap.objs.size + 1) :: (us ++ ds)) _ _ (E σ) (hr.make C us [])
    (I2.env0.make C us []) (hb _ (Value.ref (s.heap.objs.size + 1) :: us) I2.kIn hl) r2 hq) fun r s' hq' => ?_))
  cases r with
  | error e => exact hx pins _ _ e s' I2 hq'
  | ok fl =>
    cases fl with
    | ret u =>
      obtain ⟨v, H', I3, rv, ev, q3⟩ := I2.after hq'
      subst ev
      exact ⟨rv, ⟨V.ref (s.heap.objs.size + 1), H', I3, rfl, q3⟩⟩
    | next => exact False.elim hq'
    | brk => exact False.elim hq'
    | cont => exact False.elim hq'
theorem pe_makeSD (M : Mk X.K C f) (F : FnOk X.prog X.w X.K X.mg X.base CX k f fd ps sp) (hr : Room (k + 1) X.A) (hg : Gl X x) (hm : X.mg x = some (.ref C)) (hb : Binds X.K fd ps ds) (hd : Vals dvs ds) (hx : ∀ σ, PassesAt CX X σ (E σ))
    (ha : PA X (e :: es) t) (hdb : (x == ("__debug__" : Str)) = false := by decide) (he : starEach (e :: es) X.env = (false, eval e X.env) :: starEach es X.env := by rfl) (hpl : (backTo pos (starEach es X.env)).any (·.1) = false := by rfl) :
    PE X (.Call (.Name x p) (e :: es) [] pos) (tMakeSD C sp dvs E t) := by
  refine ⟨fun pins s σ H Q I h => ?_⟩
  refine wpAny_Call_Name_kw (ld_glob I hg hm ?_ hdb)
  refine PySem.W.callWith_K (h₀ := X.base) I.ok.mod.kin M.kp (thn (ha.run pos pins s σ H _ I h) fun us s1 ⟨vs, H1, I1, r, q⟩ => ⟨I1.kIn, ?_⟩) he hpl
  exact run_makeSD M F hr hb hd (hx σ) I1 r q
end
/-- list + list, either may be locked -/
def rCatR : R2 := fun x y H Q => ∃ l b xs zs, x = .ref l ∧ y = .ref b ∧ Rd H l (.lst xs) ∧ Rd H b (.lst zs) ∧ xs.length + zs.length ≤ sizeLine ∧ ∀ p, H p = none → Q (.ref p) (upd H p (.lst (xs ++ zs)))
theorem op_catR {X : Cx} : OpR X (binaryOp .Add) rCatR := by
  intro pins s σ H x y v u Q I rx ry h
  obtain ⟨l, b, xs, zs, rfl, rfl, hH, hB, hz, q⟩ := h
  cases rx
  cases ry
  obtain ⟨z, its, n, r, e⟩ := hH.ok I.hok
  obtain ⟨z2, its2, n2, r2, e2⟩ := hB.ok I.hok
  have hl := r.length
  have hl2 := r2.length
  refine PySem.P.add_list e e2 ?_ (by rw [List.size_toArray, List.size_toArray]; omega)
  have ea : its.toArray ++ its2.toArray = (its ++ its2).toArray := by simp
  rw [ea]
  exact ⟨.ref _, _, I.lnew (t' := s.toks) (r.append r2) (by rw [List.length_append]; omega), rfl, q _ I.fresh⟩
/-- len of a text, a list, a tuple -/
def rLenAny (K : PySem.W.Frag) : List V → Hp → VK → Prop := fun xs H Q => Ml.rLenS xs H Q ∨ Ml.rLenSq K xs H Q
theorem call_lenAny {X : Cx} : CallR X (.builtin "len") (rLenAny X.K) := by
  intro pins s σ H xs us Q I r h
  rcases h with h | h
  · exact Ml.call_lenS pins s σ H xs us Q I r h
  · exact Ml.call_lenSq pins s σ H xs us Q I r h
section
variable {P : Program} {w : World} {K : PySem.W.Frag} {mg : Str → Option Value} {base : Heap} {x qual : Str} {params : Arguments} {body : List Stmt} {scope : Scope} {dvs : List V} {kws : List (Str × V)} {f : Addr} {fd : FuncData}
theorem FunD.ok0 {N ps : List Str} {k : Nat} {sp : Sp} (F : FunD K x qual params body scope dvs kws f fd) (S : FnScope N ps scope) (len : ∀ vs H Q E, sp vs H Q E → vs.length = ps.length)
    (hbody : ∀ (cdv : Value) (A : Around) (outer : List Env) (s : Shared) (H : Hp) (vs : List V) (Q : VK) (E : XK), Room k (A.deeper (envOfC qual scope s.heap.objs.size f cdv)) → sp vs H Q E →
      ∃ t, PSs (cxOf CX0 P w K mg base N qual scope f cdv A outer s H E).nox body t ∧ t { nx := fun _ H' => Q .non H', rt := Q } (start N vs) H) : FnOk P w K mg base CX0 (k + 1) f fd ps sp :=
  F.ok S len fun cdv A outer s H vs Q E hr hsp => by
    obtain ⟨t, h, q⟩ := hbody cdv A outer s H vs Q E hr hsp
    exact ⟨t, h.nox, q⟩
end
end L2
namespace Ml
open PySem L2
namespace R
variable {α β ρ : Type} {q : α → Prop} {e : Exc → Prop}
def noexc : R α → R α
  | .ok a => .ok a
  | _ => .bad
theorem wp_noexc {m : R α} {f : α → R β} {q : β → Prop} (h : wp ((noexc m).bind f) q e) : wp m (fun a => wp (f a) q e) (fun _ => False) := by
  cases m with
  | ok a => exact h
  | exc x => exact h.elim
  | bad => exact h.elim
def tryC : R α → (α → R β) → (Exc → R β) → R β
  | .ok a, k, _ => k a
  | .exc x, _, h => h x
  | .bad, _, _ => .bad
theorem wp_tryC {m : R α} {k : α → R β} {h : Exc → R β} {q : β → Prop} (w : wp (tryC m k h) q e) : wp m (fun a => wp (k a) q e) (fun x => wp (h x) q e) := by
  cases m <;> exact w
end R
/-- an except clause: known classes, those that it takes -/
def catchR {β : Type} (all subs : List Nat) (x : Exc) (a b : R β) : R β := if all.contains x.cls then (if subs.contains x.cls then a else b) else .bad
def contF {σ ρ β : Type} (k : σ → R β) (o : ρ → R β) : Fl σ ρ → R β
  | .go s => k s
  | .brk s => k s
  | .out r => o r
/-- an exception as it is wished for -/
def Eok (G : Gx) (x : Exc) (E : XK) (H : Hp) : Prop := E (.ref (G.cl x.cls)) none H
variable {G : Gx}
section
variable {σ σ' : St} {H : Hp} {L L' : List (Asn G)} {D : Ends} {Q : VK} {te ta tb : TE} {α β τ ρ : Type} {v w : V} {q : ρ → Prop} {e : Exc → Prop}
theorem imL_ints : ∀ (ns : List Int), imL (G := G) H (ns.map V.int) ns
  | [] => True.intro
  | n :: ns => ⟨rfl, imL_ints ns⟩
theorem read_script {a : Addr} {x : Script} (h : Im.im G H (.ref a) x) : ∃ vs, SqL G.K H a vs ∧ imL (G := G) H vs x.ns := ⟨_, sq_script h, imL_ints x.ns⟩
theorem k_catG [Im G α] {a b : Addr} {xs ys : List α} (hS : Sep H L) (h1 : ∃ vs, Rd H a (.lst vs) ∧ imL (G := G) H vs xs) (h2 : ∃ vs, Rd H b (.lst vs) ∧ imL (G := G) H vs ys) (z : xs.length + ys.length ≤ sizeLine)
    (k : ∀ p H', Sep H' (lstA p (xs ++ ys) :: L) → Q (.ref p) H') : rCatR (.ref a) (.ref b) H Q := by
  obtain ⟨vs, r1, m1⟩ := h1
  obtain ⟨ws, r2, m2⟩ := h2
  exact ⟨a, b, vs, ws, rfl, rfl, r1, r2, by rw [m1.len, m2.len]; exact z, fun p hp => k p _ (hS.newL hp (m1.app m2))⟩
theorem k_slG [Im G α] {a : Addr} {xs : List α} {lo hi : Option Int} (hS : Sep H L) (h : ∃ vs, SqL G.K H a vs ∧ imL (G := G) H vs xs)
    (k : ∀ p H', Sep H' (lstA p (cutL xs lo hi) :: L) → Q (.ref p) H') : rSlL G.K (.ref a) lo hi H Q := by
  obtain ⟨vs, h, m⟩ := h
  exact ⟨a, vs, rfl, h, fun p hp => k p _ (hS.newL hp (cutL_im m))⟩
theorem k_listG [Im G α] {a : Addr} {xs : List α} (hS : Sep H L) (h : ∃ vs, SqL G.K H a vs ∧ imL (G := G) H vs xs) (k : ∀ p H', Sep H' (lstA p xs :: L) → Q (.ref p) H') : rListSq G.K [.ref a] H Q := by
  obtain ⟨vs, h, m⟩ := h
  exact ⟨a, vs, rfl, .inl h, fun p hp => k p _ (hS.newL hp m)⟩
theorem ev_lenG [Im G α] {a : Addr} {xs : List α} (ha : Ev ta σ H (.ref a)) (h : ∃ vs, SqL G.K H a vs ∧ imL (G := G) H vs xs) : Ev (tCB (rLenSq G.K) (tCons ta tNil)) σ H (.int xs.length) := by
  obtain ⟨vs, s, m⟩ := h
  have := ev_lenL ha s
  rw [m.len] at this
  exact this
theorem k_lenG [Im G α] {a : Addr} {xs : List α} (h : ∃ vs, SqL G.K H a vs ∧ imL (G := G) H vs xs) (q : Q (.int xs.length) H) : rLenSq G.K [.ref a] H Q := by
  obtain ⟨vs, s, m⟩ := h
  exact ⟨a, vs, rfl, .inl s, by rw [m.len]; exact q⟩
theorem k_lstRaw {vs : List V} (hS : Sep H L) (z : vs.length ≤ sizeLine) (k : ∀ p H', Sep H' (cell p (.lst vs) :: L) → Q (.ref p) H') : lstK Q vs H := ⟨z, fun p hp => k p _ (hS.new hp rfl)⟩
/-- the rule on values alone -/
theorem ev_op2 {r : R2} {x y : V} (h : Ev (tOp r (tC x) (tC y)) [] H v) (q : Q v H) : r x y H Q := h Q q
theorem any_tupE {v : V} {x : Any} {xs : List Any} (h : Im.im G H v x) (e : x = .tup xs) : ∃ a vs, v = .ref a ∧ H a = some (.tup vs) ∧ imL (G := G) H vs xs := any_tup.mp (e ▸ h)
def lenA : Any → R Int
  | .str s => R.need (s.length ≤ sizeLine) (.ok s.length)
  | .tup xs => .ok xs.length
  | .lst xs => .ok xs.length
  | _ => .bad
theorem wp_lenA {x : Any} {f : Int → R ρ} (h : R.wp ((lenA x).bind f) q e) : ∃ n, lenA x = .ok n ∧ R.wp (f n) q e := by
  cases c : lenA x with
  | ok n => rw [c] at h; exact ⟨n, rfl, h⟩
  | exc y => exact absurd c (by cases x <;> simp [lenA, R.need] <;> split <;> simp)
  | bad => rw [c] at h; exact h.elim
theorem ev_lenA {x : Any} {n : Int} (ha : Ev ta σ H v) (h : Im.im G H v x) (hn : lenA x = .ok n) : Ev (tCB (rLenAny G.K) (tCons ta tNil)) σ H (.int n) := ev_cb (ea_cons ha ea_nil) fun Q q => by
  cases x with
  | str s =>
    rw [any_str] at h; subst h
    have hn : R.need (s.length ≤ sizeLine) (.ok (s.length : Int)) = .ok n := hn
    by_cases c : s.length ≤ sizeLine
    · rw [R.need_pos c] at hn; cases hn; exact .inl ⟨s, rfl, c, q⟩
    · unfold R.need at hn; rw [if_neg c] at hn; cases hn
  | tup xs =>
    rw [any_tup] at h
    obtain ⟨a, vs, rfl, g, m⟩ := h
    cases hn
    exact .inr ⟨a, vs, rfl, .inr (SqT.of g), by rw [m.len]; exact q⟩
  | lst xs =>
    rw [any_lsts] at h
    obtain ⟨a, vs, rfl, ⟨o, g⟩, m⟩ := h
    cases hn
    exact .inr ⟨a, vs, rfl, .inl (.inl (.inr ⟨o, g⟩)), by rw [m.len]; exact q⟩
  | _ => cases hn
theorem Sep.newI {C x dx : Addr} (h : Sep H L) (hx : H x = none) (hd : H dx = none) (ne : dx ≠ x) (n : ¬ G.fz C = some 0) : Sep (upd (upd H dx (.own x)) x (.ins C dx [])) (cell x (.ins C dx []) :: L) := by
  have h1 := h.more (same_new (o := HO.own x) hd)
  refine h1.new (o := .ins C dx []) (by rw [upd_ne (Ne.symm ne)]; exact hx) ?_
  show decide (G.fz C = some 0) = false
  exact decide_eq_false n
theorem c_fldG {K : PySem.W.Frag} {f : Str} (h : ta σ H fun x H1 => ∃ a C dx fs v, x = .ref a ∧ H1 a = some (.ins C dx fs) ∧ Cls K C ∧ NoAttr K C f ∧ fs.lookup f = some v ∧ Q v H1) : tFld K ta f σ H Q := h
theorem c_sfld {K : PySem.W.Frag} {f : Str} (h : tb σ H fun y H1 => ta σ H1 fun x H2 => ∃ a C dx fs, x = .ref a ∧ H2 a = some (.ins C dx fs) ∧ Cls K C ∧ NoAttr K C f ∧ fs.length < 1000 ∧ D.nx σ (upd H2 a (.ins C dx (putF f y fs)))) : sFld K ta tb f D σ H := h
theorem k_sfld {K : PySem.W.Frag} {i : Nat} {a C dx : Addr} {fs fs' : List (Str × V)} {f : Str} {y : V} (hS : Sep H L) (e : L[i]? = some (cell a (.ins C dx fs))) (c : Cls K C) (n : NoAttr K C f) (ef : putF f y fs = fs') (hl : fs.length < 1000)
    (np : per G (.ins C dx fs') = false) (eL : L.set i (cell a (.ins C dx fs')) = L') (k : ∀ H', Sep H' L' → D.nx σ H') :
    ∃ a' C' dx' fs'', V.ref a = .ref a' ∧ H a' = some (.ins C' dx' fs'') ∧ Cls K C' ∧ NoAttr K C' f ∧ fs''.length < 1000 ∧ D.nx σ (upd H a' (.ins C' dx' (putF f y fs''))) := by
  refine ⟨a, C, dx, fs, rfl, hS.getCell e, c, n, hl, ?_⟩
  rw [ef]
  refine k _ ?_
  subst eL
  exact hS.put e np rfl
theorem k_sfldP {K : PySem.W.Frag} {i : Nat} {a C dx : Addr} {fs fs' : List (Str × V)} {f : Str} {y : V} (hS : Sep H L) (e : L[i]? = some (cell a (.ins C dx fs))) (c : Cls K C) (n : NoAttr K C f) (ef : putF f y fs = fs') (hl : fs.length < 1000)
    (np : per G (.ins C dx fs') = true) (eL : L.eraseIdx i = L') (k : ∀ H', H' a = some (.ins C dx fs') → Stab G H H' → Sep H' L' → D.nx σ H') :
    ∃ a' C' dx' fs'', V.ref a = .ref a' ∧ H a' = some (.ins C' dx' fs'') ∧ Cls K C' ∧ NoAttr K C' f ∧ fs''.length < 1000 ∧ D.nx σ (upd H a' (.ins C' dx' (putF f y fs''))) := by
  refine ⟨a, C, dx, fs, rfl, hS.getCell e, c, n, hl, ?_⟩
  rw [ef]
  have h1 := hS.perm (pull_perm e)
  obtain ⟨fp, ⟨f1, f2, e0, ⟨e1, ho⟩, _⟩, _, h3⟩ := id h1
  subst e1
  obtain ⟨u, hu, nu⟩ := h3 a (by rw [e0]; simp)
  have eu : u = .ins C dx fs := by rw [ho] at hu; cases hu; rfl
  refine k _ upd_same (stab_put hu nu (by rw [eu]; rfl)) ?_
  subst eL
  exact h1.drop1 rfl
theorem c_callSD {sp : Sp} {dvs : List V} {E : St → XK} {t : TA} (h : t σ H fun vs H1 => sp (vs ++ dvs) H1 Q (E σ)) : tCallSD sp dvs E t σ H Q := h
theorem c_meth {C : Addr} {m : Str} {sp : Sp} {dvs : List V} {E : XK} {t : TA} (h : ta σ H fun x H1 => ∃ a dx fs, x = .ref a ∧ H1 a = some (.ins C dx fs) ∧ fs.lookup m = none ∧ t σ H1 fun vs H2 => sp (x :: (vs ++ dvs)) H2 Q E) : tMeth C m sp dvs E ta t σ H Q := h
theorem c_methSD {C : Addr} {m : Str} {sp : Sp} {dvs : List V} {E : St → XK} {t : TA} (h : ta σ H fun x H1 => ∃ a dx fs, x = .ref a ∧ H1 a = some (.ins C dx fs) ∧ fs.lookup m = none ∧ t σ H1 fun vs H2 => sp (x :: (vs ++ dvs)) H2 Q (E σ)) : tMethSD C m sp dvs E ta t σ H Q := h
theorem c_make {C : Addr} {sp : Sp} {dvs : List V} {E : XK} {t : TA} (h : t σ H fun vs H1 => ∀ x dx, H1 x = none → H1 dx = none → dx ≠ x → sp (.ref x :: (vs ++ dvs)) (upd (upd H1 dx (.own x)) x (.ins C dx [])) (fun v H2 => v = .non ∧ Q (.ref x) H2) E) : tMake C sp dvs E t σ H Q := h
theorem c_makeSD {C : Addr} {sp : Sp} {dvs : List V} {E : St → XK} {t : TA} (h : t σ H fun vs H1 => ∀ x dx, H1 x = none → H1 dx = none → dx ≠ x → sp (.ref x :: (vs ++ dvs)) (upd (upd H1 dx (.own x)) x (.ins C dx [])) (fun v H2 => v = .non ∧ Q (.ref x) H2) (E σ)) : tMakeSD C sp dvs E t σ H Q := h
theorem w_only {K : PySem.W.Frag} {c : Value} {ts : Addr → Value → Option Addr → TS} {Wout : WX} {all subs : List Nat} {x : Exc} {β : Type} {A B : R β} {q : β → Prop} {e : Exc → Prop}
    (ex : all.contains x.cls = true → PySem.W.exmOne K (.ref (G.cl x.cls)) c = some (subs.contains x.cls)) (hm : R.wp (catchR all subs x A B) q e)
    (h1 : R.wp A q e → ∀ a, H a = none → ts a (.ref (G.cl x.cls)) none D σ H) (h2 : R.wp B q e → Wout (.ref (G.cl x.cls)) none σ H) : Eok G x (WE (wOnly K c ts Wout D) σ) H := by
  unfold catchR at hm
  by_cases c1 : all.contains x.cls = true
  · rw [if_pos c1] at hm
    refine ⟨_, ex c1, fun z => ?_, fun z => ?_⟩
    · rw [if_pos z] at hm; exact h1 hm
    · rw [z, if_neg Bool.false_ne_true] at hm; exact h2 hm
  · rw [if_neg c1] at hm; exact hm.elim
theorem k_forF {J : It} {g : TG} {tb : TS} {im : Hp → V → α → Prop} {xs : List α} {f : τ → α → R (Fl τ ρ)} {β : Type} {rest : τ → R β} {o : ρ → R β} {q : β → Prop} {e : Exc → Prop} {s : τ} (I : τ → L2.St → Hp → Prop)
    (w : ∀ s, Wk J (I s) im xs) (h0 : I s σ H) (hm : R.wp ((forF f xs s).bind (contF rest o)) q e)
    (turn : ∀ (s : τ) (x : α) (v : V) (σ : L2.St) (H : Hp) (q' : Fl τ ρ → Prop) (N B : L2.St → Hp → Prop), I s σ H → im H v x → R.wp (f s x) q' e → (∀ s' σ' H', q' (.go s') → I s' σ' H' → N σ' H') → (∀ s' σ' H', q' (.brk s') → I s' σ' H' → B σ' H') → (∀ r, q' (.out r) → R.wp (o r) q e) →
      g v σ H fun σ2 H2 => tb (loopD D N B) σ2 H2)
    (done : ∀ s σ H, R.wp (rest s) q e → I s σ H → D.nx σ H) : forK g tb D σ J H :=
  for_walkF (D := D) (I := I) (k := fun r => R.wp (contF rest o r) q e) w h0 (R.wp_bind hm) (fun s x v σ H q' N B hI hv hw h1 h2 h3 => turn s x v σ H q' N B hI hv hw h1 h2 h3) (fun s σ H h hI => done s σ H h hI)
theorem k_gT {K : PySem.W.Frag} {n : Nat} {t : TGs} {a : Addr} {us : List V} {P : St → Hp → Prop} (h : H a = some (.tup us)) (hl : us.length = n := by rfl) (k : t us σ H P) : gTup K n t (.ref a) σ H P := ⟨a, us, rfl, SqT.of h, hl, k⟩
theorem k_gC {i : Nat} {u : TGs} {us : List V} {P : St → Hp → Prop} (e : σ.set i (some v) = σ') (k : u us σ' H P) : gCons (gName i) u (v :: us) σ H P := ⟨v, us, rfl, by show u us (σ.set i (some v)) H P; rw [e]; exact k⟩
theorem k_gE {P : St → Hp → Prop} (k : P σ H) : gNil [] σ H P := ⟨rfl, k⟩
end
section
variable {X : Cx} (K : PySem.W.Frag) (hK : X.K = K := by rfl)
include hK
theorem sl_tupK : SlR X (rSlT K) := by subst hK; exact sl_tup
theorem lenAnyK : CallR X (.builtin "len") (rLenAny K) := by subst hK; exact call_lenAny
theorem pg_tupK {es : List Expr} {k : Nat} {pos : Pos} {t : TGs} {n : Nat} (hc : X.calm = true) (h : PGs X es t) (hn : (assignEach es X.env).length = n := by rfl) (hst : (assignEach es X.env).findIdx? (·.1) = none := by rfl) : PG X (.Tuple es k pos) (gTup K n t) := by
  subst hK; exact pg_tup hc h hn hst
end
end Ml
namespace L2
open PySem PySem.Spec PyProof.Rows
/-- what a def promises that gets the pinned exception -/
structure FnE (P : Program) (w : World) (K : PySem.W.Frag) (mg : Str → Option Value) (base : Heap) (k : Nat) (f : Addr) (fd : FuncData) (ps : List Str) (sp : Addr × Obj → Sp) : Prop where
  len : ∀ p vs H Q E, sp p vs H Q E → vs.length = ps.length
  run : ∀ (A : Around) (outer : List Env) (s : Shared) (H : Hp) (args : Args) (us : List Value) (vs : List V) (Q : VK) (E : XK) (p : Addr × Obj), L2H.RoomH k A → L2H.PinOk outer H s p → Env0 P w K mg base A outer s H → BindsTo s fd args (ps.zip us) → Vals vs us → sp p vs H Q E →
    codeAny (model P w) A (.call (.ref f) args) (CR CX0 outer P w H s Q E) s
theorem Fun.okE {P : Program} {w : World} {K : PySem.W.Frag} {mg : Str → Option Value} {base : Heap} {x qual : Str} {st : Stmt} {f : Addr} {fd : FuncData} {N ps : List Str} {k : Nat} {sp : Addr × Obj → Sp} (F : Fun K x qual st f fd) (S : FnScope N ps (defScope st)) (len : ∀ p vs H Q E, sp p vs H Q E → vs.length = ps.length)
    (hbody : ∀ (cdv : Value) (A : Around) (outer : List Env) (s : Shared) (H : Hp) (vs : List V) (Q : VK) (E : XK) (p : Addr × Obj), L2H.RoomH k (A.deeper (envOfC qual (defScope st) s.heap.objs.size f cdv)) → sp p vs H Q E →
      ∃ t, PSs (L2H.cxH CX0 P w K mg base N qual (defScope st) f cdv A outer s H E p).nox (defBody st) t ∧ t { nx := fun _ H' => Q .non H', rt := Q } (start N vs) H) : FnE P w K mg base (k + 1) f fd ps sp := by
  obtain ⟨oc, od, kV, doc, pm, an, cdv, ct, osl, rfl, lk, hcd⟩ := F.ex
  refine ⟨len, fun A outer s H args us vs Q E p hr hpin e0 hb r hsp => ?_⟩
  have hl := len _ _ _ _ _ hsp
  have KX : K.In s.heap := e0.mod.kin.keeps fun b o e => (e0.bs b o e).1
  have lim : s.heap.NoLimit := e0.mod.nolimit.keeps fun b o e => (e0.bs b o e).1
  have hkind : ∀ y ∈ ps.zip us, (defScope st).names.lookup y.1 = some .local ∨ ((defScope st).names.lookup y.1 = some .cell ∧ ((cellsFrom (s.heap.objs.size + 1) (defScope st).names []).lookup y.1).isSome = true) := fun ⟨n, v⟩ hy => by
    rcases S.par n (List.of_mem_zip hy).1 with q | q
    · exact .inl q
    · exact .inr ⟨q, PySem.W.cellsFrom_some _ _ _ (.inl q)⟩
  refine codeAny_call_function hr.depth (KX _ _ lk) rfl S.co S.gen rfl (PySem.W.codeRec_of KX hcd) (hb _ _ _ _ ?_)
  refine wpAny_newFunctionEnv_cells S.kind hkind fun env he s1 x => ?_
  subst he
  refine ⟨lim.keeps x.toInCall.keep, codeAny_func ?_⟩
  obtain ⟨t, ht, hq⟩ := hbody cdv A outer s H vs Q E p (hr.deeper _) hsp
  have I : Inv (L2H.cxH CX0 P w K mg base N qual (defScope st) f cdv A outer s H E p) [] (L2.start N vs) H s1 := L2H.inv_startH S hpin e0 hl r x
  refine wpAny_mono (ht.nox.run [] s1 (L2.start N vs) H _ I hq) (fun fl s' hs => ?_) fun e s' hs => hs
  have fin : ∀ {σ' : St} {H' : Hp} {v : V} {u : Value}, Inv (L2H.cxH CX0 P w K mg base N qual (defScope st) f cdv A outer s H E p) [] σ' H' s' → RelV v u → Q v H' → CE outer P w H s Q u s' :=
    fun {σ' H' v u} J rv q => ⟨v, H', J.os, J.bare, J.base, J.hok, rv, q⟩
  cases fl with
  | ret u =>
    obtain ⟨v, σ', H', J, rv, q⟩ := hs
    exact fin J rv q
  | next =>
    obtain ⟨σ', H', J, q⟩ := hs
    exact fin (v := V.non) (u := Value.none) J rfl q
  | brk =>
    obtain ⟨_, _, _, q⟩ := hs
    exact False.elim q
  | cont =>
    obtain ⟨_, _, _, q⟩ := hs
    exact False.elim q
section
variable {X : Cx} {k : Nat} {f : Addr} {fd : FuncData} {ps : List Str} {sp : Addr × Obj → Sp} {x : Str} {q pos : Pos} {e : Expr} {es : List Expr} {t : TA} {p : Addr × Obj}
/-- f(e), e the exception that the suite holds at a -/
def tCallE (a : Addr) (cls : Value) (d : Option Addr) (sp : Addr × Obj → Sp) (t : TA) : TE := fun σ H Q => t σ H fun vs H1 => ∀ oe, Zc cls d oe → (∃ vs, oe.data = .fields vs) → sp (a, oe) vs H1 Q E0
theorem c_callE {a : Addr} {cls : Value} {d : Option Addr} {σ : St} {H : Hp} {Q : VK} (h : t σ H fun vs H1 => ∀ oe, Zc cls d oe → (∃ vs, oe.data = .fields vs) → sp (a, oe) vs H1 Q E0) : tCallE a cls d sp t σ H Q := h
theorem pe_callE {a : Addr} {cls : Value} {d : Option Addr} {oe : Obj} (hp : (a, oe) ∈ X.pn) (hz : Zc cls d oe) (hf : ∃ vs, oe.data = .fields vs) (F : FnE X.prog X.w X.K X.mg X.base k f fd ps sp) (hr : L2H.RoomH k X.A) (hg : Gl X x) (hm : X.mg x = some (.ref f)) (hk : PySem.W.keepIn X.K (.ref f) = true) (hb : Binds X.K fd ps [])
    (ha : PA X (e :: es) t) (hdb : (x == ("__debug__" : Str)) = false := by decide) (he : starEach (e :: es) X.env = (false, eval e X.env) :: starEach es X.env := by rfl) (hpl : (backTo pos (starEach es X.env)).any (·.1) = false := by rfl) :
    PE X (.Call (.Name x q) (e :: es) [] pos) (tCallE a cls d sp t) := by
  refine ⟨fun pins s σ H Q I h => ?_⟩
  refine wpAny_Call_Name_kw (ld_glob I hg hm ?_ hdb)
  refine PySem.W.callWith_K (h₀ := X.base) I.ok.mod.kin hk (thn (ha.run pos pins s σ H _ I h) fun us s1 ⟨vs, H1, I1, r, q⟩ => ⟨I1.kIn, ?_⟩) he hpl
  have q : sp (a, oe) vs H1 Q E0 := q oe hz hf
  have hl : us.length = ps.length := by rw [← r.length]; exact F.len _ _ _ _ _ q
  have b := hb s1 us I1.kIn (by rw [List.append_nil]; exact hl)
  rw [List.append_nil] at b
  have P1 := I1.pin (a, oe) (List.mem_append_left _ hp)
  have hpin : L2H.PinOk X.stack H1 s1 (a, oe) := ⟨P1.1, P1.2.1, fun hm => (List.mem_cons.mp (I1.stkSub a hm)).elim P1.2.2.1 P1.2.2.2.1, P1.2.2.2.2⟩
  refine wpAny_call (codeAny_mono (F.run X.A X.stack s1 H1 ⟨us, []⟩ us vs Q E0 (a, oe) hr hpin I1.env0 b r q) fun r s' hq => ?_)
  cases r with
  | error e => exact hq.elim
  | ok fl =>
    cases fl with
    | ret u => exact I1.after hq
    | next => exact False.elim hq
    | brk => exact False.elim hq
    | cont => exact False.elim hq
end
/-- isinstance(e, c), e a pinned exception -/
def rIsEB (K : PySem.W.Frag) (D a : Addr) : List V → Hp → VK → Prop := fun xs H Q => ∃ (c : V) (cv : Value) (b : Bool), xs = [.ref a, c] ∧ ClsV c cv ∧ PySem.W.kitOne K (.ref D) cv = some b ∧ Q (.bl b) H
theorem call_isP {X : Cx} (K : PySem.W.Frag) {D : Addr} {p : Addr × Obj} (hp : p ∈ X.pn) (C : ExcC K D) (hz : Zc (.ref D) none p.2) (hf : ∃ vs, p.2.data = .fields vs) (hK : X.K = K := by rfl) : CallR X (.builtin "isinstance") (rIsEB K D p.1) := by
  subst hK
  intro pins s σ H xs us Q I r h
  obtain ⟨c, cv, b, rfl, hcv, e, q⟩ := h
  cases r with
  | cons rx rr =>
    cases rr with
    | cons rt rr =>
      cases rr
      cases rx
      have ec := hcv.eq rt
      subst ec
      have hget := (I.pin p (List.mem_append_left _ hp)).1
      obtain ⟨vs, hv⟩ := hf
      have J : PySem.W.InstAt s.heap p.1 p.2 D none := by
        obtain ⟨pa, ⟨oc, od, oda, osl⟩⟩ := p
        obtain ⟨h1, h2⟩ := hz
        dsimp only at h1 h2 hv hget
        subst h1 h2 hv
        exact ⟨hget, rfl, rfl, trivial⟩
      exact PySem.W.kia_one (PySem.W.handS_kitx_exc C.hg C.hk C.hs C.hd C.ha C.hn C.ht C.hm) I.kIn J e (fun z => nomatch z) fun tk => ⟨.bl b, H, I.kept (t' := tk) fun _ _ z => z, rfl, q⟩
/-- xs.count(x), over data -/
def rCountD (K : PySem.W.Frag) : V → List V → Hp → VK → Prop := fun x xs H Q => ∃ (a : Addr) (y : V) (d : PyData) (ds : List PyData), x = V.ref a ∧ xs = [y] ∧ Dp K H (V.ref a) (.list ds) ∧ Dp K H y d ∧
  SeqAt.shaped (.list ds) = true ∧ SeqAt.shaped d = true ∧ Q (.int ((ds.countP fun y => PyData.eqv y d : Nat) : Int)) H
theorem mt_countD {X : Cx} (hu : X.A.units + 65 < cLine) : MtR X "list.count" (rCountD X.K) := by
  intro pins s σ H x xs v us Q I rx rxs h
  obtain ⟨a, y, d, ds, rfl, rfl, hl, hy, sl, sd, q⟩ := h
  cases rx
  cases rxs with
  | cons ry rt =>
    rename_i uy ut
    cases rt
    obtain ⟨bs, r1⟩ := Dp.reads I d y uy hy ry
    have hxs : PyData.canLayAll0 ds = true := SeqAt.canLay_of_shaped sl
    have hroom : X.A.units + 1 + min (PyData.depthAll ds) d.depth < cLine := room_in_shaped sd hu
    cases hl with
    | lst hs ha =>
      obtain ⟨its, rv, hL⟩ := I.list hs
      obtain ⟨as, h4⟩ := Dp.readsAll I ds _ its ha rv
      exact PySem.SeqAt.count_list_data hL.1.isList h4 r1 (PyData.plainAll_of_canLay0 _ hxs) (PyData.plain_of_canLay0 _ (SeqAt.canLay_of_shaped sd)) hroom ⟨.int ((ds.countP fun y => PyData.eqv y d : Nat) : Int), H, I.tok _, ⟨_, rfl⟩, q⟩
end L2
namespace Ml
open PySem PySem.Spec PyProof.Rows L2
variable {G : Gx}
/-- an exception that is pinned -/
def ExB (G : Gx) (all : List Nat) (p : Addr × Obj) (x : Exc) : Prop := Zc (.ref (G.cl x.cls)) none p.2 ∧ (∃ vs, p.2.data = .fields vs) ∧ all.contains x.cls = true
theorem ev_isX {a : Addr} {σ : L2.St} {H : Hp} {D : Addr} {ta tb : TE} {c : V} {cv : Value} {b : Bool} (ha : Ev ta σ H (.ref a)) (hb : Ev tb σ H c) (hc : ClsV c cv) (e : PySem.W.kitOne G.K (.ref D) cv = some b) :
    Ev (tCB (rIsEB G.K D a) (tCons ta (tCons tb tNil))) σ H (.bl b) := ev_cb (ea_cons ha (ea_cons hb ea_nil)) fun _ q => ⟨c, cv, b, rfl, hc, e, q⟩
theorem mt_countK {X : Cx} (K : PySem.W.Frag) (hu : X.A.units + 65 < cLine) (hK : X.K = K := by rfl) : MtR X "list.count" (rCountD K) := by subst hK; exact mt_countD hu
theorem huH {k : Nat} {A : Around} (r : L2H.RoomH k A) : A.units + 65 < cLine := by have := r.un; omega
theorem hotRoom {j k : Nat} {A : Around} {v : Option Value} (r : Room k A) (h : j ≤ k) : L2H.RoomH j (A.mark v) := ⟨(r.mono h).dp, (r.mono h).un⟩
section
variable {H : Hp} {σ σ' : L2.St} {D : Ends}
theorem w_asE {K : PySem.W.Frag} {c : Value} {i : Nat} {ts : Addr → Value → Option Addr → TS} {Wout : WX} {all subs : List Nat} {x : Exc} {β : Type} {A B : R β} {q : β → Prop} {e : Exc → Prop}
    (ex : all.contains x.cls = true → PySem.W.exmOne K (.ref (G.cl x.cls)) c = some (subs.contains x.cls)) (hm : R.wp (catchR all subs x A B) q e)
    (h1 : all.contains x.cls = true → R.wp A q e → ∀ a, H a = none → ts a (.ref (G.cl x.cls)) none { nx := fun σ' H' => D.nx (σ'.set i none) H', rt := D.rt, bk := fun σ' H' => D.bk (σ'.set i none) H', ct := fun σ' H' => D.ct (σ'.set i none) H' } (σ.set i (some (.ref a))) H)
    (h2 : R.wp B q e → Wout (.ref (G.cl x.cls)) none σ H) : Eok G x (WE (wAs K c i ts Wout D) σ) H := by
  unfold catchR at hm
  by_cases c1 : all.contains x.cls = true
  · rw [if_pos c1] at hm
    refine ⟨_, ex c1, fun z => ?_, fun z => ?_⟩
    · rw [if_pos z] at hm; exact h1 c1 hm
    · rw [z, if_neg Bool.false_ne_true] at hm; exact h2 hm
  · rw [if_neg c1] at hm; exact hm.elim
end
section
variable {α : Type} [Im G α] [DecidableEq α] [Lay α] [Pd G α] {H : Hp} {σ : L2.St} {Q : VK} {v w : V} {x y : α}
theorem countP_pd {xs : List α} {x : α} : (xs.map (Pd.pd G)).countP (fun y => PyData.eqv y (Pd.pd G x)) = xs.countP (fun y => decide (y = x)) := by
  rw [List.countP_map]
  congr 1
  funext y
  show PyData.eqv (Pd.pd G y) (Pd.pd G x) = _
  rw [Pd.eqv]
theorem k_count {a : Addr} {xs : List α} {x : α} (d1 : Dp G.K H (.ref a) (Pd.pd G xs)) (d2 : Dp G.K H w (Pd.pd G x)) (l1 : Lay.lay xs = true) (l2 : Lay.lay x = true) (d : Pd.dep G (List α) ≤ 64) (d0 : Pd.dep G α ≤ 64)
    (q : Q (.int ((xs.countP fun y => decide (y = x) : Nat) : Int)) H) : rCountD G.K (.ref a) [w] H Q :=
  ⟨a, w, _, _, rfl, rfl, d1, d2, shapedP (x := xs) l1 d, shapedP l2 d0, by rw [countP_pd]; exact q⟩
end
end Ml
namespace Ml
open PySem L2
section
variable {α β σ ρ : Type}
theorem forR_ok {f : σ → α → R σ} (I : List α → σ → Prop) : ∀ {xs : List α} {s : σ} (pre : List α), I pre s → (∀ p x q s, pre ++ xs = p ++ x :: q → I p s → ∃ s', f s x = .ok s' ∧ I (p ++ [x]) s') → ∃ s', forR f xs s = .ok s' ∧ I (pre ++ xs) s'
  | [], s, pre, h0, _ => ⟨s, rfl, by rw [List.append_nil]; exact h0⟩
  | x :: xs, s, pre, h0, hs => by
    obtain ⟨s1, e1, h1⟩ := hs pre x xs s rfl h0
    obtain ⟨s2, e2, h2⟩ := forR_ok I (xs := xs) (s := s1) (pre ++ [x]) h1 fun p y q s e => hs p y q s (by rw [← e]; simp)
    refine ⟨s2, ?_, by rw [List.append_assoc] at h2; exact h2⟩
    show (f s x).bind _ = _
    rw [e1, R.bind_ok]; exact e2
theorem forR_inv {f : σ → α → R σ} {xs : List α} {s : σ} (I : List α → σ → Prop) (h0 : I [] s) (hs : ∀ p x q s, xs = p ++ x :: q → I p s → ∃ s', f s x = .ok s' ∧ I (p ++ [x]) s') : ∃ s', forR f xs s = .ok s' ∧ I xs s' := by
  obtain ⟨s', h1, h2⟩ := forR_ok I (xs := xs) (s := s) [] h0 fun p x q s e => hs p x q s (by simpa using e)
  exact ⟨s', h1, by simpa using h2⟩
theorem forF_inv {f : σ → α → R (Fl σ ρ)} (I : List α → σ → Prop) : ∀ {xs : List α} {s : σ} (pre : List α), I pre s → (∀ p x q s, pre ++ xs = p ++ x :: q → I p s → ∃ s', f s x = .ok (.go s') ∧ I (p ++ [x]) s') → ∃ s', forF f xs s = .ok (.go s') ∧ I (pre ++ xs) s'
  | [], s, pre, h0, _ => ⟨s, rfl, by rw [List.append_nil]; exact h0⟩
  | x :: xs, s, pre, h0, hs => by
    obtain ⟨s1, e1, h1⟩ := hs pre x xs s rfl h0
    obtain ⟨s2, e2, h2⟩ := forF_inv I (xs := xs) (s := s1) (pre ++ [x]) h1 fun p y q s e => hs p y q s (by rw [← e]; simp)
    refine ⟨s2, ?_, by rw [List.append_assoc] at h2; exact h2⟩
    show (f s x).bind _ = _
    rw [e1, R.bind_ok]; exact e2
/-- the loop goes on to its end -/
theorem forF_keep {f : σ → α → R (Fl σ ρ)} {xs : List α} {s : σ} (I : σ → Prop) (h0 : I s) (hs : ∀ x s, x ∈ xs → I s → ∃ s', f s x = .ok (.go s') ∧ I s') : ∃ s', forF f xs s = .ok (.go s') ∧ I s' := by
  obtain ⟨s', h1, h2⟩ := forF_inv (fun _ s => I s) (xs := xs) (s := s) [] h0 fun p x q s e h => hs x s (by rw [List.nil_append] at e; rw [e]; simp) h
  exact ⟨s', h1, h2⟩
theorem compR_map {f : Unit → α → R (Unit × Option β)} {g : α → β} {xs : List α} (h : ∀ x, x ∈ xs → f () x = .ok ((), some (g x))) : compR f xs () = .ok ((), xs.map g) := by
  induction xs with
  | nil => rfl
  | cons x xs ih =>
    show (f () x).bind _ = _
    rw [h x (by simp), R.bind_ok, ih fun y hy => h y (by simp [hy])]
    rfl
theorem compR_filterMap {f : Unit → α → R (Unit × Option β)} {g : α → Option β} {xs : List α} (h : ∀ x, x ∈ xs → f () x = .ok ((), g x)) : compR f xs () = .ok ((), xs.filterMap g) := by
  induction xs with
  | nil => rfl
  | cons x xs ih =>
    show (f () x).bind _ = _
    rw [h x (by simp), R.bind_ok, ih fun y hy => h y (by simp [hy])]
    cases e : g x with
    | none => simp [e]
    | some y => simp [e]
/-- a comprehension that carries a state -/
theorem compR_keep {f : σ → α → R (σ × Option β)} {xs : List α} {s : σ} (I : σ → Prop) (P : β → Prop) (h0 : I s) (h : ∀ s x, x ∈ xs → I s → ∃ s' y, f s x = .ok (s', some y) ∧ I s' ∧ P y) : ∃ s' ys, compR f xs s = .ok (s', ys) ∧ I s' ∧ ys.length = xs.length ∧ ∀ y, y ∈ ys → P y := by
  induction xs generalizing s with
  | nil => exact ⟨s, [], rfl, h0, rfl, by simp⟩
  | cons x xs ih =>
    obtain ⟨s1, y, e, h1, p⟩ := h s x (by simp) h0
    obtain ⟨s2, ys, e2, h2, l, q⟩ := ih h1 fun s z hz => h s z (by simp [hz])
    refine ⟨s2, y :: ys, ?_, h2, by simp [l], fun z hz => ?_⟩
    · show (f s x).bind _ = _
      rw [e, R.bind_ok, e2]; rfl
    · rcases List.mem_cons.mp hz with rfl | hz
      · exact p
      · exact q z hz
theorem idxR_mem {xs : List α} {i : Int} (h0 : 0 ≤ i) (h1 : i < xs.length) : ∃ x, idxR xs i = .ok x ∧ x ∈ xs ∧ xs[i.toNat]? = some x := by
  obtain ⟨x, h, _⟩ := atI_ok h0 h1
  exact ⟨x, idxR_ok h0 h, List.mem_of_getElem? h, h⟩
theorem ixR_ok {xs : List α} {i : Int} (h0 : 0 ≤ i) (h1 : i < xs.length) : ixR xs i = .ok i.toNat := by
  unfold ixR ixN
  rw [if_pos h0, if_pos h1]
theorem cutL_sub {xs : List α} {lo hi : Option Int} : (cutL xs lo hi).Sublist xs := (List.take_sublist _ _).trans (List.drop_sublist _ _)
theorem cutL_mem {xs : List α} {lo hi : Option Int} {x : α} (h : x ∈ cutL xs lo hi) : x ∈ xs := cutL_sub.subset h
theorem cutL_len {xs : List α} {lo hi : Option Int} : (cutL xs lo hi).length ≤ xs.length := cutL_sub.length_le
theorem sIx_nn {n d : Nat} {i : Int} (h : 0 ≤ i) : HT.sIx n d (some i) = min i.toNat n := by
  show (if i < 0 then (i + (n : Int)).toNat else min i.toNat n) = _
  rw [if_neg (by omega)]
theorem cutL_to {xs : List α} {i : Int} (h : 0 ≤ i) : cutL xs none (some i) = xs.take i.toNat := by
  unfold cutL
  rw [sIx_nn h, HT.sIx_none, List.drop_zero, Nat.sub_zero]
  by_cases c : i.toNat ≤ xs.length
  · rw [Nat.min_eq_left c]
  · rw [Nat.min_eq_right (by omega), List.take_of_length_le (Nat.le_refl _), List.take_of_length_le (by omega)]
theorem cutL_from {xs : List α} {i : Int} (h : 0 ≤ i) : cutL xs (some i) none = xs.drop i.toNat := by
  unfold cutL
  rw [sIx_nn h, HT.sIx_none]
  by_cases c : i.toNat ≤ xs.length
  · rw [Nat.min_eq_left c, List.take_of_length_le (by rw [List.length_drop]; exact Nat.le_refl _)]
  · rw [Nat.min_eq_right (by omega), List.drop_length, List.drop_of_length_le (by omega), List.take_nil]
end
theorem len_app (a b : Str) : (a ++ b).length = a.length + b.length := by
  show (a.cps ++ b.cps).size = a.cps.size + b.cps.size
  rw [Array.size_append]
theorem tl_app (a b : Str) : (a ++ b).cps.toList = a.cps.toList ++ b.cps.toList := by
  show (a.cps ++ b.cps).toList = _
  rw [Array.toList_append]
theorem len_tl (x : Str) : x.length = x.cps.toList.length := by simp [Str.length]
theorem str_ext {x y : Str} (h : x.cps.toList = y.cps.toList) : x = y := Str.ext' (Array.toList_inj.mp h)
/-- all signs below 128 -/
def Asc (x : Str) : Prop := ∀ c, c ∈ x.cps.toList → c < 128
theorem Asc.app {a b : Str} (ha : Asc a) (hb : Asc b) : Asc (a ++ b) := fun c hc => by
  rw [tl_app] at hc
  rcases List.mem_append.mp hc with h | h
  · exact ha c h
  · exact hb c h
theorem Asc.lit {x : Str} (h : x.cps.toList.all (· < 128) = true) : Asc x := fun c hc => by
  have := List.all_eq_true.mp h c hc
  simpa using this
theorem Asc.lay {x : Str} (h : Asc x) : (Lay.lay x : Bool) = true := by
  show PyData.strOk x = true
  unfold PyData.strOk
  rw [← Array.all_toList]
  exact List.all_eq_true.mpr fun c hc => decide_eq_true (Nat.lt_trans (h c hc) (by decide))
theorem joinL_nil : ∀ ls : List (List Nat), TL.joinL [] ls = ls.flatten
  | [] => rfl
  | [l] => by simp [TL.joinL]
  | l :: m :: r => by
    rw [TL.joinL, joinL_nil (m :: r)]; simp
theorem join_nil (ys : List Str) : (Txt.join ("" : Str) ys).cps.toList = (ys.map fun y => y.cps.toList).flatten := by
  rw [TL.join_eq]
  have ej := TL.tl_join ("" : Str) ys
  have e0 : TL.tl ("" : Str) = [] := by decide
  rw [e0, joinL_nil] at ej
  exact ej
theorem len_join_nil (ys : List Str) : (Txt.join ("" : Str) ys).length = (ys.map (·.length)).sum := by
  rw [len_tl, join_nil, List.length_flatten, List.map_map]
  exact congrArg List.sum (List.map_congr_left fun y _ => (len_tl y).symm)
theorem Asc.join {ys : List Str} (h : ∀ y, y ∈ ys → Asc y) : Asc (Txt.join ("" : Str) ys) := fun c hc => by
  rw [join_nil] at hc
  obtain ⟨l, hl, hc⟩ := List.mem_flatten.mp hc
  obtain ⟨y, hy, rfl⟩ := List.mem_map.mp hl
  exact h y hy c hc
theorem lower_tl {x : Str} (h : Asc x) : (Txt.lower x).cps.toList = x.cps.toList.map PyProof.Rows.lo1 := by
  rw [PyProof.Rows.lower_ascii h]; simp
theorem lo1_lt {c : Nat} (h : c < 128) : PyProof.Rows.lo1 c < 128 := by unfold PyProof.Rows.lo1; split <;> omega
theorem Asc.lower {x : Str} (h : Asc x) : Asc (Txt.lower x) := fun c hc => by
  rw [lower_tl h] at hc
  obtain ⟨d, hd, rfl⟩ := List.mem_map.mp hc
  exact lo1_lt (h d hd)
theorem len_sg (c : Nat) : (sg c).length = 1 := rfl
theorem cutS_tl (z : Str) (lo hi : Option Int) : (cutS z lo hi).cps.toList = cutL z.cps.toList lo hi := by
  show ((cutS z lo hi).cps).toList = _
  unfold cutS cutL
  rw [← len_tl]
theorem cutS_asc {x : Str} {a b : Option Int} (h : Asc x) : Asc (cutS x a b) := fun c hc => h c (by
  rw [cutS_tl] at hc
  exact cutL_mem hc)
theorem cutS_len2 {x : Str} {n : Int} (h : 0 ≤ n) : (cutS x none (some n)).length + (cutS x (some n) none).length ≤ x.length := by
  rw [len_tl, len_tl, len_tl, cutS_tl, cutS_tl, cutL_to h, cutL_from h, List.length_take, List.length_drop]; omega
theorem log2_small {i : Int} (h0 : -1000000000000 < i) (h1 : i < 1000000000000) : i.natAbs.log2 < 1920 := by
  have h : i.natAbs < 2 ^ 40 := by omega
  by_cases z : i.natAbs = 0
  · rw [z]; decide
  · exact Nat.lt_trans ((Nat.log2_lt z).mpr h) (by decide)
theorem tl_num (n : Nat) : (Str.ofString (toString ((n : Nat) : Int))).cps.toList = TL.numL n := TL.tl_num n
end Ml
namespace Ml
open PySem L2
def Ok {α : Type} (m : R α) (P : α → Prop) : Prop := ∃ a, m = .ok a ∧ P a
namespace Ok
variable {α β σ ρ : Type} {P : ρ → Prop}
theorem ret {a : ρ} (h : P a) : Ok (.ok a) P := ⟨a, rfl, h⟩
theorem bind {m : R α} {f : α → R ρ} {Q : α → Prop} (h : Ok m Q) (k : ∀ a, Q a → Ok (f a) P) : Ok (m.bind f) P := by
  obtain ⟨a, e, q⟩ := h
  rw [e, R.bind_ok]; exact k a q
theorem bindE {m : R α} {f : α → R ρ} {a : α} (h : m = .ok a) (k : Ok (f a) P) : Ok (m.bind f) P := by
  rw [h, R.bind_ok]; exact k
theorem lets {a : α} {f : α → R ρ} (k : Ok (f a) P) : Ok ((R.ok a).bind f) P := k
theorem name {a : α} {f : α → R ρ} (k : ∀ y, y = a → Ok (f y) P) : Ok ((R.ok a).bind f) P := k a rfl
theorem need {p : Prop} [Decidable p] {m : R ρ} (h : p) (k : Ok m P) : Ok (R.need p m) P := by rw [R.need_pos h]; exact k
theorem ite {c : Prop} [Decidable c] {a b : R ρ} (h1 : c → Ok a P) (h2 : ¬ c → Ok b P) : Ok (if c then a else b) P := by
  by_cases h : c
  · rw [if_pos h]; exact h1 h
  · rw [if_neg h]; exact h2 h
theorem ifT {c : Prop} [Decidable c] {a b : R ρ} (h : c) (k : Ok a P) : Ok (if c then a else b) P := by rw [if_pos h]; exact k
theorem ifF {c : Prop} [Decidable c] {a b : R ρ} (h : ¬ c) (k : Ok b P) : Ok (if c then a else b) P := by rw [if_neg h]; exact k
theorem mono {Q : ρ → Prop} {m : R ρ} (h : Ok m Q) (k : ∀ a, Q a → P a) : Ok m P := by
  obtain ⟨a, e, q⟩ := h
  exact ⟨a, e, k a q⟩
theorem eq {m : R ρ} {v : ρ} (h : Ok m (· = v)) : m = .ok v := by
  obtain ⟨a, e, q⟩ := h
  rw [e, q]
theorem idx {xs : List α} {i : Int} {f : α → R ρ} (h0 : 0 ≤ i) (h1 : i < xs.length) (k : ∀ x, x ∈ xs → xs[i.toNat]? = some x → Ok (f x) P) : Ok ((idxR xs i).bind f) P := by
  obtain ⟨x, e, m, g⟩ := idxR_mem h0 h1
  rw [e, R.bind_ok]; exact k x m g
theorem ix {xs : List α} {i : Int} {f : Nat → R ρ} (h0 : 0 ≤ i) (h1 : i < xs.length) (k : Ok (f i.toNat) P) : Ok ((ixR xs i).bind f) P := by
  rw [ixR_ok h0 h1, R.bind_ok]; exact k
theorem forI {f : σ → α → R σ} {xs : List α} {s : σ} {rest : σ → R ρ} (I : List α → σ → Prop) (h0 : I [] s) (hs : ∀ p x q s, xs = p ++ x :: q → I p s → Ok (f s x) (I (p ++ [x]))) (k : ∀ s, I xs s → Ok (rest s) P) : Ok ((forR f xs s).bind rest) P :=
  bind (forR_inv I h0 hs) k
theorem forFK {τ : Type} {f : σ → α → R (Fl σ τ)} {xs : List α} {s : σ} {rest : Fl σ τ → R ρ} (I : σ → Prop) (h0 : I s) (hs : ∀ x s, x ∈ xs → I s → Ok (f s x) (fun r => ∃ s', r = .go s' ∧ I s')) (k : ∀ s, I s → Ok (rest (.go s)) P) : Ok ((forF f xs s).bind rest) P := by
  obtain ⟨s', e, h⟩ := forF_keep (f := f) (xs := xs) I h0 fun x s hx hI => by
    obtain ⟨r, e, s', rfl, h⟩ := hs x s hx hI
    exact ⟨s', e, h⟩
  exact bindE e (k s' h)
theorem forFI {τ : Type} {f : σ → α → R (Fl σ τ)} {xs : List α} {s : σ} {rest : Fl σ τ → R ρ} (I : List α → σ → Prop) (h0 : I [] s) (hs : ∀ p x q s, xs = p ++ x :: q → I p s → Ok (f s x) (fun r => ∃ s', r = .go s' ∧ I (p ++ [x]) s')) (k : ∀ s, I xs s → Ok (rest (.go s)) P) : Ok ((forF f xs s).bind rest) P := by
  obtain ⟨s', e, h⟩ := forF_inv (f := f) (xs := xs) I [] h0 fun p x q s hx hI => by
    obtain ⟨r, e, s', rfl, h⟩ := hs p x q s (by simpa using hx) hI
    exact ⟨s', e, h⟩
  exact bindE e (k s' (by simpa using h))
/-- .. whose items are told -/
theorem compM {f : Unit → α → R (Unit × Option β)} {xs : List α} {rest : Unit × List β → R ρ} (g : α → β) (h : ∀ x, x ∈ xs → Ok (f () x) (fun r => r.2 = some (g x))) (k : Ok (rest ((), xs.map g)) P) : Ok ((compR f xs ()).bind rest) P := by
  refine bindE (compR_map (g := g) fun x hx => ?_) k
  obtain ⟨r, e, e2⟩ := h x hx
  rw [e, ← e2]
theorem compF {f : Unit → α → R (Unit × Option β)} {xs : List α} {rest : Unit × List β → R ρ} (g : α → Option β) (h : ∀ x, x ∈ xs → Ok (f () x) (fun r => r.2 = g x)) (k : Ok (rest ((), xs.filterMap g)) P) : Ok ((compR f xs ()).bind rest) P := by
  refine bindE (compR_filterMap (g := g) fun x hx => ?_) k
  obtain ⟨r, e, e2⟩ := h x hx
  rw [e, ← e2]
end Ok
theorem pre_lt {α : Type} {xs p q : List α} {x : α} (e : xs = p ++ x :: q) : p.length < xs.length := by
  rw [e, List.length_append, List.length_cons]; omega
theorem lt_line {n m : Nat} (h : n ≤ m) (hm : m < 16777216) : n < sizeLine := Nat.lt_of_le_of_lt h hm
theorem le_line {n : Nat} (h : n ≤ 16777216) : n ≤ sizeLine := h
end Ml
namespace Ml
open PySem PySem.Spec PyProof.Rows L2
variable {G : Gx}
/-- a text, n times -/
def repS (a : Str) (n : Nat) : Str := ⟨(List.replicate n a.cps).foldl (· ++ ·) #[]⟩
theorem rep_tl (a : Str) (n : Nat) : (repS a n).cps.toList = (List.replicate n a.cps.toList).flatten := by
  have g : ∀ (n : Nat) (z : Array Nat), ((List.replicate n a.cps).foldl (· ++ ·) z).toList = z.toList ++ (List.replicate n a.cps.toList).flatten := by
    intro n
    induction n with
    | zero => intro z; simp
    | succ n ih => intro z; simp [List.replicate_succ, ih]
  show ((List.replicate n a.cps).foldl (· ++ ·) #[]).toList = _
  rw [g]; simp
theorem rep_len (a : Str) (n : Nat) : (repS a n).length = a.length * n := by
  rw [len_tl, rep_tl, len_tl]; simp [Nat.mul_comm]
def rRepS : R2 := fun x y H Q => ∃ (a : Str) (n : Int), x = .str a ∧ y = .int n ∧ -(2 ^ 62) ≤ n ∧ a.length * n.toNat ≤ sizeLine ∧ n < 2 ^ 62 ∧ Q (.str (repS a n.toNat)) H
theorem op_repS {X : Cx} : OpR X (binaryOp .Mult) rRepS := by
  intro pins s σ H x y v u Q I rx ry h
  obtain ⟨a, n, rfl, rfl, h1, h2, h3, q⟩ := h
  obtain ⟨t, rfl⟩ := rx
  obtain ⟨t2, rfl⟩ := ry
  refine PySem.P.mul_str (by rw [decide_eq_false (by omega), decide_eq_false (by omega)]; rfl) (fun z1 z2 => ?_) (fun z1 z2 => ?_) ?_
  · have hn : 0 < n := by omega
    intro z
    have h4 : (a.length : Int) * n ≤ 2 ^ 63 - 1 := by
      have e : ((a.length * n.toNat : Nat) : Int) = (a.length : Int) * n := by
        rw [Int.natCast_mul, Int.toNat_of_nonneg (by omega)]
      have := sizeLine_eq
      omega
    have := (Int.le_ediv_iff_mul_le hn).mpr h4
    omega
  · exact decide_eq_false (Nat.not_lt.mpr h2)
  · by_cases z : n < 1
    · rw [if_pos z]
      have e : n.toNat = 0 := by omega
      rw [e] at q
      exact ⟨by decide, ⟨.str Str.empty, H, I.tok _, ⟨_, rfl⟩, q⟩⟩
    · rw [if_neg z]
      by_cases c : (n == 1 || a.length == 0) = true
      · rw [if_pos c]
        have e : repS a n.toNat = a := by
          apply str_ext
          rw [rep_tl]
          rw [Bool.or_eq_true] at c
          rcases c with c | c
          · have : n = 1 := by simpa using c
            subst this; simp
          · have : a.length = 0 := by simpa using c
            have : a.cps.toList = [] := List.eq_nil_of_length_eq_zero (by rw [← len_tl]; exact this)
            rw [this]; simp
        rw [e] at q
        exact ⟨.str a, H, I, ⟨_, rfl⟩, q⟩
      · rw [if_neg c]
        exact ⟨by show (repS a n.toNat).length ≤ sizeLine; rw [rep_len]; exact h2, ⟨.str (repS a n.toNat), H, I.tok _, ⟨_, rfl⟩, q⟩⟩
theorem ev_repS {σ : L2.St} {H : Hp} {ta tb : TE} {a : Str} {n : Int} (ha : Ev ta σ H (.str a)) (hb : Ev tb σ H (.int n)) (h : a.length * n.toNat ≤ sizeLine ∧ -(2 ^ 62) ≤ n ∧ n < 2 ^ 62) : Ev (tOp rRepS ta tb) σ H (.str (repS a n.toNat)) :=
  ev_op ha hb fun Q q => ⟨a, n, rfl, rfl, h.2.1, h.1, h.2.2, q⟩
/-- x is None, of a thing of any sort -/
def Any.isN : Any → Bool
  | .non => true
  | _ => false
theorem isN_of {H : Hp} {v : V} {x : Any} (h : Im.im G H v x) : decide (v = .non) = Any.isN x := by
  have h : imAny H v x := h
  cases x with
  | non => rw [imAny] at h; subst h; rfl
  | str s => rw [imAny] at h; subst h; rfl
  | int s => rw [imAny] at h; subst h; rfl
  | bl s => rw [imAny] at h; subst h; rfl
  | tup s => rw [imAny] at h; obtain ⟨a, vs, rfl, _⟩ := h; rfl
  | lst s => rw [imAny] at h; obtain ⟨a, vs, rfl, _⟩ := h; rfl
  | oth s => rw [imAny] at h; obtain ⟨a, o, rfl, _⟩ := h; rfl
theorem ev_notN {σ : L2.St} {H : Hp} {ta : TE} {v : V} {x : Any} (ha : Ev ta σ H v) (h : Im.im G H v x) : Ev (tNotN ta) σ H (.bl (!Any.isN x)) := fun Q q => ha _ (by rw [isN_of h]; exact q)
end Ml
namespace PySem.W
open PySem PySem.Spec PySem.Calls PyProof.Rows
theorem kit_own {K : Frag} {i j : Addr} {b : Bool} (hdct : hasDictIn K j = true) (ht : typeIn K (.ref j) = some (.type "type")) (h : subIn K (.ref i) (.ref j) = some b) (hn : b = true ∨ ¬ i = j) : kitOne K (.ref i) (.ref j) = some b := by
  obtain ⟨cd, hc, _⟩ := any_some hdct
  have e2 : ((clsIn K j).isSome && typeIn K (.ref j) == some (.type "type")) = true := by rw [hc, ht] <;> rfl
  have e3 : kitCls K (.ref i) (.ref j) = some b := by
    show (if ((clsIn K j).isSome && typeIn K (.ref j) == some (.type "type")) = true then subIn K (.ref i) (.ref j) else none) = some b
    rw [if_pos e2]; exact h
  unfold kitOne
  split
  · next q =>
    rcases hn with rfl | hn
    · rfl
    · have : Value.ref i = Value.ref j := eq_of_beq q
      exact absurd (by injection this) hn
  · exact e3
theorem kit_val {K : Frag} {i : Addr} {b : Bool} (h : subIn K (.ref i) (.type "ValueError") = some b) : kitOne K (.ref i) (.type "ValueError") = some b := by
  unfold kitOne
  split
  · next q =>
    have : Value.ref i = Value.type "ValueError" := eq_of_beq q
    cases this
  · show (if kitMeta "ValueError" = true then subIn K (.ref i) (.type "ValueError") else none) = some b
    rw [if_pos (by decide +kernel)]; exact h
end PySem.W
namespace Ml
open PySem PySem.Spec PyProof.Rows L2
variable {G : Gx}
inductive StV where
  | i (n : Int) | s (x : Script)
def stIm (G : Gx) (H : Hp) (v : V) : StV → Prop
  | .i n => v = .int n
  | .s s => Im.im G H v s
theorem stIm_st {H H' : Hp} {v : V} {x : StV} (h : stIm G H v x) (st : Stab G H H') : stIm G H' v x := by
  cases x with
  | i n => exact h
  | s s =>
    have h : Im.im G H v s := h
    exact (Im.st h st : Im.im G H' v s)
instance stvI : Im G StV := ⟨stIm G, fun h s => stIm_st h s⟩
def stL (x : T3 Int Script Int) : List StV := [StV.i x.a, StV.s x.b, StV.i x.c]
@[reducible] def stA (p : Addr) (x : T3 Int Script Int) : Asn G := lstA p (stL x)
theorem st_get {H : Hp} {L : List (Asn G)} {i : Nat} {p : Addr} {x : T3 Int Script Int} (hS : Sep H L) (e : L[i]? = some (stA p x)) : ∃ ad, SqL G.K H p [.int x.a, .ref ad, .int x.c] ∧ Im.im G H (.ref ad) x.b := by
  obtain ⟨vs, h, m⟩ := hS.lst e
  have hl := m.len
  cases vs with
  | nil => cases hl
  | cons v1 vs =>
    cases vs with
    | nil => cases hl
    | cons v2 vs =>
      cases vs with
      | nil => cases hl
      | cons v3 vs =>
        cases vs with
        | cons v4 vs => cases hl
        | nil =>
          obtain ⟨h1, h2, h3, _⟩ := m
          have h1 : v1 = .int x.a := h1
          have h3 : v3 = .int x.c := h3
          have h2 : Im.im G H v2 x.b := h2
          obtain ⟨ad, e2, h4⟩ := im_script h2
          subst h1 h3 e2
          exact ⟨ad, .inl (.inl h), h2⟩
theorem st_im {H : Hp} {v : V} {x : Script} (h : Im.im G H v x) : Im.im G H v (StV.s x) := h
end Ml
namespace L2
open PySem PySem.Spec PyProof.Rows
section
variable {prog : Program} {w : World} {A : Around} {E : Value → Shared → Prop} {s : Shared}
theorem cat_tupE0 {t b : Addr} {ws : List Value} {Q : Value → Shared → Prop} (ht : IsTup s.heap t #[]) (hb : IsTup s.heap b ws.toArray) (h : Q (.ref b) s) : wpAny (model prog w) A (binaryOp .Add (.ref t) (.ref b)) Q E s := by
  obtain ⟨⟨cls, dd, data, sl⟩, ho, hc, n, hd⟩ := id ht
  obtain ⟨⟨cls2, dd2, data2, sl2⟩, ho2, hc2, n2, hd2⟩ := id hb
  simp only at hc hd hc2 hd2
  subst hc hd hc2 hd2
  exact PySem.concat_meets ⟨_, ho, rfl⟩ ⟨_, ho2, rfl⟩ noFill_tuple_add seq_tuple_add PySem.F.slot_tuple_add PySem.F.entry_tuple_add (PySem.F.args_tuple_add_2 _ _)
    (tuple_addW0 t b #[] ws.toArray n n2 dd dd2 sl sl2 rfl) ⟨ho, ho2, h⟩
end
/-- t + u, of any lengths -/
def rCatE (K : PySem.W.Frag) : R2 := fun x y H Q => ∃ a b xs ys, x = .ref a ∧ y = .ref b ∧ SqT K H a xs ∧ SqT K H b ys ∧ xs.length + ys.length ≤ sizeLine ∧
  (xs = [] → Q (.ref b) H) ∧ (xs ≠ [] → ys = [] → Q (.ref a) H) ∧ (xs ≠ [] → ys ≠ [] → ∀ p, H p = none → Q (.ref p) (upd H p (.tup (xs ++ ys))))
theorem op_catE {X : Cx} : OpR X (binaryOp .Add) (rCatE X.K) := by
  intro pins s σ H x y v u Q I rx ry h
  obtain ⟨a, b, xs, ys, rfl, rfl, ha, hb, hz, q0, q1, q2⟩ := h
  by_cases hx : xs = []
  · cases rx
    cases ry
    obtain ⟨its, r1, p1, _⟩ := I.tuple ha
    obtain ⟨its2, r2, p2, _⟩ := I.tuple hb
    have e : its = [] := r1.nil_iff.mpr hx
    subst e
    exact cat_tupE0 p1 p2 ⟨.ref b, H, I, rfl, q0 hx⟩
  · exact op_catT pins s σ H (.ref a) (.ref b) v u Q I rx ry ⟨a, b, xs, ys, rfl, rfl, ha, hb, hx, hz, q1 hx, q2 hx⟩
end L2
namespace Ml
open PySem PySem.Spec PyProof.Rows L2
variable {G : Gx} {H : Hp} {L : List (Asn G)} {Q : VK}
theorem catAK {X : Cx} (K : PySem.W.Frag) (hK : X.K = K := by rfl) : OpR X (binaryOp .Add) (rCatE K) := by subst hK; exact op_catE
theorem imL_nil_iff {vs : List V} {xs : List Any} (m : imL (G := G) H vs xs) : vs = [] ↔ xs = [] := by
  have := m.len
  cases vs <;> cases xs <;> simp_all
theorem k_catA {v w : V} {xs ys : List Any} (hS : Sep H L) (h1 : Im.im G H v (Any.tup xs)) (h2 : Im.im G H w (Any.tup ys)) (hl : xs.length + ys.length ≤ sizeLine)
    (k : ∀ v' H', Sep H' (imA v' (Any.tup (xs ++ ys)) :: L) → Q v' H') : rCatE G.K v w H Q := by
  obtain ⟨a, us, rfl, g1, m1⟩ := any_tup.mp h1
  obtain ⟨b, ws, rfl, g2, m2⟩ := any_tup.mp h2
  refine ⟨a, b, us, ws, rfl, rfl, SqT.of g1, SqT.of g2, by rw [m1.len, m2.len]; exact hl, fun z => k _ _ (hS.addIm ?_), fun _ z => k _ _ (hS.addIm ?_), fun _ _ p hp => k _ _ ?_⟩
  · have := (imL_nil_iff m1).mp z
    rw [this, List.nil_append]; exact h2
  · have := (imL_nil_iff m2).mp z
    rw [this, List.append_nil]; exact h1
  · refine (hS.more (same_new hp)).addIm (any_tup.mpr ⟨p, _, rfl, upd_same, ?_⟩)
    exact (m1.app m2).st (.of_same (same_new hp))
theorem k_slA {v : V} {xs : List Any} {lo hi : Option Int} (hS : Sep H L) (h1 : Im.im G H v (Any.tup xs)) (n : ¬ (HT.sIx xs.length 0 lo = 0 ∧ HT.sIx xs.length xs.length hi = xs.length))
    (k : ∀ v' H', Sep H' (imA v' (Any.tup (cutL xs lo hi)) :: L) → Q v' H') : rSlT G.K v lo hi H Q := by
  obtain ⟨a, us, rfl, g1, m1⟩ := any_tup.mp h1
  refine ⟨a, us, rfl, SqT.of g1, by rw [m1.len]; exact n, fun p hp => k _ _ ((hS.more (same_new hp)).addIm (any_tup.mpr ⟨p, _, rfl, upd_same, ?_⟩))⟩
  exact (cutL_im m1).st (.of_same (same_new hp))
theorem tupE {v : V} {x : Any} {xs : List Any} (h : Im.im G H v x) (e : x = .tup xs) : Im.im G H v (Any.tup xs) := e ▸ h
theorem k_listA {v : V} {xs : List Any} (hS : Sep H L) (h1 : Im.im G H v (Any.tup xs)) (k : ∀ p H', Sep H' (lstA p xs :: L) → Q (.ref p) H') : rListSq G.K [v] H Q := by
  obtain ⟨a, us, rfl, g1, m1⟩ := any_tup.mp h1
  refine ⟨a, us, rfl, .inr (SqT.of g1), fun p hp => k p _ ?_⟩
  exact hS.newL hp m1
theorem imL_str : ∀ {vs : List V} {xs : List Str}, imL (G := G) H vs xs → imL (G := G) H vs (xs.map Any.str)
  | [], [], _ => True.intro
  | v :: vs, x :: xs, h => ⟨any_str.mpr h.1, imL_str h.2⟩
theorem any_lstS {v : V} {xs : List Str} (h : Im.im G H v xs) : Im.im G H v (Any.lst (xs.map Any.str)) := by
  obtain ⟨a, vs, e, g, m⟩ := h
  exact any_lsts.mpr ⟨a, vs, e, g, imL_str m⟩
theorem any_lstA {v : V} {xs : List Any} (h : Im.im G H v xs) : Im.im G H v (Any.lst xs) := by
  obtain ⟨a, vs, e, g, m⟩ := h
  exact any_lsts.mpr ⟨a, vs, e, g, m⟩
end Ml
namespace Ml
open PySem PySem.Spec PyProof.Rows L2
variable {G : Gx} {κ β : Type} [Kx κ] [DecidableEq κ] [Im G β] {H : Hp} {L L' : List (Asn G)} {σ : L2.St} {Q : VK} {td ty tx : TE} {k : κ} {a : Addr} {xs : List (κ × β)} {i : Nat}
/-- d[k] = v -/
theorem k_setD {v : V} {y : β} {P : Hp → Prop} (hS : Sep H L) (e : L[i]? = some (dictA a xs)) (hv : Im.im G H v y) (hl : xs.length < sizeLine) (e2 : L.set i (dictA a (dput xs k y)) = L') (q : ∀ H', Sep H' L' → P H') : rSetD (.ref a) (kV (Kx.key k)) v H P := by
  obtain ⟨ps, h, m⟩ := hS.dict e
  refine ⟨a, _, rfl, .inl ⟨ps, Kx.key k, h, rfl, by rw [m.len]; exact hl, rfl⟩, q _ ?_⟩
  subst e2
  exact hS.putD e (m.put hv)
end Ml
namespace Ml
open PySem PySem.Spec PyProof.Rows L2
variable {G : Gx} {β : Type} {H : Hp} {M : List (Asn G)}
def elemsE (E : Addr → β → Asn G) (l : List (Addr × β)) : List (Asn G) := l.map fun q => E q.1 q.2
def listE (E : Addr → β → Asn G) (a : Addr) (xs : List β) : Asn G := exA fun (ps : List Addr) => andA (ps.length = xs.length) (star (cell a (.lst (ps.map V.ref)) :: elemsE E (ps.zip xs)))
/-- all but the j-th -/
def listH (E : Addr → β → Asn G) (a : Addr) (ps : List Addr) (xs : List β) (j : Nat) : Asn G := star (cell a (.lst (ps.map V.ref)) :: elemsE E ((ps.zip xs).eraseIdx j))
theorem erase_map {α γ : Type} (f : α → γ) : ∀ (l : List α) (j : Nat), (l.map f).eraseIdx j = (l.eraseIdx j).map f
  | [], j => by simp
  | x :: l, 0 => rfl
  | x :: l, j + 1 => by simp only [List.map_cons, List.eraseIdx_cons_succ]; rw [erase_map f l j]
theorem perm_out {α : Type} : ∀ {l : List α} {j : Nat} {x : α}, l[j]? = some x → (x :: l.eraseIdx j).Perm l
  | [], j, x, h => by cases h
  | y :: l, 0, x, h => by
    have : y = x := by simpa using h
    subst this; exact .refl _
  | y :: l, j + 1, x, h => by
    have h2 : l[j]? = some x := by simpa using h
    exact (List.Perm.swap y x _).trans ((perm_out h2).cons y)
theorem focusE {E : Addr → β → Asn G} {a : Addr} {xs : List β} {j : Nat} {x : β} (h : Sep H (listE E a xs :: M)) (hj : xs[j]? = some x) : ∃ ps p, ps.length = xs.length ∧ ps[j]? = some p ∧ Sep H (E p x :: listH E a ps xs j :: M) := by
  obtain ⟨ps, h⟩ := Sep.ex h
  obtain ⟨hl, h⟩ := Sep.and h
  have hlt : j < xs.length := (List.getElem?_eq_some_iff.mp hj).1
  have hp : ps[j]? = some ps[j] := List.getElem?_eq_getElem (by omega)
  refine ⟨ps, ps[j], hl, hp, ?_⟩
  have h := Sep.star1 h
  have hz : (ps.zip xs)[j]? = some (ps[j], x) := by
    rw [List.getElem?_zip_eq_some]; exact ⟨hp, hj⟩
  have hz2 : (elemsE E (ps.zip xs))[j]? = some (E ps[j] x) := by unfold elemsE; rw [List.getElem?_map, hz]; rfl
  have e : (elemsE E (ps.zip xs)).eraseIdx j = elemsE E ((ps.zip xs).eraseIdx j) := by unfold elemsE; rw [erase_map]
  have P := perm_out hz2
  rw [e] at P
  have h2 : Sep H (E ps[j] x :: ((cell a (.lst (ps.map V.ref)) :: elemsE E ((ps.zip xs).eraseIdx j)) ++ M)) := by
    refine h.perm ?_
    have := (P.symm.cons (cell (G := G) a (.lst (ps.map V.ref)))).append_right M
    exact this.trans (by exact List.Perm.swap _ _ _)
  have h3 : Sep H ((cell a (.lst (ps.map V.ref)) :: elemsE E ((ps.zip xs).eraseIdx j)) ++ (E ps[j] x :: M)) := h2.perm (List.perm_middle.symm)
  exact (Sep.unstar1 h3).perm (List.Perm.swap _ _ _)
theorem unfocusE {E : Addr → β → Asn G} {a : Addr} {xs : List β} {ps : List Addr} {j : Nat} {p : Addr} {y : β} (hl : ps.length = xs.length) (hp : ps[j]? = some p) (h : Sep H (E p y :: listH E a ps xs j :: M)) : Sep H (listE E a (xs.set j y) :: M) := by
  refine Sep.exI ps (Sep.andI (by rw [List.length_set]; exact hl) (Sep.unstar1 ?_))
  have hlt : j < ps.length := (List.getElem?_eq_some_iff.mp hp).1
  have hz : (ps.zip (xs.set j y))[j]? = some (p, y) := by
    rw [List.getElem?_zip_eq_some]; exact ⟨hp, by rw [List.getElem?_set_self (by omega)]⟩
  have hz2 : (elemsE E (ps.zip (xs.set j y)))[j]? = some (E p y) := by unfold elemsE; rw [List.getElem?_map, hz]; rfl
  have e0 : (ps.zip (xs.set j y)).eraseIdx j = (ps.zip xs).eraseIdx j := by
    clear h hz hz2
    induction ps generalizing xs j with
    | nil => cases hp
    | cons q ps ih =>
      cases xs with
      | nil => cases hl
      | cons x xs =>
        cases j with
        | zero => rfl
        | succ j =>
          simp only [List.set_cons_succ, List.zip_cons_cons, List.eraseIdx_cons_succ]
          rw [ih (by simpa using hl) (by simpa using hp) (by simpa using hlt)]
  have e : (elemsE E (ps.zip (xs.set j y))).eraseIdx j = elemsE E ((ps.zip xs).eraseIdx j) := by unfold elemsE; rw [erase_map, e0]
  have P := perm_out hz2
  rw [e] at P
  have h1 : Sep H ((cell a (.lst (ps.map V.ref)) :: elemsE E ((ps.zip xs).eraseIdx j)) ++ (E p y :: M)) := Sep.star1 (h.perm (List.Perm.swap _ _ _))
  have h2 : Sep H (E p y :: ((cell a (.lst (ps.map V.ref)) :: elemsE E ((ps.zip xs).eraseIdx j)) ++ M)) := h1.perm List.perm_middle
  refine h2.perm ?_
  have := (P.cons (cell (G := G) a (.lst (ps.map V.ref)))).append_right M
  exact (List.Perm.swap _ _ _).trans this
end Ml
namespace Ml
open PySem PySem.Spec PyProof.Rows L2
variable {G : Gx} {κ β : Type} [Kx κ] [DecidableEq κ] {H : Hp} {M : List (Asn G)}
def refsD (kvs : List (κ × β)) (ps : List Addr) : List (Key × V) := List.zipWith (fun kv p => (Kx.key kv.1, V.ref p)) kvs ps
def dictE (E : Addr → β → Asn G) (a : Addr) (kvs : List (κ × β)) : Asn G := exA fun (ps : List Addr) => andA (ps.length = kvs.length ∧ (kvs.map (·.1)).Nodup) (star (cell a (.dK (refsD kvs ps)) :: elemsE E (ps.zip (kvs.map (·.2)))))
theorem refs_val {kvs : List (κ × β)} {ps : List Addr} {j : Nat} {k : κ} {y : β} {p : Addr} (hl : ps.length = kvs.length) (hn : (kvs.map (·.1)).Nodup) (hj : kvs[j]? = some (k, y)) (hp : ps[j]? = some p) : valV (refsD kvs ps) (Kx.key k) = some (.ref p) := by
  induction kvs generalizing ps j with
  | nil => cases hj
  | cons kv kvs ih =>
    cases ps with
    | nil => cases hl
    | cons q ps =>
      cases j with
      | zero =>
        have h1 : kv = (k, y) := by simpa using hj
        have h2 : q = p := by simpa using hp
        subst h1 h2
        show valV ((Kx.key k, V.ref q) :: refsD kvs ps) (Kx.key k) = _
        unfold valV
        simp
      | succ j =>
        have hj' : kvs[j]? = some (k, y) := by simpa using hj
        have hp' : ps[j]? = some p := by simpa using hp
        rw [List.map_cons, List.nodup_cons] at hn
        have hk : ¬ kv.1 = k := fun e => hn.1 (List.mem_map.mpr ⟨(k, y), List.mem_of_getElem? hj', e.symm⟩)
        have := ih (ps := ps) (j := j) (by simpa using hl) hn.2 hj' hp'
        show valV ((Kx.key kv.1, V.ref q) :: refsD kvs ps) (Kx.key k) = _
        unfold valV at this ⊢
        have hk2 : ¬ Kx.key kv.1 = Kx.key k := fun e => hk (Kx.inj e)
        simpa [hk2] using this
theorem zip_hole {ps : List Addr} {xs : List β} {j : Nat} {z : β} (hl : ps.length = xs.length) : (ps.zip (xs.set j z)).eraseIdx j = (ps.zip xs).eraseIdx j := by
  induction ps generalizing xs j with
  | nil => simp
  | cons q ps ih =>
    cases xs with
    | nil => cases hl
    | cons x xs =>
      cases j with
      | zero => rfl
      | succ j =>
        simp only [List.set_cons_succ, List.zip_cons_cons, List.eraseIdx_cons_succ]
        rw [ih (by simpa using hl)]
theorem put_at {kvs : List (κ × β)} {j : Nat} {k : κ} {y z : β} (hn : (kvs.map (·.1)).Nodup) (hj : kvs[j]? = some (k, y)) : dput kvs k z = kvs.set j (k, z) := by
  have hany : (kvs.any fun kv => decide (kv.1 = k)) = true := List.any_eq_true.mpr ⟨(k, y), List.mem_of_getElem? hj, by simp⟩
  unfold dput
  rw [if_pos hany]
  clear hany
  induction kvs generalizing j with
  | nil => cases hj
  | cons kv kvs ih =>
    rw [List.map_cons, List.nodup_cons] at hn
    cases j with
    | zero =>
      have h1 : kv = (k, y) := by simpa using hj
      subst h1
      have : kvs.map (fun kv => if kv.1 = k then (kv.1, z) else kv) = kvs := by
        have : ∀ q, q ∈ kvs → (if q.1 = k then (q.1, z) else q) = q := fun q hq => by
          rw [if_neg]
          intro e
          exact hn.1 (List.mem_map.mpr ⟨q, hq, e⟩)
        conv => rhs; rw [← List.map_id kvs]
        exact List.map_congr_left this
      simp [this]
    | succ j =>
      have hj' : kvs[j]? = some (k, y) := by simpa using hj
      have hk : ¬ kv.1 = k := fun e => hn.1 (List.mem_map.mpr ⟨(k, y), List.mem_of_getElem? hj', e.symm⟩)
      rw [List.map_cons, if_neg hk, List.set_cons_succ, ih hn.2 hj']
end Ml
namespace Ml
open PySem PySem.Spec PyProof.Rows L2
variable {G : Gx} {κ β : Type} [Kx κ] [DecidableEq κ] {H : Hp} {M : List (Asn G)}
theorem refs_new {y : β} {kvs : List (κ × β)} {ps : List Addr} {k : κ} {p : Addr} (hl : ps.length = kvs.length) (hk : ¬ k ∈ kvs.map (·.1)) : putK (refsD kvs ps) (Kx.key k) (.ref p) = refsD (kvs ++ [(k, y)]) (ps ++ [p]) := by
  have h1 : (refsD kvs ps).any (fun kv => decide (kv.1 = Kx.key k)) = false := by
    rw [Bool.eq_false_iff]
    intro z
    obtain ⟨q, hq, e⟩ := List.any_eq_true.mp z
    have e := of_decide_eq_true e
    unfold refsD at hq
    induction kvs generalizing ps with
    | nil => simp at hq
    | cons kv kvs ih =>
      cases ps with
      | nil => cases hl
      | cons r ps =>
        rw [List.zipWith_cons_cons] at hq
        rcases List.mem_cons.mp hq with rfl | hq
        · exact hk (by rw [List.map_cons]; exact List.mem_cons.mpr (.inl (Kx.inj e).symm))
        · exact ih (ps := ps) (by simpa using hl) (fun m => hk (by rw [List.map_cons]; exact List.mem_cons_of_mem _ m)) (by
            refine List.any_eq_true.mpr ⟨q, hq, by simpa using e⟩) hq
  unfold putK
  rw [h1]
  unfold refsD
  rw [List.zipWith_append hl.symm]
  rfl
theorem refs_len {kvs : List (κ × β)} {ps : List Addr} (hl : ps.length = kvs.length) : (refsD kvs ps).length = kvs.length := by
  unfold refsD
  rw [List.length_zipWith]; omega
end Ml
namespace PySem.SeqAt
open AutoSeq1 (wpAny_loadPart')
open MeetsSeq MeetsSeq2 MeetsSeq3
section
variable {prog : Program} {w : World} {A : Around} {s : Shared} {E : Value → Shared → Prop}
def DictAt (s : Shared) (d : Addr) : Prop := ∃ dd es ep sl, s.heap.get? d = some ⟨.type "dict", dd, .dict es ep, sl⟩
theorem DictAt.ty {d : Addr} (h : DictAt s d) : s.TypeIs (.ref d) "dict" := by obtain ⟨dd, es, ep, sl, h⟩ := h; exact ⟨_, h, rfl⟩
end
end PySem.SeqAt
namespace L2
open PySem PySem.Spec PyProof.Rows
end L2
namespace Ml
open PySem PySem.Spec PyProof.Rows L2
variable {G : Gx} {H : Hp} {L : List (Asn G)} {Q : VK}
theorem R.need_rev {α : Type} {p : Prop} {inst : Decidable p} {k : R α} {q : α → Prop} {e : Exc → Prop} {Z : Prop} (f : p → k.wp q e → Z) (h : (@R.need α p inst k).wp q e) : Z := f (R.wp_need h).1 (R.wp_need h).2
end Ml
namespace Ml
open PySem PySem.Spec PyProof.Rows
end Ml
namespace L2
open PySem PySem.Spec PyProof.Rows PySem.Froz Ml
end L2
namespace L2
open PySem PySem.Spec PyProof.Rows Ml
end L2
namespace Ml
open PySem PySem.Spec PyProof.Rows L2
variable {G : Gx} {σ : L2.St} {H : Hp} {L : List (Asn G)} {Q : VK} {te : TE} {D : Ends}
theorem Sep.rdL {α : Type} [Im G α] {i : Nat} {a : Addr} {xs : List α} (hS : Sep H L) (e : L[i]? = some (lstA a xs)) : ∃ vs, Rd H a (.lst vs) ∧ imL (G := G) H vs xs := by
  obtain ⟨vs, h, m⟩ := hS.lst e
  exact ⟨vs, .inl h, m⟩
def asgK (g : TG) (σ : L2.St) (D : Ends) : VK := fun x H1 => g x σ H1 D.nx
theorem c_asgG {g : TG} (h : te σ H (asgK g σ D)) : tAsg te g D σ H := h
theorem k_asgG {g : TG} {v : V} (h : g v σ H D.nx) : asgK g σ D v H := h
end Ml
namespace L2
open PySem PySem.Spec PyProof.Rows PySem.W
end L2
namespace Ml
open PySem PySem.Spec PyProof.Rows L2
variable {G : Gx} {σ : L2.St} {H H' : Hp} {L L' : List (Asn G)} {Q : VK} {te td ty : TE} {D : Ends}
structure Kt where
  l : List Str
  deriving DecidableEq
def Kt.ks (k : Kt) : List Key := k.l.map Sum.inr
theorem inr_inj : ∀ {xs ys : List Str}, xs.map (Sum.inr : Str → Key) = ys.map Sum.inr → xs = ys
  | [], [], _ => rfl
  | [], _ :: _, h => by cases h
  | _ :: _, [], h => by cases h
  | x :: xs, y :: ys, h => by
    simp only [List.map_cons, List.cons.injEq] at h
    rw [Sum.inr.inj h.1, inr_inj h.2]
theorem Kt.inj {a b : Kt} (h : a.ks = b.ks) : a = b := by
  obtain ⟨xs⟩ := a
  obtain ⟨ys⟩ := b
  have : xs = ys := inr_inj h
  rw [this]
instance imKt : Im G Kt := ⟨fun H v x => ∃ a, v = .ref a ∧ H a = some (.tup (x.l.map V.str)), fun ⟨a, e, h⟩ s => ⟨a, e, s.1 a _ h rfl⟩⟩
instance : IsRef G Kt := ⟨fun h => by obtain ⟨a, e, _⟩ := h; exact ⟨a, e⟩⟩
instance : Lay Kt := ⟨fun x => layAllB x.l⟩
theorem dpStrs {K : PySem.W.Frag} : ∀ xs : List Str, DpAll K H (xs.map V.str) (xs.map PyData.str)
  | [] => .nil
  | x :: r => .cons (.str x) (dpStrs r)
theorem depStrs : ∀ xs : List Str, PyData.depthAll (xs.map PyData.str) = 0
  | [] => rfl
  | x :: r => by
    show max (PyData.depth (.str x)) (PyData.depthAll (r.map PyData.str)) = 0
    rw [depStrs r]; rfl
def pdKt (k : Kt) : PyData := .tuple (k.l.map PyData.str)
theorem canStrs : ∀ xs : List Str, layAllB xs = true → PyData.canLayAll0 (xs.map PyData.str) = true
  | [], _ => rfl
  | x :: r, h => by
    have h : (Lay.lay x && layAllB r) = true := h
    rw [Bool.and_eq_true] at h
    show ((PyData.str x).canLay0 && PyData.canLayAll0 (r.map PyData.str)) = true
    rw [canStrs r h.2, show (PyData.str x).canLay0 = true from h.1]; rfl
theorem eqvStrs : ∀ xs ys : List Str, PyData.eqvAll (xs.map PyData.str) (ys.map PyData.str) = decide (xs = ys)
  | [], [] => rfl
  | [], _ :: _ => rfl
  | _ :: _, [] => rfl
  | x :: xs, y :: ys => by
    show (PyData.eqv (.str x) (.str y) && PyData.eqvAll (xs.map PyData.str) (ys.map PyData.str)) = _
    rw [eqvStrs xs ys, show PyData.eqv (.str x) (.str y) = decide (x = y) from str_beq x y]
    simp
instance pdKtI : Pd G Kt where
  pd := pdKt
  dep := 1
  dp := fun {H v x} h => by
    obtain ⟨a, rfl, g⟩ := h
    exact .tup (SqT.of g) (dpStrs x.l)
  lay_ok := fun x h => canStrs x.l h
  dep_ok := fun x => by
    show PyData.depthAll (x.l.map PyData.str) + 1 ≤ 1
    rw [depStrs]
    exact Nat.le_refl _
  eqv := fun x y => by
    show PyData.eqvAll (x.l.map PyData.str) (y.l.map PyData.str) = _
    rw [eqvStrs]
    obtain ⟨a⟩ := x; obtain ⟨b⟩ := y
    simp
end Ml
namespace Ml
open PySem PySem.Spec PyProof.Rows L2
variable {G : Gx}
section
variable {β : Type} [Im G β]
def imDT (H : Hp) : List (List Key × V) → List (Kt × β) → Prop
  | [], [] => True
  | p :: ps, q :: qs => (p.1 = q.1.ks ∧ Im.im G H p.2 q.2 ∧ ∃ b, H b = some (.tup (q.1.ks.map kV))) ∧ imDT H ps qs
  | _, _ => False
variable {H H' : Hp}
theorem imDT.st : ∀ {ps : List (List Key × V)} {qs : List (Kt × β)}, imDT (G := G) H ps qs → Stab G H H' → imDT (G := G) H' ps qs
  | [], [], _, _ => True.intro
  | _ :: _, _ :: _, h, s => ⟨⟨h.1.1, Im.st h.1.2.1 s, by obtain ⟨b, e⟩ := h.1.2.2; exact ⟨b, s.1 b _ e rfl⟩⟩, imDT.st h.2 s⟩
  | [], _ :: _, h, _ => h
  | _ :: _, [], h, _ => h
theorem imDT.len : ∀ {ps : List (List Key × V)} {qs : List (Kt × β)}, imDT (G := G) H ps qs → ps.length = qs.length
  | [], [], _ => rfl
  | _ :: _, _ :: _, h => by rw [List.length_cons, List.length_cons, imDT.len h.2]
  | [], _ :: _, h => h.elim
  | _ :: _, [], h => h.elim
theorem kt_dec (a b : Kt) : decide (a.ks = b.ks) = decide (a = b) := by
  by_cases h : a = b
  · subst h; simp
  · have : ¬ a.ks = b.ks := fun e => h (Kt.inj e)
    simp [h, this]
theorem imDT.val : ∀ {ps : List (List Key × V)} {qs : List (Kt × β)} (k : Kt), imDT (G := G) H ps qs → (∀ y, dget qs k = some y → ∃ v, valV ps k.ks = some v ∧ Im.im G H v y) ∧ (dget qs k = none → valV ps k.ks = none)
  | [], [], _, _ => ⟨fun y e => (by cases (show (none : Option β) = some y from e)), fun _ => rfl⟩
  | p :: ps, q :: qs, k, ⟨⟨e1, e2, _⟩, h⟩ => by
    have ih := imDT.val k h
    by_cases c : q.1 = k
    · have c1 : p.1 = k.ks := by rw [e1, c]
      have d : dget (q :: qs) k = some q.2 := by simp [dget, List.find?_cons, c]
      rw [d, valV_pos c1]
      exact ⟨fun y e => ⟨p.2, rfl, by cases e; exact e2⟩, fun e => by cases e⟩
    · have c1 : ¬ p.1 = k.ks := fun z => c (Kt.inj (e1.symm.trans z))
      have d : dget (q :: qs) k = dget qs k := by simp [dget, List.find?_cons, c]
      rw [d, valV_neg c1]
      exact ih
  | [], _ :: _, _, h => h.elim
  | _ :: _, [], _, h => h.elim
theorem imDT.any : ∀ {ps : List (List Key × V)} {qs : List (Kt × β)} (k : Kt), imDT (G := G) H ps qs → (ps.any fun kv => decide (kv.1 = k.ks)) = qs.any fun kv => decide (kv.1 = k)
  | [], [], _, _ => rfl
  | p :: ps, q :: qs, k, ⟨⟨e1, _⟩, h⟩ => by
    rw [List.any_cons, List.any_cons, imDT.any k h, e1, kt_dec]
  | [], _ :: _, _, h => h.elim
  | _ :: _, [], _, h => h.elim
theorem imDT.app : ∀ {ps rs : List (List Key × V)} {qs ts : List (Kt × β)}, imDT (G := G) H ps qs → imDT (G := G) H rs ts → imDT (G := G) H (ps ++ rs) (qs ++ ts)
  | [], _, [], _, _, h => h
  | _ :: _, _, _ :: _, _, h, k => ⟨h.1, imDT.app h.2 k⟩
  | [], _, _ :: _, _, h, _ => h.elim
  | _ :: _, _, [], _, h, _ => h.elim
theorem imDT.rep : ∀ {ps : List (List Key × V)} {qs : List (Kt × β)} {k : Kt} {v : V} {y : β}, imDT (G := G) H ps qs → Im.im G H v y →
    imDT (G := G) H (ps.map fun kv => if kv.1 = k.ks then (kv.1, v) else kv) (qs.map fun kv => if kv.1 = k then (kv.1, y) else kv)
  | [], [], _, _, _, _, _ => True.intro
  | p :: ps, q :: qs, k, v, y, ⟨⟨e1, e2, e3⟩, h⟩, hv => by
    refine ⟨?_, imDT.rep h hv⟩
    dsimp only
    by_cases c : q.1 = k
    · have c1 : p.1 = k.ks := by rw [e1, c]
      rw [if_pos c, if_pos c1]; exact ⟨e1, hv, e3⟩
    · have c1 : ¬ p.1 = k.ks := fun z => c (Kt.inj (e1.symm.trans z))
      rw [if_neg c, if_neg c1]; exact ⟨e1, e2, e3⟩
  | [], _ :: _, _, _, _, h, _ => h.elim
  | _ :: _, [], _, _, _, h, _ => h.elim
theorem imDT.put {ps : List (List Key × V)} {qs : List (Kt × β)} {k : Kt} {v : V} {y : β} (h : imDT (G := G) H ps qs) (hv : Im.im G H v y) (hb : ∃ b, H b = some (.tup (k.ks.map kV))) : imDT (G := G) H (putK ps k.ks v) (dput qs k y) := by
  unfold putK dput
  rw [h.any k]
  split
  · exact h.rep hv
  · exact h.app (rs := [(k.ks, v)]) (ts := [(k, y)]) ⟨⟨rfl, hv, hb⟩, True.intro⟩
theorem imDT.at : ∀ {ps : List (List Key × V)} {qs : List (Kt × β)} {j : Nat} {k : List Key} {v : V} {x : Kt}, imDT (G := G) H ps qs → ps[j]? = some (k, v) → (qs.map (·.1))[j]? = some x → k = x.ks
  | p :: _, q :: _, 0, k, v, x, h, e1, e2 => by
    have e1 : p = (k, v) := by simpa using e1
    have e2 : q.1 = x := by simpa using e2
    have := h.1.1
    rw [e1, e2] at this
    exact this
  | _ :: ps, _ :: qs, j + 1, k, v, x, h, e1, e2 => imDT.at (ps := ps) (qs := qs) (j := j) h.2 (by simpa using e1) (by simpa using e2)
  | [], _, _, _, _, _, _, e1, _ => by simp at e1
  | _ :: _, [], _, _, _, _, h, _, _ => h.elim
variable {L L' : List (Asn G)} {σ : L2.St} {Q : VK} {te td ty tx : TE} {k : Kt} {a b : Addr} {xs : List (Kt × β)} {i : Nat}
end
end Ml
namespace Ml
open PySem PySem.Spec PyProof.Rows L2
variable {G : Gx} {σ : L2.St} {H : Hp} {M L : List (Asn G)} {Q : VK}
def bind2 {α β ρ : Type} (m : R (α × β)) (f : α → β → R ρ) : R ρ := m.bind fun t => f t.1 t.2
theorem bind2_wp {α β ρ : Type} {m : R (α × β)} {f : α → β → R ρ} {q : ρ → Prop} {e : Exc → Prop} (h : R.wp (bind2 m f) q e) : R.wp (m.bind fun t => f t.1 t.2) q e := h
theorem Ok.bind2 {α β ρ : Type} {m : R (α × β)} {f : α → β → R ρ} {P : ρ → Prop} {Z : α × β → Prop} (h : Ok m Z) (k : ∀ a b, Z (a, b) → Ok (f a b) P) : Ok (Ml.bind2 m f) P := .bind h fun r hr => k r.1 r.2 hr
section
variable {u : TT} {P : Bool → Hp → Prop} {τ ρ : Type} {A : R (τ × Bool)} {s0 : τ} {rest : τ → Bool → R ρ} {q : ρ → Prop} {e : Exc → Prop} {a : Bool}
theorem andK_T (N : τ → List (Asn G)) (hm : R.wp (bind2 (if a = true then A else .ok (s0, false)) rest) q e) (hS : Sep H (N s0))
    (h1 : a = true → ∀ q' : τ × Bool → Prop, R.wp A q' e → (∀ s b H', q' (s, b) → Sep H' (N s) → P b H') → u σ H P) (k : ∀ s b H', R.wp (rest s b) q e → Sep H' (N s) → P b H') : andK u σ P a H := by
  have hm' := R.wp_bind (bind2_wp hm)
  cases a with
  | true => exact h1 rfl _ hm' fun s b H' h hS => k s b H' h hS
  | false => exact k s0 false H hm' hS
end
section
variable {β : Type}
def ixJ (xs : List β) (i : Int) : R (Nat × β) := match ixN xs.length i with
  | some j => match xs[j]? with
    | some x => .ok (j, x)
    | none => .bad
  | none => .bad
theorem wp_ixJ {ρ : Type} {xs : List β} {i : Int} {f : Nat → β → R ρ} {q : ρ → Prop} {e : Exc → Prop} (h : R.wp (bind2 (ixJ xs i) f) q e) : ∃ j x, (ixN xs.length i = some j ∧ xs[j]? = some x) ∧ R.wp (f j x) q e := by
  unfold ixJ bind2 at h
  cases c : ixN xs.length i with
  | none => rw [c] at h; exact h.elim
  | some j =>
    rw [c] at h
    cases d : xs[j]? with
    | none => simp only [d] at h; exact h.elim
    | some x => simp only [d] at h; exact ⟨j, x, ⟨rfl, d⟩, h⟩
theorem ixK {E : Addr → β → Asn G} {a : Addr} {xs : List β} {i : Int} {j : Nat} {x : β} (hS : Sep H (listE E a xs :: M)) (h : ixN xs.length i = some j ∧ xs[j]? = some x)
    (k : ∀ ps p, ps.length = xs.length → ps[j]? = some p → Sep H (E p x :: listH E a ps xs j :: M) → Q (.ref p) H) : rIxL G.K (.ref a) (.int i) H Q := by
  obtain ⟨ps, p, hl, hp, hS⟩ := focusE hS h.2
  have h2 : Sep H (listH E a ps xs j :: E p x :: M) := hS.perm (List.Perm.swap _ _ _)
  have hc : H a = some (.lst (ps.map V.ref)) := (Sep.star1 h2).getCell (i := 0) rfl
  refine ⟨a, ps.map V.ref, i, .ref p, rfl, rfl, .inl (.inl hc), ?_, k ps p hl hp hS⟩
  unfold atI
  rw [List.length_map, hl, h.1]
  show (ps.map V.ref)[j]? = _
  rw [List.getElem?_map, hp]
  rfl
theorem set_same {xs : List β} {j : Nat} {x : β} (h : xs[j]? = some x) : xs.set j x = xs := by
  obtain ⟨h1, h2⟩ := List.getElem?_eq_some_iff.mp h
  rw [← h2]
  exact List.set_getElem_self h1
theorem unfocus0 {E : Addr → β → Asn G} {a : Addr} {xs : List β} {ps : List Addr} {j : Nat} {p : Addr} {x : β} (hl : ps.length = xs.length) (hp : ps[j]? = some p) (hx : xs[j]? = some x) (h : Sep H (E p x :: listH E a ps xs j :: M)) : Sep H (listE E a xs :: M) := by
  have := unfocusE hl hp h
  rw [set_same hx] at this
  exact this
theorem packE {E : Addr → β → Asn G} {a : Addr} {xs : List β} (ps : List Addr) (hl : ps.length = xs.length) (h : Sep H ((cell a (.lst (ps.map V.ref)) :: elemsE E (ps.zip xs)) ++ M)) : Sep H (listE E a xs :: M) :=
  Sep.exI ps (Sep.andI hl (Sep.unstar1 h))
end
end Ml
namespace L2
open PySem PySem.Spec PyProof.Rows
end L2
namespace Ml
open PySem PySem.Spec PyProof.Rows L2
variable {G : Gx}
section
variable {κ β : Type} [Kx κ] [DecidableEq κ] {H : Hp} {M L : List (Asn G)} {σ : L2.St} {Q : VK} {td ty : TE} {k : κ} {a : Addr} {kvs : List (κ × β)} {E : Addr → β → Asn G}
theorem dget_idx {κ β : Type} [DecidableEq κ] {k : κ} {kvs : List (κ × β)} {y : β} (h : dget kvs k = some y) : ∃ j : Nat, kvs[j]? = some (k, y) := by
  unfold dget at h
  obtain ⟨p, hp, e⟩ := Option.map_eq_some_iff.mp h
  have h1 := List.find?_some hp
  have h1 : p.1 = k := of_decide_eq_true h1
  obtain ⟨j, hj⟩ := List.getElem?_of_mem (List.mem_of_find?_eq_some hp)
  refine ⟨j, ?_⟩
  rw [hj, ← h1, ← e]
def setE (kvs : List (κ × β)) (k : κ) (z : β) : List (κ × β) := if dhas kvs k = true then kvs else kvs ++ [(k, z)]
theorem dhas_no {κ β : Type} [DecidableEq κ] {k : κ} {kvs : List (κ × β)} (h : dget kvs k = none) : ¬ k ∈ kvs.map (·.1) := fun m => by
  obtain ⟨p, hp, e⟩ := List.mem_map.mp m
  unfold dget at h
  have h := Option.map_eq_none_iff.mp h
  have := List.find?_eq_none.mp h p hp
  exact this (decide_eq_true e)
end
end Ml
namespace L2
open PySem PySem.Spec PyProof.Rows
def Dsp (P : Program) (w : World) (K : PySem.W.Frag) (mg : Str → Option Value) (base : Heap) (CX : CXT) (k : Nat) (fam : Nat → Bool) (cl : Nat → Addr) (m : Str) (ps : List Str) (sp : Nat → Sp) : Prop :=
  ∀ i, fam i = true → ∃ f fd, Cls K (cl i) ∧ Meth K (cl i) m f ∧ Binds K fd ps [] ∧ FnOk P w K mg base CX k f fd ps (sp i)
theorem Dsp.mono {P : Program} {w : World} {K : PySem.W.Frag} {mg : Str → Option Value} {base : Heap} {CX : CXT} {j k : Nat} {fam : Nat → Bool} {cl : Nat → Addr} {m : Str} {ps : List Str} {sp : Nat → Sp} (D : Dsp P w K mg base CX j fam cl m ps sp) (h : j ≤ k) : Dsp P w K mg base CX k fam cl m ps sp := fun i hi => by
  obtain ⟨f, fd, a, b, c, F⟩ := D i hi
  exact ⟨f, fd, a, b, c, F.mono h⟩
end L2
namespace L2
open PySem PySem.Spec PyProof.Rows
end L2
namespace Ml
open PySem PySem.Spec PyProof.Rows L2
end Ml
namespace Ml
open PySem PySem.Spec PyProof.Rows L2
variable {G : Gx} {σ : L2.St} {H : Hp} {L L' : List (Asn G)} {Q : VK} {te : TE} {D : Ends}
theorem R.wp_ifY {α : Type} {c : Prop} [Decidable c] {a b : R α} {q : α → Prop} {e : Exc → Prop} (h : R.wp (if c then a else b) q e) (x : c) : R.wp a q e := (R.wp_if h).1 x
theorem R.wp_ifN {α : Type} {c : Prop} [Decidable c] {a b : R α} {q : α → Prop} {e : Exc → Prop} (h : R.wp (if c then a else b) q e) (x : ¬ c) : R.wp b q e := (R.wp_if h).2 x
section
variable {κ β : Type} [DecidableEq κ] [Kx κ] [Im G β]
def dispEnd (p : Addr) (Q : VK) : List (V × V) → Hp → Prop := fun ps H2 => H2 p = some (.dK []) ∧ ∃ kvs : List (Key × V), ps = kvs.map (fun kv => (kV kv.1, kv.2)) ∧ kvs.length ≤ 15 ∧ Q (.ref p) (upd H2 p (.dK (mergeK [] kvs)))
def dispK (trs : List (TE × TE)) (σ : L2.St) (H : Hp) (Q : VK) : Prop := ∀ p, H p = none → tPairs trs σ (upd H p (.dK [])) (dispEnd p Q)
theorem c_disp {trs : List (TE × TE)} (h : dispK trs σ H Q) : tDisp trs σ H Q := h
def prK2 (x : V) (r : List (TE × TE)) (σ : L2.St) (Z : List (V × V) → Hp → Prop) : VK := fun y H2 => tPairs r σ H2 fun ps H3 => Z ((x, y) :: ps) H3
def prK1 (tv : TE) (r : List (TE × TE)) (σ : L2.St) (Z : List (V × V) → Hp → Prop) : VK := fun x H1 => tv σ H1 (prK2 x r σ Z)
theorem pr_cons {tk tv : TE} {r : List (TE × TE)} {Z : List (V × V) → Hp → Prop} (h : tk σ H (prK1 tv r σ Z)) : tPairs ((tk, tv) :: r) σ H Z := h
theorem pr_1 {tv : TE} {r : List (TE × TE)} {Z : List (V × V) → Hp → Prop} {x : V} (h : tv σ H (prK2 x r σ Z)) : prK1 tv r σ Z x H := h
theorem pr_2 {r : List (TE × TE)} {Z : List (V × V) → Hp → Prop} {x y : V} (h : tPairs r σ H fun ps H3 => Z ((x, y) :: ps) H3) : prK2 x r σ Z y H := h
theorem pr_nil {Z : List (V × V) → Hp → Prop} (h : Z [] H) : tPairs [] σ H Z := h
theorem k_disp {trs : List (TE × TE)} (hS : Sep H L) (k : ∀ p H', Sep H' (dictA p ([] : List (κ × β)) :: L) → tPairs trs σ H' (dispEnd p Q)) : dispK trs σ H Q := fun p np => k p _ (hS.newD np)
def mergeD (kvs more : List (κ × β)) : List (κ × β) := more.foldl (fun acc kv => dput acc kv.1 kv.2) kvs
theorem imD.merge : ∀ {ps : List (Key × V)} {qs : List (κ × β)} {as : List (Key × V)} {bs : List (κ × β)}, imD (G := G) H ps qs → imD (G := G) H as bs → imD (G := G) H (mergeK as ps) (mergeD bs qs)
  | [], [], _, _, _, h => h
  | p :: ps, q :: qs, as, bs, ⟨⟨e1, e2⟩, h⟩, k => by
    show imD H (mergeK (putK as p.1 p.2) ps) (mergeD (dput bs q.1 q.2) qs)
    rw [e1]
    exact imD.merge h (k.put e2)
  | [], _ :: _, _, _, h, _ => h.elim
  | _ :: _, [], _, _, h, _ => h.elim
theorem k_dispEnd {i : Nat} {p : Addr} {ps : List (V × V)} {kvs : List (Key × V)} {qs : List (κ × β)} (hS : Sep H L) (e : L[i]? = some (dictA p ([] : List (κ × β)))) (ep : ps = kvs.map fun kv => (kV kv.1, kv.2)) (m : imD (G := G) H kvs qs) (few : kvs.length ≤ 15)
    (e2 : L.set i (dictA p (mergeD [] qs)) = L') (k : ∀ H', Sep H' L' → Q (.ref p) H') : dispEnd p Q ps H := by
  obtain ⟨us, h0, mu⟩ := hS.dict e
  have eu : us = [] := List.length_eq_zero_iff.mp (mu.len)
  subst eu
  refine ⟨h0, kvs, ep, few, k _ ?_⟩
  subst e2
  exact hS.putD e (m.merge (as := []) (bs := []) True.intro)
end
end Ml
namespace Ml
open PySem PySem.Spec PyProof.Rows L2
end Ml
namespace Ml
open PySem PySem.Spec PyProof.Rows L2
variable {G : Gx} {σ : L2.St} {H : Hp} {L L' : List (Asn G)} {Q : VK} {te ta tb : TE} {D : Ends}
def maxDef (ns : List Int) (d : Int) : Int := match ns with
  | [] => d
  | n :: r => r.foldl max n
def rMaxDef (K : PySem.W.Frag) : List V → List V → Hp → VK → Prop := fun xs zs H Q => ∃ (a : Addr) (ns : List Int) (d : Int), xs = [.ref a] ∧ zs = [.int d] ∧ SqL K H a (ns.map V.int) ∧ Q (.int (maxDef ns d)) H
theorem dpInts {K : PySem.W.Frag} : ∀ xs : List Int, DpAll K H (xs.map V.int) (xs.map PyData.int)
  | [] => .nil
  | x :: r => .cons (.int x) (dpInts r)
theorem depthInts : ∀ xs : List Int, PyData.depthAll (xs.map PyData.int) = 0
  | [] => rfl
  | x :: r => by
    show max (PyData.depth (.int x)) (PyData.depthAll (r.map PyData.int)) = 0
    rw [depthInts r]; rfl
theorem alikeInts (xs : List Int) : PySem.W.AlikeAll (xs.map PyData.int) := ⟨fun x hx y hy => by
  obtain ⟨i, _, rfl⟩ := List.mem_map.mp hx
  obtain ⟨j, _, rfl⟩ := List.mem_map.mp hy
  rfl, fun x hx => by
  obtain ⟨i, _, rfl⟩ := List.mem_map.mp hx
  exact fun z => nomatch z⟩
theorem cr_maxDef {X : Cx} (hc : X.calm = true) (hu : X.A.units + 64 < cLine) : CallRK X (.builtin "max") [Str.ofString "default"] (rMaxDef X.K) := by
  intro pins s σ H vs zs us ws Q I r rz h
  obtain ⟨a, ns, d, rfl, rfl, hs, q⟩ := h
  obtain rfl := Vals.ref1 r
  obtain ⟨w1, rfl, t1, rfl⟩ := vals1 rz
  obtain ⟨its, rv, hl, hz⟩ := I.list hs
  obtain ⟨as, ra⟩ := Dp.readsAll I (ns.map PyData.int) _ _ (dpInts ns) rv
  refine PySem.W.max_list_default (I.ok.hd hc) hl.isList (by exact ra) (alikeInts ns) (by rw [depthInts]; omega) (fun hz h' tk k => ?_) (fun y ys i v h' tk bs ey hv hr k => ?_)
  · have hn : ns = [] := by simpa using hz
    subst hn
    exact ⟨.int d, H, I.kept (t' := tk) k, ⟨_, rfl⟩, q⟩
  · cases ns with
    | nil => cases ey
    | cons n r =>
      have e1 := List.cons.inj ey
      have e2 : y = .int n := e1.1.symm
      have e3 : ys = r.map PyData.int := e1.2.symm
      subst e2 e3
      rw [PySem.W.maxD_ints] at hr
      cases hr with
      | int i t => exact ⟨.int (r.foldl max n), H, I.kept (t' := tk) k, ⟨_, rfl⟩, q⟩
theorem cr_maxDefK {X : Cx} (K : PySem.W.Frag) (hc : X.calm = true) (hu : X.A.units + 64 < cLine) (hK : X.K = K := by rfl) : CallRK X (.builtin "max") [Str.ofString "default"] (rMaxDef K) := by subst hK; exact cr_maxDef hc hu
def ckK (r : List V → List V → Hp → VK → Prop) (tk : TA) (σ : L2.St) (Q : VK) : List V → Hp → Prop := fun vs H1 => tk σ H1 fun zs H2 => r vs zs H2 Q
theorem c_ck {r : List V → List V → Hp → VK → Prop} {t tk : TA} (h : t σ H (ckK r tk σ Q)) : tCKw r t tk σ H Q := h
theorem k_maxDef {p : Addr} {ns : List Int} {d : Int} {tk : TE} (hs : SqL G.K H p (ns.map V.int)) (e : Ev tk σ H (.int d)) (q : Q (.int (maxDef ns d)) H) : ckK (rMaxDef G.K) (tCons tk tNil) σ Q [.ref p] H :=
  ea_cons e ea_nil _ ⟨p, ns, d, rfl, rfl, hs, q⟩
end Ml
namespace Ml
open PySem L2
end Ml
namespace Ml
open PySem PySem.Spec PyProof.Rows L2
end Ml
namespace L2
open PySem PySem.Spec PyProof.Rows
end L2
namespace Ml
open PySem PySem.Spec PyProof.Rows L2
end Ml
namespace Ml
open PySem L2
end Ml
namespace L2
open PySem PySem.Spec PyProof.Rows
end L2
namespace Ml
open PySem L2
end Ml
namespace L2
open PySem PySem.Spec PyProof.Rows
end L2
namespace Ml
open PySem L2
end Ml
namespace Ml
open PySem L2
end Ml
namespace L2
open PySem PySem.Spec PyProof.Rows
end L2
namespace Ml
open PySem L2
end Ml
namespace Ml
open PySem L2
end Ml
namespace Ml
open PySem PySem.Spec PyProof.Rows L2
end Ml
namespace Ml
open PySem PySem.Spec PyProof.Rows L2
/-- a tuple, its values told -/
structure TupV where
  vs : List V
section
variable {G : Gx} {α β : Type} {H : Hp} {L M : List (Asn G)} {Q : VK} {p : Addr}
instance imTupV : Im G TupV := ⟨fun H v x => ∃ a, v = .ref a ∧ H a = some (.tup x.vs), fun ⟨a, e, h⟩ s => ⟨a, e, s.1 a _ h rfl⟩⟩
theorem k_tupV {vs : List V} (hS : Sep H L) (hl : vs.length ≤ sizeLine) (k : ∀ p H', Sep H' (imA (.ref p) (⟨vs⟩ : TupV) :: L) → Q (.ref p) H') : tupK Q vs H :=
  ⟨hl, fun p hp => k p _ ((hS.more (same_new hp)).addIm ⟨p, rfl, upd_same⟩)⟩
theorem tupV_at {vs : List V} (h : Im.im G H (.ref p) (⟨vs⟩ : TupV)) : H p = some (.tup vs) := by
  obtain ⟨a, e, h⟩ := h
  cases e; exact h
variable [Im G α] [Im G β]
end
section
variable {G : Gx} {β : Type} {H : Hp} {M : List (Asn G)} {Q : VK} {E : Addr → β → Asn G}
def imIt (a : Addr) (xs : List β) (H : Hp) (v : V) (x : β) : Prop := ∃ (i : Nat) (vs : List V), H a = some (.lst vs) ∧ vs[i]? = some v ∧ xs[i]? = some x
theorem listE_cell {a : Addr} {xs : List β} (hS : Sep H (listE E a xs :: M)) : ∃ ps : List Addr, ps.length = xs.length ∧ H a = some (.lst (ps.map V.ref)) := by
  obtain ⟨ps, h⟩ := Sep.ex hS
  obtain ⟨hl, h⟩ := Sep.and h
  exact ⟨ps, hl, (Sep.star1 h).getCell (i := 0) rfl⟩
theorem wk_listE {I : L2.St → Hp → Prop} {a : Addr} {xs : List β} (h : ∀ σ H, I σ H → ∃ M, Sep H (listE E a xs :: M)) : Wk (Itl G.K a) I (imIt a xs) xs where
  go := fun i σ H hI hi => by
    obtain ⟨M, hS⟩ := h σ H hI
    obtain ⟨ps, hl, hc⟩ := listE_cell hS
    have hl : i < (ps.map V.ref).length := by rw [List.length_map, hl]; exact hi
    exact ⟨_, _, .inl (.inl hc), List.getElem?_eq_getElem hl⟩
  yl := fun i σ H v H' x hI hx y => by
    obtain ⟨M, hS⟩ := h σ H hI
    obtain ⟨ps, hl, hc⟩ := listE_cell hS
    obtain ⟨rfl, y⟩ := y
    exact ⟨hI, i, _, hc, y _ (.inl (.inl hc)), hx⟩
  sp := fun σ H hI => by
    obtain ⟨M, hS⟩ := h σ H hI
    obtain ⟨ps, hl, hc⟩ := listE_cell hS
    exact ⟨_, .inl (.inl hc), by rw [List.length_map, hl]; exact Nat.le_refl _⟩
theorem focusI {a : Addr} {xs : List β} {v : V} {x : β} (hS : Sep H (listE E a xs :: M)) (h : imIt a xs H v x) : ∃ j ps p, ps.length = xs.length ∧ ps[j]? = some p ∧ xs[j]? = some x ∧ v = .ref p ∧ Sep H (E p x :: listH E a ps xs j :: M) := by
  obtain ⟨i, vs, hc, hv, hx⟩ := h
  obtain ⟨ps, p, hl, hp, hS⟩ := focusE hS hx
  have h2 : Sep H (listH E a ps xs i :: E p x :: M) := hS.perm (List.Perm.swap _ _ _)
  have hc2 : H a = some (.lst (ps.map V.ref)) := (Sep.star1 h2).getCell (i := 0) rfl
  rw [hc] at hc2
  cases hc2
  rw [List.getElem?_map, hp] at hv
  exact ⟨i, ps, p, hl, hp, hx, (Option.some.inj hv).symm, hS⟩
theorem appE {a p : Addr} {xs : List β} {y : β} (hS : Sep H (E p y :: listE E a xs :: M)) : ∃ acc, H a = some (.lst acc) ∧ acc.length = xs.length ∧ Sep (upd H a (.lst (acc ++ [.ref p]))) (listE E a (xs ++ [y]) :: M) := by
  have h1 : Sep H (listE E a xs :: E p y :: M) := hS.perm (List.Perm.swap _ _ _)
  obtain ⟨ps, h⟩ := Sep.ex h1
  obtain ⟨hl, h⟩ := Sep.and h
  have h := Sep.star1 h
  have hc : H a = some (.lst (ps.map V.ref)) := h.getCell (i := 0) rfl
  have h2 := h.put (i := 0) (a := a) (o := .lst (ps.map V.ref)) (o' := .lst (ps.map V.ref ++ [.ref p])) rfl rfl rfl
  refine ⟨_, hc, by rw [List.length_map]; exact hl, Sep.exI (ps ++ [p]) (Sep.andI (by simp [hl]) (Sep.unstar1 ?_))⟩
  have e1 : elemsE E ((ps ++ [p]).zip (xs ++ [y])) = elemsE E (ps.zip xs) ++ [E p y] := by
    unfold elemsE
    rw [List.zip_append hl, List.map_append]; rfl
  rw [e1, List.map_append]
  have : ((cell a (.lst (ps.map V.ref ++ [.ref p])) :: elemsE E (ps.zip xs)) ++ (E p y :: M)) = ((cell a (.lst (ps.map V.ref ++ [V.ref p])) :: (elemsE E (ps.zip xs) ++ [E p y])) ++ M) := by simp
  rw [show ([p] : List Addr).map V.ref = [V.ref p] from rfl, ← this]
  exact h2
theorem k_appendE {a p : Addr} {xs : List β} {y : β} (hS : Sep H (E p y :: listE E a xs :: M)) (z : xs.length < sizeLine) (k : ∀ H', Sep H' (listE E a (xs ++ [y]) :: M) → Q .non H') : rAppend (.ref a) [.ref p] H Q := by
  obtain ⟨acc, h, l, hS⟩ := appE hS
  exact ⟨a, acc, _, rfl, rfl, h, by rw [l]; exact z, k _ hS⟩
end
end Ml
namespace Ml
open PySem PySem.Spec PyProof.Rows L2
section
variable {G : Gx} {α β τ : Type} {H : Hp} {L : List (Asn G)} {σ : L2.St} {ta : TE} [Im G α] [Im G β] {i : Nat} {p : Addr} {x : α × List β}
variable {E : Addr → τ → Asn G} {a : Addr} {xs : List τ}
theorem frontE {A : Asn G} (hS : Sep H L) (e : L[i]? = some A) : ∃ M, Sep H (A :: M) := ⟨_, hS.perm (perm_out e).symm⟩
theorem k_ilE {R : It → Hp → Prop} (hS : Sep H L) (e : L[i]? = some (listE E a xs)) (h : R (Itl G.K a) H) : ilK G.K R (.ref a) H := by
  obtain ⟨M, h1⟩ := frontE hS e
  obtain ⟨ps, hl, hc⟩ := listE_cell h1
  exact ⟨a, rfl, ⟨_, .inl (.inl hc)⟩, h⟩
theorem tyE (hS : Sep H L) (e : L[i]? = some (listE E a xs)) : tyV G.K "list" (.ref a) H := by
  obtain ⟨M, h1⟩ := frontE hS e
  obtain ⟨ps, hl, hc⟩ := listE_cell h1
  exact .inl ⟨rfl, _, .inl (.inl hc)⟩
end
end Ml
namespace Ml
open PySem L2
end Ml
namespace Ml
open PySem PySem.Spec PyProof.Rows L2
variable {G : Gx}
section
variable {κ β : Type} [DecidableEq κ] [Kx κ] [Im G β] {H : Hp} {L L' : List (Asn G)} {σ : L2.St} {Q : VK} {te td ty tx : TE} {k : κ} {a : Addr} {xs : List (κ × β)} {i : Nat}
def get2K (ty tx : TE) (σ : L2.St) (Q : VK) : VK := fun x H1 => ∃ a, x = .ref a ∧ IsD H1 a ∧ ty σ H1 fun y H2 => tx σ H2 fun z H3 => ∃ o, DGet H3 a y o ∧ Q (o.getD z) H3
def get2K2 (a : Addr) (tx : TE) (σ : L2.St) (Q : VK) : VK := fun y H2 => tx σ H2 fun z H3 => ∃ o, DGet H3 a y o ∧ Q (o.getD z) H3
def get2K3 (a : Addr) (y : V) (Q : VK) : VK := fun z H3 => ∃ o, DGet H3 a y o ∧ Q (o.getD z) H3
theorem c_dget2 (h : td σ H (get2K ty tx σ Q)) : tDGet2 td ty tx σ H Q := h
theorem k_get2a (d : IsD H a) (h : ty σ H (get2K2 a tx σ Q)) : get2K ty tx σ Q (.ref a) H := ⟨a, rfl, d, h⟩
theorem k_get2b {y : V} (h : tx σ H (get2K3 a y Q)) : get2K2 a tx σ Q y H := h
def setdK (ty tx : TE) (σ : L2.St) (Q : VK) : VK := fun x H1 => ∃ a, x = .ref a ∧ IsD H1 a ∧ ty σ H1 fun y H2 => tx σ H2 fun z H3 => ∃ (kvs : List (Key × V)) (k : Key), H3 a = some (.dK kvs) ∧ y = kV k ∧ kvs.length < sizeLine ∧
  (∀ v, valV kvs k = some v → Q v H3) ∧ (valV kvs k = none → Q z (upd H3 a (.dK (putK kvs k z))))
def setdK2 (a : Addr) (tx : TE) (σ : L2.St) (Q : VK) : VK := fun y H2 => tx σ H2 fun z H3 => ∃ (kvs : List (Key × V)) (k : Key), H3 a = some (.dK kvs) ∧ y = kV k ∧ kvs.length < sizeLine ∧
  (∀ v, valV kvs k = some v → Q v H3) ∧ (valV kvs k = none → Q z (upd H3 a (.dK (putK kvs k z))))
def setdK3 (a : Addr) (y : V) (Q : VK) : VK := fun z H3 => ∃ (kvs : List (Key × V)) (k : Key), H3 a = some (.dK kvs) ∧ y = kV k ∧ kvs.length < sizeLine ∧
  (∀ v, valV kvs k = some v → Q v H3) ∧ (valV kvs k = none → Q z (upd H3 a (.dK (putK kvs k z))))
theorem c_dsetd (h : td σ H (setdK ty tx σ Q)) : tDSetd td ty tx σ H Q := h
theorem k_setda (d : IsD H a) (h : ty σ H (setdK2 a tx σ Q)) : setdK ty tx σ Q (.ref a) H := ⟨a, rfl, d, h⟩
theorem k_setdb {y : V} (h : tx σ H (setdK3 a y Q)) : setdK2 a tx σ Q y H := h
def unlKA (a : Addr) (od : Obj) (ps : List (Key × V)) (Q : VK) : VK := fun v H' => H' a = some (.frz od (.dK ps)) ∧ Q v (upd H' a (.dK ps))
/-- a statement whose dict is locked: its ends -/
def lockD (a : Addr) (od : Obj) (u : HO) (D : Ends) : Ends := ⟨fun σ' H' => H' a = some (.frz od u) ∧ D.nx σ' (upd H' a u), fun v H' => H' a = some (.frz od u) ∧ D.rt v (upd H' a u), fun σ' H' => H' a = some (.frz od u) ∧ D.bk σ' (upd H' a u), fun σ' H' => H' a = some (.frz od u) ∧ D.ct σ' (upd H' a u)⟩
def itemsK (R : It → Hp → Prop) : VK := fun x H1 => ∃ d o kvs, x = .ref d ∧ H1 d = some (.frz o (.dK kvs)) ∧ R (Iti d o kvs) H1
theorem c_items {R : It → Hp → Prop} (h : td σ H (itemsK R)) : iItems td σ H R := h
end
section
variable {κ β : Type} [DecidableEq κ] [Kx κ] {H : Hp} {M : List (Asn G)} {σ : L2.St} {Q : VK} {te td ty tx : TE} {k : κ} {a : Addr} {kvs : List (κ × β)} {E : Addr → β → Asn G}
/-- the dict's own cell (locked or not), and all it holds -/
def dictX (u : HO → HO) (E : Addr → β → Asn G) (a : Addr) (ps : List Addr) (kvs : List (κ × β)) : Asn G := star (cell a (u (.dK (refsD kvs ps))) :: elemsE E (ps.zip (kvs.map (·.2))))
def dictXH (u : HO → HO) (E : Addr → β → Asn G) (a : Addr) (ps : List Addr) (kvs : List (κ × β)) (j : Nat) : Asn G := star (cell a (u (.dK (refsD kvs ps))) :: elemsE E ((ps.zip (kvs.map (·.2))).eraseIdx j))
def lockE (E : Addr → β → Asn G) (a : Addr) (od : Obj) (ps : List Addr) (kvs : List (κ × β)) : Asn G := andA (ps.length = kvs.length ∧ (kvs.map (·.1)).Nodup) (dictX (HO.frz od) E a ps kvs)
def lockH (E : Addr → β → Asn G) (a : Addr) (od : Obj) (ps : List Addr) (kvs : List (κ × β)) (j : Nat) : Asn G := dictXH (HO.frz od) E a ps kvs j
theorem refs_get {ps : List Addr} {j : Nat} {y : β} (hl : ps.length = kvs.length) (hn : (kvs.map (·.1)).Nodup) (hj : kvs[j]? = some (k, y)) : ∃ p, ps[j]? = some p ∧ valV (refsD kvs ps) (Kx.key k) = some (.ref p) := by
  have hlt : j < kvs.length := (List.getElem?_eq_some_iff.mp hj).1
  have hp : ps[j]? = some ps[j] := List.getElem?_eq_getElem (by omega)
  exact ⟨ps[j], hp, refs_val hl hn hj hp⟩
theorem refs_none {ps : List Addr} (hl : ps.length = kvs.length) (h : dget kvs k = none) : valV (refsD kvs ps) (Kx.key k) = none := by
  induction kvs generalizing ps with
  | nil => cases ps <;> rfl
  | cons kv r ih =>
    cases ps with
    | nil => rfl
    | cons p ps =>
      have hk : ¬ kv.1 = k := fun e => by
        unfold dget at h
        rw [List.find?_cons_of_pos (by simpa using e)] at h
        cases h
      have h2 : dget r k = none := by
        unfold dget at h ⊢
        rw [List.find?_cons_of_neg (by simpa using hk)] at h
        exact h
      have hk2 : ¬ Kx.key kv.1 = Kx.key k := fun e => hk (Kx.inj e)
      show valV ((Kx.key kv.1, V.ref p) :: refsD r ps) (Kx.key k) = none
      rw [valV_neg hk2]
      exact ih (by simpa using hl) h2
theorem dictE_X (h : Sep H (dictE E a kvs :: M)) : ∃ ps, (ps.length = kvs.length ∧ (kvs.map (·.1)).Nodup) ∧ Sep H (dictX id E a ps kvs :: M) := by
  obtain ⟨ps, h⟩ := Sep.ex h
  obtain ⟨hl, h⟩ := Sep.and h
  exact ⟨ps, hl, h⟩
theorem dictX_E {ps : List Addr} (hl : ps.length = kvs.length ∧ (kvs.map (·.1)).Nodup) (h : Sep H (dictX id E a ps kvs :: M)) : Sep H (dictE E a kvs :: M) := Sep.exI ps (Sep.andI hl h)
theorem dictX_cell {u : HO → HO} {ps : List Addr} (h : Sep H (dictX u E a ps kvs :: M)) : H a = some (u (.dK (refsD kvs ps))) := (Sep.star1 h).getCell (i := 0) rfl
theorem dictE_cell (h : Sep H (dictE E a kvs :: M)) : ∃ ps, (ps.length = kvs.length ∧ (kvs.map (·.1)).Nodup) ∧ H a = some (.dK (refsD kvs ps)) := by
  obtain ⟨ps, hl, h⟩ := dictE_X h
  exact ⟨ps, hl, dictX_cell h⟩
theorem lockE_cell {od : Obj} {ps : List Addr} (h : Sep H (lockE E a od ps kvs :: M)) : H a = some (.frz od (.dK (refsD kvs ps))) := dictX_cell (Sep.and h).2
theorem isD_E (h : Sep H (dictE E a kvs :: M)) : IsD H a := by
  obtain ⟨ps, _, hc⟩ := dictE_cell h
  exact .inl ⟨_, .inl hc⟩
theorem outX {u : HO → HO} {ps : List Addr} {j : Nat} {y : β} {p : Addr} (h : Sep H (dictX u E a ps kvs :: M)) (hj : kvs[j]? = some (k, y)) (hp : ps[j]? = some p) : Sep H (E p y :: dictXH u E a ps kvs j :: M) := by
  have h := Sep.star1 h
  have hz : (ps.zip (kvs.map (·.2)))[j]? = some (p, y) := by
    rw [List.getElem?_zip_eq_some]; exact ⟨hp, by rw [List.getElem?_map, hj]; rfl⟩
  have hz2 : (elemsE E (ps.zip (kvs.map (·.2))))[j]? = some (E p y) := by unfold elemsE; rw [List.getElem?_map, hz]; rfl
  have e : (elemsE E (ps.zip (kvs.map (·.2)))).eraseIdx j = elemsE E ((ps.zip (kvs.map (·.2))).eraseIdx j) := by unfold elemsE; rw [erase_map]
  have P := perm_out hz2
  rw [e] at P
  have h2 : Sep H (E p y :: ((cell a (u (.dK (refsD kvs ps))) :: elemsE E ((ps.zip (kvs.map (·.2))).eraseIdx j)) ++ M)) := by
    refine h.perm ?_
    have := (P.symm.cons (cell (G := G) a (u (.dK (refsD kvs ps))))).append_right M
    exact this.trans (by exact List.Perm.swap _ _ _)
  have h3 : Sep H ((cell a (u (.dK (refsD kvs ps))) :: elemsE E ((ps.zip (kvs.map (·.2))).eraseIdx j)) ++ (E p y :: M)) := h2.perm (List.perm_middle.symm)
  exact (Sep.unstar1 h3).perm (List.Perm.swap _ _ _)
theorem set_keys {j : Nat} {y z : β} (hj : kvs[j]? = some (k, y)) : (kvs.set j (k, z)).map (·.1) = kvs.map (·.1) := by
  have hlt : j < kvs.length := (List.getElem?_eq_some_iff.mp hj).1
  have hget : kvs[j] = (k, y) := by rw [List.getElem?_eq_getElem hlt] at hj; exact Option.some.inj hj
  rw [List.map_set]
  have : (kvs.map (·.1))[j]'(by simpa using hlt) = k := by rw [List.getElem_map, hget]
  rw [← this]
  exact List.set_getElem_self _
theorem refs_same : ∀ {l l' : List (κ × β)} {qs : List Addr}, l.map (·.1) = l'.map (·.1) → refsD l qs = refsD l' qs
  | [], [], _, _ => rfl
  | x :: l, y :: l', [], _ => rfl
  | x :: l, y :: l', q :: qs, h => by
    rw [List.map_cons, List.map_cons] at h
    injection h with h1 h2
    show (Kx.key x.1, V.ref q) :: refsD l qs = (Kx.key y.1, V.ref q) :: refsD l' qs
    rw [h1, refs_same h2]
  | [], _ :: _, _, h => by simp at h
  | _ :: _, [], _, h => by simp at h
theorem inX {u : HO → HO} {ps : List Addr} {j : Nat} {y z : β} {p : Addr} (hl : ps.length = kvs.length ∧ (kvs.map (·.1)).Nodup) (hj : kvs[j]? = some (k, y)) (hp : ps[j]? = some p) (h : Sep H (E p z :: dictXH u E a ps kvs j :: M)) : Sep H (dictX u E a ps (dput kvs k z) :: M) := by
  rw [put_at hl.2 hj]
  have hlt : j < kvs.length := (List.getElem?_eq_some_iff.mp hj).1
  have er : refsD (kvs.set j (k, z)) ps = refsD kvs ps := refs_same (set_keys hj)
  have ez : (kvs.set j (k, z)).map (·.2) = (kvs.map (·.2)).set j z := by rw [List.map_set]
  have h2 : Sep H (dictXH u E a ps kvs j :: (E p z :: M)) := h.perm (List.Perm.swap _ _ _)
  have h3 := Sep.star1 h2
  have hz : (ps.zip ((kvs.set j (k, z)).map (·.2)))[j]? = some (p, z) := by
    rw [ez, List.getElem?_zip_eq_some]
    exact ⟨hp, by rw [List.getElem?_set_self (by simpa using hlt)]⟩
  have hz2 : (elemsE E (ps.zip ((kvs.set j (k, z)).map (·.2))))[j]? = some (E p z) := by unfold elemsE; rw [List.getElem?_map, hz]; rfl
  have e : (elemsE E (ps.zip ((kvs.set j (k, z)).map (·.2)))).eraseIdx j = elemsE E ((ps.zip (kvs.map (·.2))).eraseIdx j) := by
    unfold elemsE
    rw [erase_map, ez, zip_hole (by rw [List.length_map]; exact hl.1)]
  have P := perm_out hz2
  rw [e] at P
  unfold dictX
  rw [er]
  refine Sep.unstar1 (h3.perm ?_)
  have q1 : ((cell a (u (.dK (refsD kvs ps))) :: elemsE E ((ps.zip (kvs.map (·.2))).eraseIdx j)) ++ (E p z :: M)).Perm (E p z :: ((cell a (u (.dK (refsD kvs ps))) :: elemsE E ((ps.zip (kvs.map (·.2))).eraseIdx j)) ++ M)) := List.perm_middle
  refine q1.trans ?_
  have := (P.cons (cell (G := G) a (u (.dK (refsD kvs ps))))).append_right M
  exact (List.Perm.swap _ _ _).trans this
theorem keys_put {j : Nat} {y z : β} (hn : (kvs.map (·.1)).Nodup) (hj : kvs[j]? = some (k, y)) : (dput kvs k z).map (·.1) = kvs.map (·.1) := by rw [put_at hn hj, set_keys hj]
theorem unfocDE {ps : List Addr} {j : Nat} {y z : β} {p : Addr} (hl : ps.length = kvs.length ∧ (kvs.map (·.1)).Nodup) (hj : kvs[j]? = some (k, y)) (hp : ps[j]? = some p) (h : Sep H (E p z :: dictXH id E a ps kvs j :: M)) : Sep H (dictE E a (dput kvs k z) :: M) :=
  dictX_E ⟨by rw [hl.1, ← List.length_map (·.1), ← keys_put (z := z) hl.2 hj, List.length_map], by rw [keys_put hl.2 hj]; exact hl.2⟩ (inX hl hj hp h)
theorem put_same {j : Nat} {y : β} (hn : (kvs.map (·.1)).Nodup) (hj : kvs[j]? = some (k, y)) : dput kvs k y = kvs := by
  rw [put_at hn hj]
  obtain ⟨h1, h2⟩ := List.getElem?_eq_some_iff.mp hj
  rw [← h2]; exact List.set_getElem_self h1
theorem unfocDL {od : Obj} {ps : List Addr} {j : Nat} {y z : β} {p : Addr} (hl : ps.length = kvs.length ∧ (kvs.map (·.1)).Nodup) (hj : kvs[j]? = some (k, y)) (hp : ps[j]? = some p) (h : Sep H (E p z :: lockH E a od ps kvs j :: M)) : Sep H (lockE E a od ps (dput kvs k z) :: M) :=
  Sep.andI ⟨by rw [hl.1, ← List.length_map (·.1), ← keys_put (z := z) hl.2 hj, List.length_map], by rw [keys_put hl.2 hj]; exact hl.2⟩ (inX hl hj hp h)
theorem unfocDL0 {od : Obj} {ps : List Addr} {j : Nat} {y : β} {p : Addr} (hl : ps.length = kvs.length ∧ (kvs.map (·.1)).Nodup) (hj : kvs[j]? = some (k, y)) (hp : ps[j]? = some p) (h : Sep H (E p y :: lockH E a od ps kvs j :: M)) : Sep H (lockE E a od ps kvs :: M) := by
  have := unfocDL hl hj hp h
  rw [put_same hl.2 hj] at this; exact this
theorem turnXE {u u' : HO → HO} {ps : List Addr} (h : Sep H (dictX u E a ps kvs :: M)) (n : per G (u (.dK (refsD kvs ps))) = false) (n' : per G (u' (.dK (refsD kvs ps))) = false) (kd : kindOf (u' (.dK (refsD kvs ps))) = kindOf (u (.dK (refsD kvs ps)))) : Sep (upd H a (u' (.dK (refsD kvs ps)))) (dictX u' E a ps kvs :: M) := by
  have h := Sep.star1 h
  exact Sep.unstar1 (h.put (i := 0) (a := a) rfl n' kd)
theorem k_lockSDE {t : TS} {D : Ends} (h : Sep H (dictE E a kvs :: M)) (q : ∀ od ps H', Sep H' (lockE E a od ps kvs :: M) → t (lockD a od (.dK (refsD kvs ps)) D) σ H') : tLock t D σ H := by
  obtain ⟨ps, hl, h⟩ := dictE_X h
  exact ⟨a, .dK (refsD kvs ps), dictX_cell h, True.intro, fun od => q od ps _ (Sep.andI hl (turnXE (u := id) (u' := HO.frz od) h rfl rfl rfl))⟩
theorem k_unlSDE {D : Ends} {od : Obj} {ps : List Addr} {kvs' : List (κ × β)} (h : Sep H (lockE E a od ps kvs' :: M)) (ek : kvs'.map (·.1) = kvs.map (·.1)) (q : ∀ H', Sep H' (dictE E a kvs' :: M) → D.nx σ H') : (lockD a od (.dK (refsD kvs ps)) D).nx σ H := by
  obtain ⟨hl, h⟩ := Sep.and h
  have e := refs_same (qs := ps) ek
  unfold lockD
  rw [← e]
  exact ⟨dictX_cell h, q _ (dictX_E hl (turnXE (u := HO.frz od) (u' := id) h rfl rfl rfl))⟩
theorem newE0 {p : Addr} (hp : H p = none) (hS : Sep H M) : Sep (upd H p (.dK [])) (dictE E p ([] : List (κ × β)) :: M) :=
  Sep.exI [] (Sep.andI ⟨rfl, List.nodup_nil⟩ (Sep.unstar1 (L := [cell p (.dK [])]) (hS.new (o := .dK []) hp rfl)))
theorem k_dnewE (hS : Sep H M) (q : ∀ p H', Sep H' (dictE E p ([] : List (κ × β)) :: M) → Q (.ref p) H') : tDNewK σ H Q := fun p hp => q p _ (newE0 hp hS)
end
section
variable {β : Type} {H : Hp} {M : List (Asn G)} {Q : VK} {a : Addr} {kvs : List (Str × β)} {E : Addr → β → Asn G}
theorem refs_atS : ∀ {kvs : List (Str × β)} {ps : List Addr} {j : Nat} {k : Key} {v : V} {x : Str × β}, (refsD kvs ps)[j]? = some (k, v) → kvs[j]? = some x → kV k = .str x.1 ∧ ∃ p, ps[j]? = some p ∧ v = .ref p
  | q :: qs, p :: ps, 0, k, v, x, e1, e2 => by
    simp only [List.getElem?_cons_zero, Option.some.injEq] at e2
    subst e2
    have e1 : (Kx.key q.1, V.ref p) = (k, v) := Option.some.inj e1
    cases e1
    exact ⟨rfl, p, rfl, rfl⟩
  | _ :: qs, _ :: ps, j + 1, k, v, x, e1, e2 => refs_atS (kvs := qs) (ps := ps) (j := j) (show (refsD qs ps)[j]? = _ from e1) (by simpa using e2)
  | _ :: _, [], _, _, _, _, e1, _ => by simp [refsD] at e1
  | [], ps, _, _, _, _, e1, _ => by cases ps <;> simp [refsD] at e1
end
section
variable {β : Type} [Im G β] {H : Hp} {L L' : List (Asn G)} {Q : VK} {a b : Addr} {i : Nat} {xs : List (Kt × β)} {k : Kt}
theorem imDT.drop : ∀ {ps : List (List Key × V)} {qs : List (Kt × β)} (k : Kt), imDT (G := G) H ps qs → imDT (G := G) H (dropK ps k.ks) (ddrop qs k)
  | [], [], _, _ => True.intro
  | p :: ps, q :: qs, k, ⟨⟨e1, e2⟩, h⟩ => by
    have ih := imDT.drop k h
    unfold dropK ddrop at ih ⊢
    rw [List.filter_cons, List.filter_cons]
    by_cases c : q.1 = k
    · have c1 : p.1 = k.ks := by rw [e1, c]
      simp only [c, c1, ne_eq, not_true_eq_false, decide_false, Bool.false_eq_true, if_false]
      exact ih
    · have c1 : ¬ p.1 = k.ks := fun z => c (Kt.inj (e1.symm.trans z))
      simp only [c, c1, ne_eq, not_false_eq_true, decide_true, if_true]
      exact ⟨⟨e1, e2⟩, ih⟩
  | [], _ :: _, _, h => h.elim
  | _ :: _, [], _, h => h.elim
end
end Ml
namespace Ml
open PySem PySem.W PySem.Calls PyProof.Rows PyProof.V PySem.Spec
end Ml
namespace Ml
open PySem PySem.Spec PyProof.Rows L2 L2.DX
end Ml
namespace Ml
open PySem PySem.Spec PyProof.Rows L2
variable {G : Gx}
section
variable {κ β : Type} [DecidableEq κ] [Kx κ] {H : Hp} {L : List (Asn G)} {σ : L2.St} {Q : VK} {td ty : TE} {k : κ} {a : Addr} {i : Nat} {kvs : List (κ × β)} {E : Addr → β → Asn G}
theorem sat_front {A : Asn G} (h : Sep H L) (e : L[i]? = some A) : ∃ M, Sep H (A :: M) := ⟨_, h.perm (pull_perm e)⟩
theorem Sep.cellL {od : Obj} {ps : List Addr} (h : Sep H L) (e : L[i]? = some (lockE E a od ps kvs)) : (ps.length = kvs.length ∧ (kvs.map (·.1)).Nodup) ∧ H a = some (.frz od (.dK (refsD kvs ps))) := by
  obtain ⟨M, h⟩ := sat_front h e
  exact ⟨(Sep.and h).1, lockE_cell h⟩
theorem isD_Ei (h : Sep H L) (e : L[i]? = some (dictE E a kvs)) : IsD H a := by
  obtain ⟨M, h⟩ := sat_front h e
  exact isD_E h
end
end Ml
namespace Ml
open PySem PySem.Spec PyProof.Rows L2
end Ml
namespace Ml
open PySem PySem.Spec PyProof.Rows L2
end Ml
namespace Ml
open PySem PySem.Spec PyProof.Rows L2
variable {G : Gx}
theorem m1 {X : Cx} {o : Expr} {m : Str} {apos : Pos} {e : Expr} {cpos : Pos} (base : attributeBase o m X.env (eval o X.env) = eval o X.env := by rfl)
  (few : ((backTo cpos (starEach [e] X.env)).all (fun x => !x.1) && (backToKw cpos (keywordEach [] X.env)).all (fun x => x.1.isSome)
    && decide (([e] : List Expr).length + ([] : List Keyword).length + (if ([] : List Keyword).isEmpty then 0 else 1) < 30)) = true := by rfl)
  (line : (apos.endLine == cpos.line) = true := by rfl) (trees : backTo cpos (starEach [e] X.env) = [(false, eval e X.env)] := by rfl) : M1 X o m apos e cpos := ⟨base, few, line, trees⟩
end Ml
namespace Ml
open PySem PySem.Spec PyProof.Rows L2
end Ml
namespace Ml
open PySem PySem.Spec PyProof.Rows L2
end Ml
namespace Ml
open PySem PySem.Spec PyProof.Rows L2
end Ml
namespace Ml
open PySem PySem.Spec PyProof.Rows L2
structure Opq where
variable {G : Gx} {H : Hp}
instance imOpq : Im G Opq := ⟨fun _ _ _ => True, fun _ _ => trivial⟩
end Ml
namespace L2
open PySem PySem.Spec PyProof.Rows Ml
end L2
namespace Ml
open PySem PySem.Spec PyProof.Rows L2
end Ml
namespace Ml
open PySem PySem.Spec PyProof.Rows L2
end Ml
namespace Ml
open PySem PySem.Spec PyProof.Rows L2
end Ml
namespace Ml
open PySem PySem.Spec PyProof.Rows L2
end Ml
namespace Ml
open PySem PySem.Spec PyProof.Rows L2
section
variable {G : Gx} {κ β : Type} [DecidableEq κ] [Kx κ] {H : Hp} {M : List (Asn G)} {a : Addr} {kvs : List (κ × β)} {k : κ} {E : Addr → β → Asn G} {Q : VK}
theorem newX_sep {ps : List Addr} {p : Addr} {y : β} (hl : ps.length = kvs.length ∧ (kvs.map (·.1)).Nodup) (hk : ¬ k ∈ kvs.map (·.1)) (h : Sep H ((cell a (.dK (refsD kvs ps)) :: elemsE E (ps.zip (kvs.map (·.2)))) ++ (E p y :: M))) :
    ((ps ++ [p]).length = (kvs ++ [(k, y)]).length ∧ ((kvs ++ [(k, y)]).map (·.1)).Nodup) ∧ Sep (upd H a (.dK (putK (refsD kvs ps) (Kx.key k) (.ref p)))) (dictX id E a (ps ++ [p]) (kvs ++ [(k, y)]) :: M) := by
  have h2 := h.put (i := 0) (a := a) (o := .dK (refsD kvs ps)) (o' := .dK (putK (refsD kvs ps) (Kx.key k) (.ref p))) rfl rfl rfl
  refine ⟨⟨by rw [List.length_append, List.length_append, hl.1]; rfl, ?_⟩, Sep.unstar1 ?_⟩
  · rw [List.map_append, List.nodup_append]
    refine ⟨hl.2, by simp, fun x hx z hz => ?_⟩
    rw [List.map_singleton, List.mem_singleton] at hz
    intro e
    have hz : z = k := hz
    exact hk (by rw [← hz, ← e]; exact hx)
  · have e1 : elemsE E ((ps ++ [p]).zip ((kvs ++ [(k, y)]).map (·.2))) = elemsE E (ps.zip (kvs.map (·.2))) ++ [E p y] := by
      unfold elemsE
      rw [List.map_append, List.zip_append (by rw [List.length_map]; exact hl.1), List.map_append]
      rfl
    rw [e1, ← refs_new (y := y) hl.1 hk]
    have : ((cell a (.dK (putK (refsD kvs ps) (Kx.key k) (.ref p))) :: elemsE E (ps.zip (kvs.map (·.2)))) ++ (E p y :: M)) = ((cell a (.dK (putK (refsD kvs ps) (Kx.key k) (.ref p))) :: (elemsE E (ps.zip (kvs.map (·.2))) ++ [E p y])) ++ M) := by simp
    show Sep _ ((cell a (.dK (putK (refsD kvs ps) (Kx.key k) (.ref p))) :: (elemsE E (ps.zip (kvs.map (·.2))) ++ [E p y])) ++ M)
    rw [← this]
    exact h2
theorem k_setdE3 {p0 : Addr} {z : β} (h : Sep H (dictE E a kvs :: E p0 z :: M)) (hz : kvs.length < sizeLine)
    (q : ∀ ps p j H', (ps.length = (setE kvs k z).length ∧ ((setE kvs k z).map (·.1)).Nodup) → (setE kvs k z)[j]? = some (k, (dget kvs k).getD z) → ps[j]? = some p → Sep H' (E p ((dget kvs k).getD z) :: dictXH id E a ps (setE kvs k z) j :: M) → Q (.ref p) H') :
    setdK3 a (kV (Kx.key k)) Q (.ref p0) H := by
  obtain ⟨ps, hl, h⟩ := dictE_X h
  refine ⟨refsD kvs ps, Kx.key k, dictX_cell h, rfl, by rw [refs_len hl.1]; exact hz, fun v hv => ?_, fun hv => ?_⟩
  · cases e : dget kvs k with
    | none => rw [refs_none hl.1 e] at hv; cases hv
    | some y =>
      obtain ⟨j, hj⟩ := dget_idx e
      have eE : setE kvs k z = kvs := by unfold setE dhas; rw [e]; rfl
      obtain ⟨p, hp, e2⟩ := refs_get hl.1 hl.2 hj
      rw [e2] at hv
      cases hv
      rw [e, eE] at q
      exact q ps p j H hl hj hp (outX (Sep.tail (h.perm (List.Perm.swap _ _ _))) hj hp)
  · cases e : dget kvs k with
    | some y =>
      exfalso
      obtain ⟨j, hj⟩ := dget_idx e
      obtain ⟨p, hp, e2⟩ := refs_get hl.1 hl.2 hj
      rw [e2] at hv; cases hv
    | none =>
      have eE : setE kvs k z = kvs ++ [(k, z)] := by unfold setE dhas; rw [e]; rfl
      obtain ⟨hl2, h2⟩ := newX_sep (k := k) hl (dhas_no e) (Sep.star1 h)
      have hj : (kvs ++ [(k, z)])[kvs.length]? = some (k, z) := by simp
      have hp : (ps ++ [p0])[kvs.length]? = some p0 := by rw [← hl.1]; simp
      rw [e, eE] at q
      exact q (ps ++ [p0]) p0 kvs.length _ hl2 hj hp (outX h2 hj hp)
end
end Ml
namespace Ml
open PySem PySem.Spec PyProof.Rows L2
end Ml
namespace Ml
open PySem PySem.Spec PyProof.Rows L2
end Ml
namespace Ml
open PySem PySem.Spec PyProof.Rows L2
end Ml
namespace L2
open PySem PySem.Spec PyProof.Rows
end L2
namespace Ml
open PySem PySem.Spec PyProof.Rows L2
end Ml
namespace Ml
open PySem PySem.Spec PyProof.Rows L2
end Ml
namespace Ml
open PySem PySem.Spec PyProof.Rows L2
end Ml
namespace Ml
open PySem PySem.Spec PyProof.Rows L2
end Ml
namespace L2
open PySem PySem.Spec PyProof.Rows
/-- a def's promise where no repr is under way -/
structure FnG (P : Program) (w : World) (K : PySem.W.Frag) (mg : Str → Option Value) (base : Heap) (CX : CXT) (k : Nat) (f : Addr) (fd : FuncData) (ps : List Str) (sp : Sp) : Prop where
  len : ∀ vs H Q E, sp vs H Q E → vs.length = ps.length
  run : ∀ (A : Around) (outer : List Env) (s : Shared) (H : Hp) (args : Args) (us : List Value) (vs : List V) (Q : VK) (E : XK), A.guards = some [] → Room k A → Env0 P w K mg base A outer s H → BindsTo s fd args (ps.zip us) → Vals vs us → sp vs H Q E →
    codeAny (model P w) A (.call (.ref f) args) (CR CX outer P w H s Q E) s
theorem FnG.imp {P : Program} {w : World} {K : PySem.W.Frag} {mg : Str → Option Value} {base : Heap} {CX : CXT} {k : Nat} {f : Addr} {fd : FuncData} {ps : List Str} {sp sp' : Sp} (F : FnG P w K mg base CX k f fd ps sp)
    (h : ∀ vs H Q E, sp' vs H Q E → sp vs H Q E) : FnG P w K mg base CX k f fd ps sp' :=
  ⟨fun vs H Q E q => F.len vs H Q E (h _ _ _ _ q), fun A outer s H args us vs Q E hg hr he hb hv hs => F.run A outer s H args us vs Q E hg hr he hb hv (h _ _ _ _ hs)⟩
end L2
namespace Ml
open PySem PySem.Spec PyProof.Rows L2
end Ml
namespace L2
open PySem PySem.Spec PyProof.Rows
end L2
namespace Ml
open PySem PySem.Spec PyProof.Rows L2
end Ml
namespace Ml
open PySem PySem.Spec PyProof.Rows L2
end Ml
namespace Ml
open PySem PySem.Spec PyProof.Rows L2
section
variable {G : Gx} {α β γ : Type} {H : Hp} {L L' M : List (Asn G)} {p : Addr} [Im G α] {E : Addr → γ → Asn G} {Q : VK} {i : Nat}
theorem k_lstC {vs : List V} (hS : Sep H L) (z : vs.length ≤ sizeLine) (k : ∀ p H', Sep H' (cell p (.lst vs) :: L) → Q (.ref p) H') : lstK Q vs H := ⟨z, fun p hp => k p _ (hS.new hp rfl)⟩
end
end Ml
namespace Ml
open PySem PySem.Spec PyProof.Rows L2
end Ml
namespace Ml
open PySem PySem.Spec PyProof.Rows L2
end Ml
namespace Ml
open PySem PySem.Spec PyProof.Rows L2
end Ml
namespace Ml
open PySem PySem.Spec PyProof.Rows L2
end Ml
namespace Ml
open PySem PySem.Spec PyProof.Rows L2
end Ml
namespace Ml
open PySem PySem.Spec PyProof.Rows L2
section
variable {G : Gx} {H : Hp} {L : List (Asn G)}
theorem imAnyL_of : ∀ {vs : List V} {xs : List Any}, imL (G := G) H vs xs → imAnyL H vs xs
  | [], [], _ => by rw [imAnyL]; trivial
  | v :: vs, x :: xs, h => by rw [imAnyL]; exact ⟨h.1, imAnyL_of h.2⟩
  | [], _ :: _, h => h.elim
  | _ :: _, [], h => h.elim
theorem dpOwnA {i : Nat} {a : Addr} {xs : List Any} (hS : Sep H L) (e : L[i]? = some (lstA a xs)) (pl : plAL xs = true) : Dp G.K H (.ref a) (.list (pdAL xs)) := by
  obtain ⟨vs, s, m⟩ := hS.sq e
  exact .lst s (dpAL (imAnyL_of m) pl)
end
end Ml
namespace Ml
open PySem PySem.Spec PyProof.Rows L2
section
variable {G : Gx} {α β γ : Type} {H : Hp} {L M : List (Asn G)} {p : Addr} {Q : VK} {σ : L2.St} {ta tb : TE} {v w : V}
theorem Sep.as {A B : Asn G} (i : ∀ H fp, A.sat H fp → B.sat H fp) (h : Sep H (A :: M)) : Sep H (B :: M) := by
  obtain ⟨fp, ⟨f1, f2, e, a, k⟩, h2, h3⟩ := h
  exact ⟨fp, ⟨f1, f2, e, i _ _ a, k⟩, h2, h3⟩
theorem imL_conv [Im G α] [Im G β] {f : α → β} (hf : ∀ H v x, Im.im G H v x → Im.im G H v (f x)) : ∀ {vs : List V} {xs : List α}, imL (G := G) H vs xs → imL (G := G) H vs (xs.map f)
  | [], [], _ => True.intro
  | v :: vs, x :: xs, h => ⟨hf _ _ _ h.1, imL_conv hf h.2⟩
  | [], _ :: _, h => h.elim
  | _ :: _, [], h => h.elim
theorem ev_eqO {x y : List Any} {b : Bool} (ha : Ev ta σ H v) (hb : Ev tb σ H w) (d1 : plAL x = true → Dp G.K H v (.list (pdAL x))) (d2 : plAL y = true → Dp G.K H w (.list (pdAL y)))
    (h : plA (.lst x) = true ∧ plA (.lst y) = true ∧ SeqAt.shaped (pdA (.lst x)) = true ∧ SeqAt.shaped (pdA (.lst y)) = true ∧ b = PyData.eqv (pdA (.lst x)) (pdA (.lst y))) : Ev (tOp (rEqD G.K) ta tb) σ H (.bl b) := ev_op ha hb fun Q q => by
  obtain ⟨h1, h2, h3, h4, rfl⟩ := h
  rw [plA] at h1 h2
  have e1 : pdA (.lst x) = .list (pdAL x) := by rw [pdA]
  have e2 : pdA (.lst y) = .list (pdAL y) := by rw [pdA]
  rw [e1] at h3 q
  rw [e2] at h4 q
  exact ⟨_, _, d1 h1, d2 h2, h3, h4, q⟩
theorem ev_neO {x y : List Any} {b : Bool} (ha : Ev ta σ H v) (hb : Ev tb σ H w) (d1 : plAL x = true → Dp G.K H v (.list (pdAL x))) (d2 : plAL y = true → Dp G.K H w (.list (pdAL y)))
    (h : plA (.lst x) = true ∧ plA (.lst y) = true ∧ SeqAt.shaped (pdA (.lst x)) = true ∧ SeqAt.shaped (pdA (.lst y)) = true ∧ b = PyData.eqv (pdA (.lst x)) (pdA (.lst y))) : Ev (tOp (rNeD G.K) ta tb) σ H (.bl (!b)) := ev_op ha hb fun Q q => by
  obtain ⟨h1, h2, h3, h4, rfl⟩ := h
  rw [plA] at h1 h2
  have e1 : pdA (.lst x) = .list (pdAL x) := by rw [pdA]
  have e2 : pdA (.lst y) = .list (pdAL y) := by rw [pdA]
  rw [e1] at h3 q
  rw [e2] at h4 q
  exact ⟨_, _, d1 h1, d2 h2, h3, h4, q⟩
end
end Ml
namespace Ml
open PySem PySem.Spec PyProof.Rows L2
section
variable {G : Gx} {β : Type} {H : Hp} {L M : List (Asn G)} {E : Addr → β → Asn G} {a p : Addr} {xs : List β} {ps : List Addr} {i : Int} {j n : Nat} {x : β} {Q : VK}
theorem listE_nil (hS : Sep H (cell a (.lst []) :: M)) : Sep H (listE E a ([] : List β) :: M) := Sep.exI [] (Sep.andI rfl (Sep.unstar1 (L := [cell a (.lst [])]) hS))
end
end Ml
namespace Ml
open PySem PySem.Spec PyProof.Rows L2
section
variable {G : Gx} {β : Type} {H : Hp} {M : List (Asn G)} {Q : VK} {a : Addr} {kvs : List (Str × β)} {E : Addr → β → Asn G}
def valsK (R : It → Hp → Prop) : VK := fun x H1 => ∃ d o kvs, x = .ref d ∧ H1 d = some (.frz o (.dK kvs)) ∧ R (Itd d o kvs) H1
theorem c_values {td : TE} {σ : L2.St} {R : It → Hp → Prop} (h : td σ H (valsK R)) : iVals td σ H R := h
theorem k_valuesE {od : Obj} {ps : List (Key × V)} {R : It → Hp → Prop} (e : H a = some (.frz od (.dK ps))) (k : R (Itd a od ps) H) : valsK R (.ref a) H := ⟨a, od, ps, rfl, e, k⟩
def imVD (ps : List Addr) (kvs : List (Str × β)) (H : Hp) (v : V) (x : β) : Prop := ∃ (j : Nat) (p : Addr) (k : Str), kvs[j]? = some (k, x) ∧ ps[j]? = some p ∧ v = .ref p
theorem wk_valsE {od : Obj} {ps : List Addr} {I : L2.St → Hp → Prop} (hl : ps.length = kvs.length) (f : ∀ σ H, I σ H → H a = some (.frz od (.dK (refsD kvs ps)))) : Wk (Itd a od (refsD kvs ps)) I (imVD ps kvs) (kvs.map (·.2)) where
  go := fun j σ H h l => by
    rw [List.length_map] at l
    exact ⟨f σ H h, by rw [refs_len hl]; exact l⟩
  yl := fun j σ H v H' x h e y => by
    obtain ⟨rfl, k, e1⟩ := y
    rw [List.getElem?_map] at e
    cases c : kvs[j]? with
    | none => rw [c] at e; cases e
    | some z =>
      rw [c] at e
      cases e
      obtain ⟨_, p, hp, rfl⟩ := refs_atS e1 c
      exact ⟨h, j, p, z.1, c, hp, rfl⟩
  sp := fun σ H h => ⟨f σ H h, by rw [List.length_map, refs_len hl]; exact Nat.le_refl _⟩
/-- an item: a new tuple of the key and the thing -/
def imID (ps : List Addr) (kvs : List (Str × β)) (H : Hp) (v : V) (x : Str × β) : Prop := ∃ (j : Nat) (p T : Addr), kvs[j]? = some x ∧ ps[j]? = some p ∧ v = .ref T ∧ H T = some (.tup [.str x.1, .ref p])
theorem k_itemsE {od : Obj} {ps : List (Key × V)} {R : It → Hp → Prop} (e : H a = some (.frz od (.dK ps))) (k : R (Iti a od ps) H) : itemsK R (.ref a) H := ⟨a, od, ps, rfl, e, k⟩
theorem wk_itemsE {od : Obj} {ps : List Addr} {I : L2.St → Hp → Prop} (hl : ps.length = kvs.length) (f : ∀ σ H, I σ H → H a = some (.frz od (.dK (refsD kvs ps)))) (mo : ∀ σ H H', I σ H → Same H H' → I σ H') : Wk (Iti a od (refsD kvs ps)) I (imID ps kvs) kvs where
  go := fun j σ H h l => ⟨f σ H h, by rw [refs_len hl]; exact l⟩
  yl := fun j σ H v H' x h e y => by
    obtain ⟨T, k, w, e1, rfl, hT, rfl⟩ := y
    obtain ⟨e2, p, hp, rfl⟩ := refs_atS e1 e
    rw [e2]
    exact ⟨mo _ _ _ h (same_new (o := HO.tup [V.str x.1, .ref p]) hT), j, p, T, e, hp, rfl, upd_same⟩
  sp := fun σ H h => ⟨f σ H h, by rw [refs_len hl]; exact Nat.le_refl _⟩
/-- the one that is at hand, taken out -/
theorem focusVL {od : Obj} {ps : List Addr} {v : V} {x : β} (h : Sep H (lockE E a od ps kvs :: M)) (hx : imVD ps kvs H v x) :
    ∃ j p k, (ps.length = kvs.length ∧ (kvs.map (·.1)).Nodup) ∧ kvs[j]? = some (k, x) ∧ ps[j]? = some p ∧ v = .ref p ∧ Sep H (E p x :: lockH E a od ps kvs j :: M) := by
  obtain ⟨j, p, k, hj, hp, rfl⟩ := hx
  obtain ⟨hl, h1⟩ := Sep.and h
  exact ⟨j, p, k, hl, hj, hp, rfl, outX h1 hj hp⟩
theorem focusIL {od : Obj} {ps : List Addr} {v : V} {x : Str × β} (h : Sep H (lockE E a od ps kvs :: M)) (hx : imID ps kvs H v x) :
    ∃ j p T, (ps.length = kvs.length ∧ (kvs.map (·.1)).Nodup) ∧ kvs[j]? = some (x.1, x.2) ∧ ps[j]? = some p ∧ v = .ref T ∧ H T = some (.tup [.str x.1, .ref p]) ∧ Sep H (E p x.2 :: lockH E a od ps kvs j :: M) := by
  obtain ⟨j, p, T, hj, hp, rfl, hT⟩ := hx
  obtain ⟨hl, h1⟩ := Sep.and h
  exact ⟨j, p, T, hl, hj, hp, rfl, hT, outX h1 hj hp⟩
end
section
variable {G : Gx} {κ β : Type} [DecidableEq κ] [Kx κ] {H : Hp} {M : List (Asn G)} {a : Addr} {kvs : List (κ × β)} {k : κ} {E : Addr → β → Asn G} {Q : VK}
def dictP (E : Addr → β → Asn G) (a : Addr) (ps : List Addr) (kvs : List (κ × β)) : Asn G := andA (ps.length = kvs.length ∧ (kvs.map (·.1)).Nodup) (dictX id E a ps kvs)
theorem dictP_E {ps : List Addr} (h : Sep H (dictP E a ps kvs :: M)) : Sep H (dictE E a kvs :: M) := by
  obtain ⟨hl, h1⟩ := Sep.and h
  exact dictX_E hl h1
theorem k_get2P {p0 : Addr} {z : β} (h : Sep H (dictE E a kvs :: E p0 z :: M))
    (q : ∀ p ps (R S : Asn G), (∀ H' M', Sep H' (E p ((dget kvs k).getD z) :: R :: M') → Sep H' (dictP E a ps kvs :: S :: M')) → (∀ H' M', Sep H' (dictP E a ps kvs :: S :: M') → Sep H' (E p ((dget kvs k).getD z) :: R :: M')) →
      Sep H (E p ((dget kvs k).getD z) :: R :: M) → Q (.ref p) H) : get2K3 a (kV (Kx.key k)) Q (.ref p0) H := by
  obtain ⟨ps, hl, hx⟩ := dictE_X h
  have hc := dictX_cell hx
  cases e : dget kvs k with
  | none =>
    refine ⟨none, .inl ⟨_, Kx.key k, .inl hc, rfl, (refs_none hl.1 e).symm⟩, ?_⟩
    rw [e] at q
    have h1 : Sep H (dictP E a ps kvs :: E p0 z :: M) := Sep.andI hl hx
    exact q p0 ps (dictP E a ps kvs) (E p0 z) (fun H' M' hs => hs.perm (List.Perm.swap _ _ _)) (fun H' M' hs => hs.perm (List.Perm.swap _ _ _)) (h1.perm (List.Perm.swap _ _ _))
  | some y =>
    obtain ⟨j, hj⟩ := dget_idx e
    obtain ⟨p, hp, e2⟩ := refs_get hl.1 hl.2 hj
    refine ⟨some (.ref p), .inl ⟨_, Kx.key k, .inl hc, rfl, e2.symm⟩, ?_⟩
    rw [e] at q
    have h1 : Sep H (E p y :: (dictXH id E a ps kvs j :: M)) := outX (Sep.tail (hx.perm (List.Perm.swap _ _ _))) hj hp
    refine q p ps (dictXH id E a ps kvs j) (star []) (fun H' M' hs => ?_) (fun H' M' hs => ?_) h1
    · have h2 := inX hl hj hp hs
      rw [show (some y).getD z = y from rfl, put_same hl.2 hj] at h2
      have h3 : Sep H' (dictP E a ps kvs :: M') := Sep.andI hl h2
      exact (Sep.unstar1 (L := []) (M := dictP E a ps kvs :: M') h3).perm (List.Perm.swap _ _ _)
    · have h2 : Sep H' (star [] :: dictP E a ps kvs :: M') := hs.perm (List.Perm.swap _ _ _)
      have h3 : Sep H' (dictP E a ps kvs :: M') := Sep.star1 h2
      exact outX (Sep.and h3).2 hj hp
end
end Ml
namespace L2
open PySem PySem.Spec PyProof.Rows
section
variable {X : Cx}
theorem dpInts (K : PySem.W.Frag) (H : Hp) : ∀ ns : List Int, DpAll K H (ns.map V.int) (ns.map PyData.int)
  | [] => .nil
  | n :: ns => .cons (.int n) (dpInts K H ns)
theorem depthInts : ∀ ns : List Int, PyData.depthAll (ns.map PyData.int) = 0
  | [] => rfl
  | n :: ns => by
    show max (PyData.depth (.int n)) (PyData.depthAll (ns.map PyData.int)) = 0
    rw [depthInts ns]; rfl
theorem alikeInts (ns : List Int) : PySem.W.AlikeAll (ns.map PyData.int) := by
  refine ⟨fun x hx y hy => ?_, fun x hx => ?_⟩
  · obtain ⟨i, _, rfl⟩ := List.mem_map.mp hx
    obtain ⟨j, _, rfl⟩ := List.mem_map.mp hy
    rfl
  · obtain ⟨i, _, rfl⟩ := List.mem_map.mp hx
    simp
def rNeR : R2 := fun x y H Q => ∃ a b ks ls, x = .ref a ∧ y = .ref b ∧ Rd H a (.dK ks) ∧ Rd H b (.dK ls) ∧ ks.length = ls.length ∧ (∀ p ∈ ks, valV ls p.1 = some p.2 ∧ flatB p.2 = true) ∧ Q (.bl false) H
def rEqR : R2 := fun x y H Q => ∃ a b ks ls, x = .ref a ∧ y = .ref b ∧ Rd H a (.dK ks) ∧ Rd H b (.dK ls) ∧ ks.length = ls.length ∧ (∀ p ∈ ks, valV ls p.1 = some p.2 ∧ flatB p.2 = true) ∧ Q (.bl true) H
theorem op_ne_dictR (hu : X.A.units < cLine) : OpR X (compareOp .NotEq) rNeR := by
  intro pins s σ H x y v u Q I rx ry h
  obtain ⟨a, b, ks, ls, rfl, rfl, ea, eb, hlen, hp, q⟩ := h
  obtain rfl : v = Value.ref a := rx
  obtain rfl : u = Value.ref b := ry
  obtain ⟨_, ya, va, ra, da⟩ := (show ObjOk X.prog X.w H s.heap a (.dK ks) from ea.ok I.hok)
  obtain ⟨_, yb, vb, rb, db⟩ := (show ObjOk X.prog X.w H s.heap b (.dK ls) from eb.ok I.hok)
  have hl : va.length = vb.length := by rw [← ra.length, ← rb.length]; exact hlen
  exact PySem.W.keq_ne (knd := mixKind X.prog X.w) (r := true) ya yb da db hu (fun _ => hits_all rb ra hp) (fin_bl I q (by simp [hl]))
theorem op_eq_dictR (hu : X.A.units < cLine) : OpR X (compareOp .Eq) rEqR := by
  intro pins s σ H x y v u Q I rx ry h
  obtain ⟨a, b, ks, ls, rfl, rfl, ea, eb, hlen, hp, q⟩ := h
  obtain rfl : v = Value.ref a := rx
  obtain rfl : u = Value.ref b := ry
  obtain ⟨_, ya, va, ra, da⟩ := (show ObjOk X.prog X.w H s.heap a (.dK ks) from ea.ok I.hok)
  obtain ⟨_, yb, vb, rb, db⟩ := (show ObjOk X.prog X.w H s.heap b (.dK ls) from eb.ok I.hok)
  have hl : va.length = vb.length := by rw [← ra.length, ← rb.length]; exact hlen
  exact PySem.W.keq_eq (knd := mixKind X.prog X.w) (r := true) ya yb da db hu (fun _ => hits_all rb ra hp) (fin_bl I q (by simp [hl]))
end
end L2
namespace Ml
open PySem PySem.Spec PyProof.Rows L2
def dEq (xs ys : List (Str × Int)) : Bool := xs.length == ys.length && xs.all fun p => dget ys p.1 == some p.2
section
variable {G : Gx} {H : Hp} {L : List (Asn G)} {Q : VK} {a b : Addr} {i j : Nat}
theorem dEq_at {ks ls : List (Key × V)} {xs ys : List (Str × Int)} (m : imD (G := G) H ks xs) (n : imD (G := G) H ls ys) (h : dEq xs ys = true) : ks.length = ls.length ∧ ∀ p ∈ ks, valV ls p.1 = some p.2 ∧ flatB p.2 = true := by
  unfold dEq at h
  simp only [Bool.and_eq_true, beq_iff_eq, List.all_eq_true] at h
  refine ⟨by rw [m.len, n.len]; exact h.1, fun p hp => ?_⟩
  obtain ⟨q, hq, e1, e2⟩ : ∃ q ∈ xs, p.1 = Kx.key q.1 ∧ p.2 = .int q.2 := by
    clear h n
    induction ks generalizing xs with
    | nil => cases hp
    | cons k ks ih =>
      cases xs with
      | nil => exact m.elim
      | cons x xs =>
        rcases List.mem_cons.mp hp with rfl | hp
        · exact ⟨x, List.mem_cons_self .., m.1.1, m.1.2⟩
        · obtain ⟨q, hq, e⟩ := ih m.2 hp
          exact ⟨q, List.mem_cons_of_mem _ hq, e⟩
  rw [e1, e2]
  obtain ⟨v, hv, im⟩ := (n.val q.1).1 q.2 (by simpa using h.2 q hq)
  rw [hv, show v = V.int q.2 from im]
  exact ⟨rfl, rfl⟩
end
end Ml
namespace L2
open PySem PySem.Spec PyProof.Rows
/-- x[i] for a local name of a tuple -/
theorem key_item {P : Program} {w : World} {A : Around} {E : Value → Shared → Prop} {s : Shared} {env : Env} {p : Str} {t : Addr} {its : List Value} {i : Nat} {x : Value} {m : Str → Option Value} {q1 q2 pos : Pos} {j : Nat} {Q : Value → Shared → Prop}
    (hk : env.scope.kind = .function) (hp : env.kindOf p = some .local) (ns : s.heap.Ns env.locals m) (hm : m p = some (.ref t)) (ht : IsTup s.heap t its.toArray) (hi : its[i]? = some x) (hsz : its.length ≤ sizeLine) (hd : (p == ("__debug__" : Str)) = false)
    (q : Q x { s with toks := s.toks + 1 }) : wpAny (model P w) A (eval (.Subscript (.Name p q1) (.Constant (.int i) j q2) pos) env) Q E s := by
  have hn := line63
  have hl : i < its.length := by
    by_cases c : i < its.length
    · exact c
    · rw [List.getElem?_eq_none (by omega)] at hi; cases hi
  refine Subscript_ (wpAny_Name (wpAny_loadName_local hk hp ns hm ?_) hd)
  refine wpAny_Constant_int ?_
  refine subscriptTail_builtinR (x := x) (T := "tuple") ?_ slot_tuple_getitem.lookup ?_ (by rfl)
  · exact IsTup.typeIs (s := { s with toks := s.toks + 1 }) ht
  · exact getItem_tuple (s := { s with toks := s.toks + 1 }) (j := i) (Q := fun r s' => r = x ∧ Q r s') ht (by omega) (by omega) (by
      rw [List.size_toArray]
      exact seqIndex_of (by omega) (by omega)) (by simpa using hi) ⟨rfl, q⟩
theorem key_call {P : Program} {w : World} {K : PySem.W.Frag} {A : Around} {E : Value → Shared → Prop} {s : Shared} {x qual p : Str} {st : Stmt} {f : Addr} {fd : FuncData} {N : List Str} {t : Addr} {its : List Value} {u v : Value} {k0 k1 : PyData} {q1 q2 q3 q4 q5 q6 q7 q8 : Pos} {j1 j2 j3 : Nat}
    (F : Fun K x qual st f fd) (S : FnScope N [p] (defScope st)) (hloc : (defScope st).names.lookup p = some .local) (hbody : defBody st = [.Return (some (.Tuple [.Subscript (.Name p q1) (.Constant (.int 0) j1 q2) q3, .Subscript (.Name p q4) (.Constant (.int 1) j2 q5) q6] j3 q7)) q8])
    (KX : K.In s.heap) (lim : s.heap.NoLimit) (dp : A.depth < recursionLimit) (hb : BindsTo s fd ⟨[.ref t], []⟩ [(p, .ref t)]) (hd : (p == ("__debug__" : Str)) = false)
    (ht : IsTup s.heap t its.toArray) (hsz : its.length ≤ sizeLine) (h0 : its[0]? = some u) (h1 : its[1]? = some v) (r0 : ∀ h, Reads h u k0 []) (r1 : ∀ h, Reads h v k1 []) :
    wpAny (model P w) A (call (.ref f) [.ref t]) (PySem.W.KeyPure (.tuple [k0, k1]) s) (fun _ _ => False) s := by
  obtain ⟨oc, od, kV, doc, pm, an, cdv, ct, osl, rfl, lk, hcd⟩ := F.ex
  refine wpAny_call ?_
  refine codeAny_call_function dp (KX _ _ lk) rfl S.co S.gen rfl (PySem.W.codeRec_of KX hcd) (hb _ _ _ _ ?_)
  refine wpAny_newFunctionEnv_cells S.kind (fun y hy => ?_) fun env he s1 xx => ?_
  · rw [List.mem_singleton] at hy
    subst hy
    exact .inl hloc
  subst he
  refine ⟨lim.keeps xx.toInCall.keep, codeAny_func ?_⟩
  have hbd : (PySem.W.fnOf x qual (defArgs st) (defBody st) (defScope st) .none kV doc pm an cdv ct).scope = defScope st := rfl
  show wpAny _ _ (execs (defBody st) _) _ _ s1
  rw [hbody]
  have kx : ∀ {e : Env}, e.scope = defScope st → e.kindOf p = some .local := fun {e} h => by
    unfold Env.kindOf
    rw [h]
    exact hloc
  have hm := xx.toInCall.ns
  have e0 : ∀ m : Str → Option Value, (bindL (newEnv (defScope st) s.heap.objs.size mainGlobals (cellsFrom (s.heap.objs.size + 1) (defScope st).names []) (qual ++ Str.ofString ".<locals>.") (some f) cdv none builtinsNs).kindOf [(p, Value.ref t)] m) p = some (.ref t) := fun m => by
    show (if _ then _ else m) p = _
    rw [if_pos (kx rfl)]
    exact if_pos rfl
  obtain ⟨h', tk, e1, k1'⟩ := xx.done
  have ht1 : IsTup s1.heap t its.toArray := by
    obtain ⟨o, a1, a2, a3⟩ := ht
    exact ⟨o, xx.toInCall.keep _ _ a1, a2, a3⟩
  refine wpAny_execs_cons (wpAny_Return_some (wpAny_Tuple ?_))
  refine wpAny_items_cons ?_
  refine key_item (i := 0) S.kind (kx rfl) hm (e0 _) ht1 h0 hsz hd ?_
  refine wpAny_items_cons ?_
  refine key_item (i := 1) (s := { s1 with toks := s1.toks + 1 }) S.kind (kx rfl) hm (e0 _) ht1 h1 hsz hd ?_
  refine wpAny_items_nil ?_
  refine ⟨by show 2 ≤ sizeLine; rw [sizeLine_eq]; decide, ?_⟩
  show PySem.W.KeyPure (.tuple [k0, k1]) s (.ref _) _
  refine ⟨s1.heap.push { cls := .type "tuple", data := .seq #[u, v] }, s1.toks + 2, ?_, fun b o hbo => ?_, ?_⟩
  · subst e1
    rfl
  · exact Heap.get?_push_of_some _ (xx.toInCall.keep _ _ hbo)
  · have := Reads.tuple (h := s1.heap.push { cls := .type "tuple", data := .seq #[u, v] }) (xs := [k0, k1]) (as := []) (Heap.get?_push_size _ rfl) rfl rfl (ReadsAll.cons (r0 _) (ReadsAll.cons (r1 _) ReadsAll.nil))
    exact this
/-- f: return (x[0], x[1]) -/
def KeyF (P : Program) (w : World) (K : PySem.W.Frag) (f : Addr) : Prop := ∀ (A : Around) (s : Shared) (t : Addr) (its : List Value) (u v : Value) (k0 k1 : PyData), K.In s.heap → s.heap.NoLimit → A.depth < recursionLimit → IsTup s.heap t its.toArray → its.length ≤ sizeLine → its[0]? = some u → its[1]? = some v →
  (∀ h, Reads h u k0 []) → (∀ h, Reads h v k1 []) → wpAny (model P w) A (call (.ref f) [.ref t]) (PySem.W.KeyPure (.tuple [k0, k1]) s) (fun _ _ => False) s
theorem keyF_of {P : Program} {w : World} {K : PySem.W.Frag} {x qual p : Str} {st : Stmt} {f : Addr} {fd : FuncData} {N : List Str} {q1 q2 q3 q4 q5 q6 q7 q8 : Pos} {j1 j2 j3 : Nat}
    (F : Fun K x qual st f fd) (S : FnScope N [p] (defScope st)) (hloc : (defScope st).names.lookup p = some .local) (hbody : defBody st = [.Return (some (.Tuple [.Subscript (.Name p q1) (.Constant (.int 0) j1 q2) q3, .Subscript (.Name p q4) (.Constant (.int 1) j2 q5) q6] j3 q7)) q8])
    (hb : Binds K fd [p] []) (hd : (p == ("__debug__" : Str)) = false) : KeyF P w K f := fun A s t its u v k0 k1 KX lim dp ht hsz h0 h1 r0 r1 =>
  key_call (E := fun _ _ => True) F S hloc hbody KX lim dp (hb s [.ref t] KX rfl) hd ht hsz h0 h1 r0 r1
def kst (q : Addr × Int × Str) : PyData := .tuple [.int q.2.1, .str q.2.2]
def rSortK (K : PySem.W.Frag) (f : Addr) : List V → List V → Hp → VK → Prop := fun vs zs H Q => ∃ (a : Addr) (M : List (Addr × Int × Str)), vs = [.ref a] ∧ zs = [.ref f] ∧ SqL K H a (M.map fun q => V.ref q.1) ∧ (∀ q ∈ M, ∃ r, SqT K H q.1 (.int q.2.1 :: .str q.2.2 :: r)) ∧ M.length ≤ sizeLine ∧
  ∀ p, H p = none → Q (.ref p) (upd H p (.lst ((M.mergeSort (PySem.W.dataLe false kst)).map fun q => V.ref q.1)))
theorem vrefsK : ∀ {M : List (Addr × Int × Str)} {us : List Value} {R : Value → Addr × Int × Str → Prop}, Vals (M.map fun q => V.ref q.1) us → (∀ q ∈ M, R (.ref q.1) q) → PySem.W.EachIs R us M
  | [], [], _, _, _ => .nil
  | q :: M, u :: us, R, h, k => by
    cases h with
    | cons h1 h2 =>
      cases h1
      exact .cons (k q (List.mem_cons_self ..)) (vrefsK h2 fun z hz => k z (List.mem_cons_of_mem _ hz))
  | [], _ :: _, _, h, _ => by cases h
  | _ :: _, [], _, h, _ => by cases h
theorem krefsV : ∀ {M : List (Addr × Int × Str)} {us : List Value} {R : Value → Addr × Int × Str → Prop}, PySem.W.EachIs R us M → (∀ u q, R u q → u = .ref q.1) → Vals (M.map fun q => V.ref q.1) us
  | [], _, _, h, _ => by cases h; exact .nil
  | q :: M, _, R, h, k => by
    cases h with
    | cons h1 h2 =>
      have := k _ _ h1
      subst this
      exact .cons rfl (krefsV h2 k)
theorem cr_sortK {X : Cx} {f : Addr} (KF : KeyF X.prog X.w X.K f) (hu : X.A.units + 64 < cLine) (hdp : X.A.depth < recursionLimit) (K : PySem.W.Frag) (hK : X.K = K := by rfl) : CallRK X (.builtin "sorted") ["key"] (rSortK K f) := by
  subst hK
  intro pins s σ H xs zs us ws Q I r rz h
  obtain ⟨a, M, rfl, rfl, hs, ht, hz, q⟩ := h
  obtain ⟨its, rv, hl, hz2⟩ := I.list hs
  rw [Vals.ref1 r]
  cases rz with
  | cons r1 r2 =>
    cases r2
    cases r1
    have each : PySem.W.EachIs (fun u (q : Addr × Int × Str) => u = .ref q.1 ∧ ∃ its : List Value, IsTup s.heap q.1 its.toArray ∧ its.length ≤ sizeLine ∧ (∃ t, its[0]? = some (.int q.2.1 t)) ∧ ∃ t, its[1]? = some (.str q.2.2 t)) its M := vrefsK rv fun q hq => by
      obtain ⟨r, st⟩ := ht q hq
      obtain ⟨ts, hv, it, lz⟩ := I.tuple st
      cases hv with
      | cons v0 hv =>
        cases hv with
        | cons v1 hv =>
          obtain ⟨t0, rfl⟩ := v0
          obtain ⟨t1, rfl⟩ := v1
          refine ⟨rfl, _, it, ?_, ⟨t0, rfl⟩, ⟨t1, rfl⟩⟩
          have := hv.length
          simp only [List.length_cons] at lz ⊢
          omega
    refine PySem.W.sorted_key_data (b := false) kst hl.isList each (PySem.W.AllAlike.of fun _ _ => by simp [kst, PySem.W.alike, PySem.W.alikeAll]) (PySem.W.Sortable.tuples fun _ => ⟨_, _, rfl⟩) hz (fun q _ => ?_) (ksk_s1 _ _) (fun _ => ksk_l1 _ _) (fun _ => ksk_t1 _ _) (fun v x hx _ h tk kp => ?_) fun out c h' tk kp hn hD hlen eo => ?_
    · have : (kst q).depth = 1 := by simp [kst, PyData.depth, PyData.depthAll]
      omega
    · obtain ⟨rfl, ts, it, lz, ⟨t0, e0⟩, ⟨t1, e1⟩⟩ := hx
      have it2 : IsTup h x.1 ts.toArray := by
        obtain ⟨o, a1, a2, a3⟩ := it
        exact ⟨o, kp _ _ a1, a2, a3⟩
      refine KF X.A.in1.in1 { s with heap := h, toks := tk } x.1 ts _ _ _ _ (fun b o e => kp _ _ (I.kIn b o e)) ((I.ok.mod.nolimit.keeps I.bk).keeps kp) hdp it2 lz e0 e1 (fun _ => .int _ _) (fun _ => .str _ _)
    · have hf : H (s.heap.objs.size + 1) = none := I.hok.fresh (by omega)
      refine ⟨.ref _, upd H (s.heap.objs.size + 1) (.lst ((M.mergeSort (PySem.W.dataLe false kst)).map fun q => V.ref q.1)), I.laid (t' := tk) kp (by omega) ?_, rfl, q _ hf⟩
      exact ⟨by rw [List.length_map, List.length_mergeSort]; exact hz, out, c, krefsV eo fun u q h => h.1, hD⟩
end L2
namespace Ml
open PySem PySem.Spec PyProof.Rows L2
abbrev Stm := T4 Int Str Int Any
def t4A (x : Stm) : Any := .tup [.int x.a, .str x.b, .int x.c, x.d]
def stP (x : Stm) : PyData := .tuple [.int x.a, .str x.b]
def sortSt (xs : List Stm) : List Stm := xs.mergeSort (PySem.W.dataLe false stP)
def refA : V → Addr
  | .ref a => a
  | _ => 0
theorem imPairs {G : Gx} {H : Hp} {α : Type} [Im G α] : ∀ {vs : List V} {ks : List α}, imL (G := G) H vs ks → ∃ ps : List (V × α), ps.map (·.1) = vs ∧ ps.map (·.2) = ks ∧ ∀ p, p ∈ ps → Im.im G H p.1 p.2
  | [], [], _ => ⟨[], rfl, rfl, fun _ h => by cases h⟩
  | v :: vs, k :: ks, h => by
    obtain ⟨ps, e1, e2, h3⟩ := imPairs h.2
    exact ⟨(v, k) :: ps, by rw [List.map_cons, e1], by rw [List.map_cons, e2], fun p hp => by
      rcases List.mem_cons.mp hp with e | e
      · rw [e]; exact h.1
      · exact h3 p e⟩
  | [], _ :: _, h => h.elim
  | _ :: _, [], h => h.elim
theorem pairsIm {G : Gx} {H : Hp} {α : Type} [Im G α] : ∀ {ps : List (V × α)}, (∀ p, p ∈ ps → Im.im G H p.1 p.2) → imL (G := G) H (ps.map (·.1)) (ps.map (·.2))
  | [], _ => True.intro
  | p :: ps, h => ⟨h p List.mem_cons_self, pairsIm fun q hq => h q (List.mem_cons_of_mem _ hq)⟩
section
variable {G : Gx} {H : Hp} {L M : List (Asn G)} {Q : VK} {a f p : Addr} {i : Nat} {v : V}
theorem im_t4A {x : Stm} (h : Im.im G H v x) : Im.im G H v (t4A x) := by
  obtain ⟨a, u1, u2, u3, u4, rfl, g, i1, i2, i3, i4⟩ := h
  exact any_tup.mpr ⟨a, _, rfl, g, any_int.mpr i1, any_str.mpr i2, any_int.mpr i3, i4, True.intro⟩
theorem conv_l4 {xs : List Stm} (h : Sep H (lstA p xs :: M)) : Sep H (lstA p (xs.map t4A) :: M) :=
  Sep.as (A := lstA p xs) (fun H fp h => by
    obtain ⟨e, vs, g, m⟩ := h
    exact ⟨e, vs, g, imL_conv (f := t4A) (fun H v x h => im_t4A h) m⟩) h
theorem dpOwn4 {xs : List Stm} (hS : Sep H L) (e : L[i]? = some (lstA a xs)) (pl : plAL (xs.map t4A) = true) : Dp G.K H (.ref a) (.list (pdAL (xs.map t4A))) :=
  dpOwnA (conv_l4 (hS.perm (pull_perm e))) (i := 0) rfl pl
theorem k_sortK {xs : List Stm} (hS : Sep H L) (e : L[i]? = some (lstA a xs)) (hl : xs.length ≤ sizeLine) (k : ∀ p H', Sep H' (lstA p (sortSt xs) :: L) → Q (.ref p) H') : rSortK G.K f [.ref a] [.ref f] H Q := by
  obtain ⟨vs, h, m⟩ := hS.lst e
  obtain ⟨ps, e1, e2, h3⟩ := imPairs m
  subst e1; subst e2
  have hr : ∀ q ∈ ps, q.1 = V.ref (refA q.1) ∧ ∃ r, H (refA q.1) = some (.tup (.int q.2.a :: .str q.2.b :: r)) := fun q hq => by
    obtain ⟨a, u1, u2, u3, u4, e, g, i1, i2, _⟩ := h3 q hq
    rw [e]
    exact ⟨rfl, [u3, u4], by rw [show u1 = _ from i1, show u2 = _ from i2] at g; exact g⟩
  have em : ∀ l : List (V × Stm), (∀ q ∈ l, q ∈ ps) → (l.map fun q => (refA q.1, q.2.a, q.2.b)).map (fun q : Addr × Int × Str => V.ref q.1) = l.map (·.1) := fun l hl => by
    rw [List.map_map]
    exact List.map_congr_left fun q hq => (hr q (hl q hq)).1.symm
  refine ⟨a, ps.map fun q => (refA q.1, q.2.a, q.2.b), rfl, rfl, ?_, fun q hq => ?_, ?_, fun p hp => ?_⟩
  · rw [em ps fun _ h => h]
    exact SqL.of h
  · obtain ⟨z, hz, rfl⟩ := List.mem_map.mp hq
    obtain ⟨_, r, g⟩ := hr z hz
    exact ⟨r, SqT.of g⟩
  · rw [List.length_map] at hl ⊢
    exact hl
  · have e1 : (ps.map fun q => (refA q.1, q.2.a, q.2.b)).mergeSort (PySem.W.dataLe false L2.kst) = (ps.mergeSort fun x y => PySem.W.dataLe false stP x.2 y.2).map fun q => (refA q.1, q.2.a, q.2.b) :=
      (List.map_mergeSort (f := fun q : V × Stm => (refA q.1, q.2.a, q.2.b)) fun x _ y _ => rfl).symm
    have e2 : sortSt (ps.map (·.2)) = (ps.mergeSort fun x y => PySem.W.dataLe false stP x.2 y.2).map (·.2) := (List.map_mergeSort (f := fun q : V × Stm => q.2) fun x _ y _ => rfl).symm
    have hm : ∀ q ∈ ps.mergeSort fun x y => PySem.W.dataLe false stP x.2 y.2, q ∈ ps := fun q hq => (List.mergeSort_perm ps _).mem_iff.mp hq
    rw [e1, em _ hm]
    refine k p _ (hS.newL hp ?_)
    rw [e2]
    exact pairsIm fun q hq => h3 q (hm q hq)
end
inductive Hd where
  | ls (a b : List Stm)
  | dc (a b : List (Str × Int))
section
variable {G : Gx} {H H' : Hp} {L M : List (Asn G)} {Q : VK} {a b p : Addr} {i j : Nat} {v w : V} {σ : L2.St} {ta tb : TE}
def hdB (x : Hd) (w : Addr × Addr) : List (Asn G) := match x with
  | .ls xs ys => [lstA w.1 xs, lstA w.2 ys]
  | .dc xs ys => [dictA w.1 xs, dictA w.2 ys]
def hdE (p : Addr) (x : Hd) : Asn G := exA fun (w : Addr × Addr) => star (imA (.ref p) (⟨[.ref w.1, .ref w.2]⟩ : TupV) :: hdB x w)
theorem hd_ls {xs ys : List Stm} (hS : Sep H (imA (.ref p) (⟨[.ref a, .ref b]⟩ : TupV) :: lstA a xs :: lstA b ys :: M)) : Sep H (hdE p (.ls xs ys) :: M) := Sep.exI (a, b) (Sep.unstar1 hS)
theorem hd_dc {xs ys : List (Str × Int)} (hS : Sep H (imA (.ref p) (⟨[.ref a, .ref b]⟩ : TupV) :: dictA a xs :: dictA b ys :: M)) : Sep H (hdE p (.dc xs ys) :: M) := Sep.exI (a, b) (Sep.unstar1 hS)
/-- alike, told (nothing is told of dicts that are unlike) -/
def eqDc (xs ys : List (Str × Int)) : R Bool := if dEq xs ys then .ok true else .bad
theorem wp_eqDc {ρ : Type} {q : ρ → Prop} {e : Exc → Prop} {xs ys : List (Str × Int)} {g : Bool → R ρ} (h : R.wp ((eqDc xs ys).bind g) q e) : ∃ b, (b = true ∧ dEq xs ys = true) ∧ R.wp (g b) q e := by
  unfold eqDc at h
  by_cases c : dEq xs ys = true
  · rw [if_pos c] at h
    exact ⟨true, ⟨rfl, c⟩, h⟩
  · rw [if_neg c] at h
    exact h.elim
theorem ne_Dc {xs ys : List (Str × Int)} {Q : VK} (hS : Sep H L) (e1 : L[i]? = some (dictA a xs)) (e2 : L[j]? = some (dictA b ys)) (h : dEq xs ys = true) (q : Q (.bl false) H) : rNeR (.ref a) (.ref b) H Q := by
  obtain ⟨ps, h1, m1⟩ := hS.dict e1
  obtain ⟨qs, h2, m2⟩ := hS.dict e2
  exact ⟨a, b, ps, qs, rfl, rfl, .inl h1, .inl h2, (dEq_at m1 m2 h).1, (dEq_at m1 m2 h).2, q⟩
theorem ev_neDc {xs ys : List (Str × Int)} {b' : Bool} (hS : Sep H L) (e1 : L[i]? = some (dictA a xs)) (e2 : L[j]? = some (dictA b ys)) (ha : Ev ta σ H (.ref a)) (hb : Ev tb σ H (.ref b)) (h : b' = true ∧ dEq xs ys = true) : Ev (tOp rNeR ta tb) σ H (.bl (!b')) := ev_op ha hb fun Q q => by
  obtain ⟨rfl, h⟩ := h
  exact ne_Dc hS e1 e2 h q
theorem ev_eqDc {xs ys : List (Str × Int)} {b' : Bool} (hS : Sep H L) (e1 : L[i]? = some (dictA a xs)) (e2 : L[j]? = some (dictA b ys)) (ha : Ev ta σ H (.ref a)) (hb : Ev tb σ H (.ref b)) (h : b' = true ∧ dEq xs ys = true) : Ev (tOp rEqR ta tb) σ H (.bl b') := ev_op ha hb fun Q q => by
  obtain ⟨rfl, h⟩ := h
  obtain ⟨ps, h1, m1⟩ := hS.dict e1
  obtain ⟨qs, h2, m2⟩ := hS.dict e2
  exact ⟨a, b, ps, qs, rfl, rfl, .inl h1, .inl h2, (dEq_at m1 m2 h).1, (dEq_at m1 m2 h).2, q⟩
def rNeHd (K : PySem.W.Frag) : R2 := fun x y H Q => rNeD K x y H Q ∨ rNeR x y H Q
def l4A (xs : List Stm) : Any := .lst (xs.map t4A)
/-- alike; of others nothing is told -/
def sameHd : Hd → R Unit
  | .ls a b => (eqA (l4A a) (l4A b)).bind fun z => if z then .ok () else .bad
  | .dc a b => (eqDc a b).bind fun _ => .ok ()
def okHd : Hd → Prop
  | .ls a b => plA (l4A a) = true ∧ plA (l4A b) = true ∧ SeqAt.shaped (pdA (l4A a)) = true ∧ SeqAt.shaped (pdA (l4A b)) = true ∧ true = PyData.eqv (pdA (l4A a)) (pdA (l4A b))
  | .dc a b => dEq a b = true
theorem wp_sameHd {ρ : Type} {q : ρ → Prop} {e : Exc → Prop} {x : Hd} {g : Unit → R ρ} (h : R.wp ((sameHd x).bind g) q e) : okHd x ∧ R.wp (g ()) q e := by
  have bd : ∀ {α β γ : Type} (x : R α) (f : α → R β) (g : β → R γ), (x.bind f).bind g = x.bind fun a => (f a).bind g := fun x f g => by cases x <;> rfl
  cases x with
  | ls a b =>
    have h : R.wp (((eqA (l4A a) (l4A b)).bind fun z => if z then R.ok () else R.bad).bind g) q e := h
    rw [bd] at h
    obtain ⟨z, hz, h2⟩ := wp_eqA h
    cases z with
    | true => exact ⟨hz, h2⟩
    | false => exact h2.elim
  | dc a b =>
    have h : R.wp (((eqDc a b).bind fun _ => R.ok ()).bind g) q e := h
    rw [bd] at h
    obtain ⟨z, ⟨rfl, hz⟩, h2⟩ := wp_eqDc h
    exact ⟨hz, h2⟩
theorem ev_neHd {x : Hd} (hS : Sep H L) (e : L[i]? = some (hdE p x)) (ha : Ev ta σ H (.ref p)) (hx : okHd x) : Ev (tOp (rNeHd G.K) (tOp (rIxT G.K) ta (tC (.int 0))) (tOp (rIxT G.K) ta (tC (.int 1)))) σ H (.bl false) := by
  have h0 := hS.perm (pull_perm e)
  obtain ⟨w, h1⟩ := Sep.ex h0
  have h2 := Sep.star1 h1
  have g := tupV_at (h2.im (i := 0) rfl)
  refine ev_op (ev_ixT ha (fun Q q => q) g rfl) (ev_ixT ha (fun Q q => q) g rfl) fun Q q => ?_
  cases x with
  | ls xs ys =>
    refine .inl ?_
    obtain ⟨p1, p2, p3, p4, p5⟩ := hx
    unfold l4A at p1 p2 p3 p4 p5
    rw [plA] at p1 p2
    have e1 : pdA (.lst (xs.map t4A)) = .list (pdAL (xs.map t4A)) := by rw [pdA]
    have e2 : pdA (.lst (ys.map t4A)) = .list (pdAL (ys.map t4A)) := by rw [pdA]
    rw [e1] at p3 p5
    rw [e2] at p4 p5
    refine ⟨_, _, dpOwn4 (L := imA (.ref p) (⟨[.ref w.1, .ref w.2]⟩ : TupV) :: lstA w.1 xs :: lstA w.2 ys :: _) h2 (i := 1) rfl p1, dpOwn4 (L := imA (.ref p) (⟨[.ref w.1, .ref w.2]⟩ : TupV) :: lstA w.1 xs :: lstA w.2 ys :: _) h2 (i := 2) rfl p2, p3, p4, ?_⟩
    rw [← p5]
    exact q
  | dc xs ys => exact .inr (ne_Dc (L := imA (.ref p) (⟨[.ref w.1, .ref w.2]⟩ : TupV) :: dictA w.1 xs :: dictA w.2 ys :: _) h2 (i := 1) (j := 2) rfl rfl hx q)
end
theorem neHdK {X : Cx} (K : PySem.W.Frag) (h1 : OpR X (compareOp .NotEq) (rNeD K)) (h2 : OpR X (compareOp .NotEq) rNeR) : OpR X (compareOp .NotEq) (rNeHd K) := by
  intro pins s σ H x y v u Q I rx ry h
  rcases h with h | h
  · exact h1 pins s σ H x y v u Q I rx ry h
  · exact h2 pins s σ H x y v u Q I rx ry h
section
variable {G : Gx} {α : Type} [Im G α] {H : Hp} {L : List (Asn G)} {Q : VK} {a b : Addr} {i j : Nat}
theorem k_extend {xs ys : List α} {L' : List (Asn G)} (hS : Sep H L) (e1 : L[i]? = some (lstA a xs)) (e2 : L[j]? = some (lstA b ys)) (hl : xs.length + ys.length ≤ sizeLine) (e3 : L.set i (lstA a (xs ++ ys)) = L') (q : ∀ H', Sep H' L' → Q .non H') : rExtend (.ref a) [.ref b] H Q := by
  obtain ⟨vs, h1, m1⟩ := hS.lst e1
  obtain ⟨ws, h2, m2⟩ := hS.lst e2
  refine ⟨a, b, vs, ws, rfl, rfl, h1, h2, by rw [m1.len, m2.len]; exact hl, q _ ?_⟩
  subst e3
  exact hS.putL e1 (m1.app m2)
end
end Ml
namespace Ml
open PySem PySem.Spec PyProof.Rows L2
section
variable {G : Gx} {κ β : Type} [DecidableEq κ] [Kx κ] {H : Hp} {M : List (Asn G)} {a : Addr} {kvs : List (κ × β)} {k : κ} {E : Addr → β → Asn G} {Q : VK} {te : TE} {σ : L2.St}
theorem c_kw1 {v : V} {F : List V → Hp → Prop} (h : F [v] H) : (tCons (tC v) tNil) σ H F := h
theorem k_lockDP {ps : List Addr} (h : Sep H (dictP E a ps kvs :: M)) (q : ∀ od H', Sep H' (lockE E a od ps kvs :: M) → te σ H' (unlKA a od (refsD kvs ps) Q)) : tLockE te σ H Q := by
  obtain ⟨hl, h1⟩ := Sep.and h
  exact ⟨a, .dK (refsD kvs ps), dictX_cell h1, True.intro, fun od => q od _ (Sep.andI hl (turnXE (u' := HO.frz od) h1 rfl rfl rfl))⟩
theorem k_unlDP {od : Obj} {ps : List Addr} {v : V} (h : Sep H (lockE E a od ps kvs :: M)) (q : ∀ H', Sep H' (dictP E a ps kvs :: M) → Q v H') : unlKA a od (refsD kvs ps) Q v H := by
  obtain ⟨hl, h1⟩ := Sep.and h
  exact ⟨dictX_cell h1, q _ (Sep.andI hl (turnXE (u' := id) h1 rfl rfl rfl))⟩
theorem drop2 {A B : Asn G} (h : Sep H (A :: B :: M)) : Sep H (A :: M) := Sep.tail (h.perm (List.Perm.swap _ _ _))
end
end Ml
namespace Ml
open PySem L2
theorem dpR {k : Nat} {A : Around} (r : Room k A) : A.depth < recursionLimit := by have := r.dp; omega
theorem unR {k : Nat} {A : Around} (r : Room k A) : A.units < cLine := by have := r.un; omega
end Ml
namespace Lw
open PySem PySem.Spec PyProof.Rows L2 Ml
def top (i : Nat) : Stmt := PySem.Challenge.pw_mailroom_k42_deeds_done.main.body.getD i (.Pass ⟨0, 0, 0, 0⟩)
abbrev s_is_sign : Stmt := top 13
abbrev s_is_word : Stmt := top 14
abbrev s_words_of : Stmt := top 15
abbrev s_each_once : Stmt := top 16
abbrev s_is_text : Stmt := top 21
abbrev s_is_day : Stmt := top 22
abbrev s_Letter___init__ : Stmt := inClass (top 23) 0
abbrev s_Letter_parts : Stmt := inClass (top 23) 1
abbrev s_Letter_words : Stmt := inClass (top 23) 3
abbrev s_letter_of : Stmt := top 24
abbrev s_is_hand : Stmt := top 27
abbrev s_is_parts : Stmt := top 28
abbrev s_is_deed : Stmt := top 29
abbrev s_stamp_of : Stmt := top 30
abbrev s_need_follows : Stmt := top 32
abbrev s_Ledger___init__ : Stmt := inClass (top 33) 0
abbrev s_Ledger_latest : Stmt := inClass (top 33) 1
abbrev s_Ledger_do : Stmt := inClass (top 33) 2
abbrev s_Ledger_have : Stmt := inClass (top 33) 3
abbrev s_Ledger_told : Stmt := inClass (top 33) 4
abbrev s_law_begin : Stmt := top 35
abbrev s_law_next : Stmt := top 36
abbrev s_law_word : Stmt := top 37
abbrev s_law_any_word : Stmt := top 38
abbrev s_law_hands : Stmt := top 39
abbrev s_law_parts : Stmt := top 40
abbrev s_law_deed : Stmt := top 41
abbrev s_law_alone : Stmt := top 42
abbrev s_law_refused : Stmt := top 43
abbrev s_law_done : Stmt := top 44
abbrev s_law_no_hand : Stmt := top 45
abbrev s_law_no_word : Stmt := top 46
abbrev s_law_no_parts : Stmt := top 47
abbrev s_law_no_deed : Stmt := top 48
abbrev s_law_odd : Stmt := top 49
abbrev s_law_looked : Stmt := top 50
abbrev s_law : Stmt := top 51
def asM : List Addr := ([3, 31, 44, 56, 76, 88, 100, 112, 193, 293, 2, 30, 43, 55, 75, 87, 99, 111, 192, 292, 21, 73, 121, 126, 133, 140, 147, 154, 169, 176, 183, 190, 204, 209, 216, 223, 230, 235, 249, 254] : List Addr) ++ ([261, 268, 276, 283, 290, 304, 311, 316, 323, 330, 337, 344, 351, 358, 365, 372, 379, 386, 393, 400, 407, 412, 15, 17, 18, 22, 29, 35, 42, 47, 54, 59, 66, 67, 69, 70, 74, 79, 86, 91] : List Addr) ++ ([98, 103, 110, 115, 117, 118, 122, 127, 129, 130, 134, 136, 137, 141, 143, 144, 148, 150, 151, 162, 163, 165, 166, 170, 172, 173, 177, 179, 180, 184, 186, 187, 191, 198, 200, 201, 205, 210, 212, 213] : List Addr) ++ ([217, 219, 220, 224, 226, 227, 231, 243, 245, 246, 250, 255, 257, 258, 262, 264, 265, 269, 270, 272, 273, 277, 279, 280, 284, 286, 287, 291, 298, 300, 301, 305, 307, 308, 312, 317, 319, 320, 324, 326] : List Addr) ++ ([327, 331, 333, 334, 338, 340, 341, 345, 347, 348, 352, 354, 355, 359, 361, 362, 366, 368, 369, 373, 375, 376, 380, 382, 383, 387, 389, 390, 394, 396, 397, 401, 403, 404, 408, 20, 32, 72, 120, 125] : List Addr) ++ ([132, 139, 146, 153, 168, 175, 182, 189, 194, 195, 203, 208, 215, 222, 229, 234, 248, 253, 260, 267, 275, 282, 289, 294, 295, 303, 310, 315, 322, 329, 336, 343, 350, 357, 364, 371, 378, 385, 392, 399] : List Addr) ++ ([406, 411] : List Addr)
def conI (K : PySem.W.Frag) (x : Str) (i : Int) : Bool := match PySem.W.nsIn K mainGlobals x with
  | some (some (.int j _)) => decide (j = i)
  | _ => false
def conS (K : PySem.W.Frag) (x : Str) (i : Str) : Bool := match PySem.W.nsIn K mainGlobals x with
  | some (some (.str j _)) => decide (j = i)
  | _ => false
theorem conI_ok {K : PySem.W.Frag} {x : Str} {i : Int} (c : conI K x i = true) : ∃ t, PySem.W.nsIn K mainGlobals x = some (some (.int i t)) := by
  unfold conI at c
  split at c
  · rename_i j t e
    have ej : j = i := of_decide_eq_true c
    exact ⟨t, by rw [e, ej]⟩
  · cases c
theorem conS_ok {K : PySem.W.Frag} {x : Str} {i : Str} (c : conS K x i = true) : ∃ t, PySem.W.nsIn K mainGlobals x = some (some (.str i t)) := by
  unfold conS at c
  split at c
  · rename_i j t e
    have ej : j = i := of_decide_eq_true c
    exact ⟨t, by rw [e, ej]⟩
  · cases c
theorem fxM {l : List Bool} (h : l.all id = true) (i : Nat) {b : Bool} (e : l[i]? = some b) : b = true := List.all_eq_true.mp h b (List.mem_of_getElem? e)
def fb0 (K : PySem.W.Frag) : List Bool := [
  decide (PySem.W.nsIn K mainGlobals "MailError" = some (some (.ref 31))),
  decide (PySem.W.nsIn K mainGlobals "NoWord" = some (some (.ref 44))),
  decide (PySem.W.nsIn K mainGlobals "NoLetter" = some (some (.ref 56))),
  decide (PySem.W.nsIn K mainGlobals "NoRule" = some (some (.ref 76))),
  decide (PySem.W.nsIn K mainGlobals "NoName" = some (some (.ref 88))),
  decide (PySem.W.nsIn K mainGlobals "NoParcel" = some (some (.ref 100))),
  decide (PySem.W.nsIn K mainGlobals "NoRow" = some (some (.ref 112))),
  decide (PySem.W.nsIn K mainGlobals "Letter" = some (some (.ref 193))),
  decide (PySem.W.nsIn K mainGlobals "Ledger" = some (some (.ref 293))),
  decide (PySem.W.nsIn K mainGlobals "is_sign" = some (some (.ref 121))),
  decide (PySem.W.nsIn K mainGlobals "is_word" = some (some (.ref 126))),
  decide (PySem.W.nsIn K mainGlobals "words_of" = some (some (.ref 133))),
  decide (PySem.W.nsIn K mainGlobals "each_once" = some (some (.ref 140))),
  decide (PySem.W.nsIn K mainGlobals "is_text" = some (some (.ref 147))),
  decide (PySem.W.nsIn K mainGlobals "is_day" = some (some (.ref 154))),
  decide (PySem.W.findIn K (.ref 193) "__init__" = some (some (.ref 169))),
  decide (PySem.W.isFn K (.ref 169) = true),
  decide (PySem.W.makesIn K 193 = true),
  decide (PySem.W.keepIn K (.ref 193) = true),
  decide (PySem.W.findIn K (.ref 193) "parts" = some (some (.ref 176))),
  decide (PySem.W.isFn K (.ref 176) = true),
  decide (PySem.W.findIn K (.ref 193) "words" = some (some (.ref 190))),
  decide (PySem.W.isFn K (.ref 190) = true),
  decide (PySem.W.nsIn K mainGlobals "letter_of" = some (some (.ref 204))),
  decide (PySem.W.nsIn K mainGlobals "is_hand" = some (some (.ref 209))),
  decide (PySem.W.nsIn K mainGlobals "is_parts" = some (some (.ref 216))),
  decide (PySem.W.nsIn K mainGlobals "is_deed" = some (some (.ref 223))),
  decide (PySem.W.nsIn K mainGlobals "stamp_of" = some (some (.ref 230))),
  decide (PySem.W.nsIn K mainGlobals "need_follows" = some (some (.ref 235))),
  decide (PySem.W.findIn K (.ref 293) "__init__" = some (some (.ref 249))),
  decide (PySem.W.isFn K (.ref 249) = true),
  decide (PySem.W.makesIn K 293 = true),
  decide (PySem.W.keepIn K (.ref 293) = true),
  decide (PySem.W.findIn K (.ref 293) "latest" = some (some (.ref 254))),
  decide (PySem.W.isFn K (.ref 254) = true),
  decide (PySem.W.findIn K (.ref 293) "do" = some (some (.ref 261))),
  decide (PySem.W.isFn K (.ref 261) = true),
  decide (PySem.W.findIn K (.ref 293) "have" = some (some (.ref 268))),
  decide (PySem.W.isFn K (.ref 268) = true),
  decide (PySem.W.findIn K (.ref 293) "told" = some (some (.ref 276)))]
def fb1 (K : PySem.W.Frag) : List Bool := [
  decide (PySem.W.isFn K (.ref 276) = true),
  decide (PySem.W.nsIn K mainGlobals "_law_begin" = some (some (.ref 304))),
  decide (PySem.W.nsIn K mainGlobals "_law_next" = some (some (.ref 311))),
  decide (PySem.W.nsIn K mainGlobals "_law_word" = some (some (.ref 316))),
  decide (PySem.W.nsIn K mainGlobals "_law_any_word" = some (some (.ref 323))),
  decide (PySem.W.nsIn K mainGlobals "_law_hands" = some (some (.ref 330))),
  decide (PySem.W.nsIn K mainGlobals "_law_parts" = some (some (.ref 337))),
  decide (PySem.W.nsIn K mainGlobals "_law_deed" = some (some (.ref 344))),
  decide (PySem.W.nsIn K mainGlobals "_law_alone" = some (some (.ref 351))),
  decide (PySem.W.nsIn K mainGlobals "_law_refused" = some (some (.ref 358))),
  decide (PySem.W.nsIn K mainGlobals "_law_done" = some (some (.ref 365))),
  decide (PySem.W.nsIn K mainGlobals "_law_no_hand" = some (some (.ref 372))),
  decide (PySem.W.nsIn K mainGlobals "_law_no_word" = some (some (.ref 379))),
  decide (PySem.W.nsIn K mainGlobals "_law_no_parts" = some (some (.ref 386))),
  decide (PySem.W.nsIn K mainGlobals "_law_no_deed" = some (some (.ref 393))),
  decide (PySem.W.nsIn K mainGlobals "_law_odd" = some (some (.ref 400))),
  decide (PySem.W.nsIn K mainGlobals "_law_looked" = some (some (.ref 407))),
  decide (PySem.W.nsIn K mainGlobals "law" = some (some (.ref 412))),
  decide (PySem.W.subIn K (.ref 31) (.type "BaseException") = some true),
  decide (PySem.W.typeIn K (.ref 31) = some (.type "type")),
  decide (PySem.W.hasDictIn K 31 = true),
  decide (PySem.W.subIn K (.ref 31) (.ref 31) = some true),
  decide (PySem.W.subIn K (.ref 44) (.ref 31) = some true),
  decide (PySem.W.subIn K (.ref 56) (.ref 31) = some true),
  decide (PySem.W.subIn K (.ref 76) (.ref 31) = some true),
  decide (PySem.W.subIn K (.ref 88) (.ref 31) = some true),
  decide (PySem.W.subIn K (.ref 100) (.ref 31) = some true),
  decide (PySem.W.subIn K (.ref 112) (.ref 31) = some true),
  decide (PySem.W.excIn K 56 [.type "ValueError", .type "Exception", .type "BaseException", .type "object"] "ValueError.__new__" = true),
  decide (PySem.W.keepIn K (.ref 56) = true),
  decide (PySem.W.subIn K (.ref 56) (.type "BaseException") = some true),
  decide (PySem.W.typeIn K (.ref 56) = some (.type "type")),
  decide (PySem.W.hasDictIn K 56 = true),
  decide (PySem.W.subIn K (.ref 31) (.ref 56) = some false),
  decide (PySem.W.subIn K (.ref 44) (.ref 56) = some false),
  decide (PySem.W.subIn K (.ref 56) (.ref 56) = some true),
  decide (PySem.W.subIn K (.ref 76) (.ref 56) = some false),
  decide (PySem.W.subIn K (.ref 88) (.ref 56) = some false),
  decide (PySem.W.subIn K (.ref 100) (.ref 56) = some false),
  decide (PySem.W.subIn K (.ref 112) (.ref 56) = some false)]
def fb2 (K : PySem.W.Frag) : List Bool := [
  decide (PySem.W.excIn K 88 [.type "ValueError", .type "Exception", .type "BaseException", .type "object"] "ValueError.__new__" = true),
  decide (PySem.W.keepIn K (.ref 88) = true),
  decide (PySem.W.subIn K (.ref 88) (.type "BaseException") = some true),
  decide (PySem.W.typeIn K (.ref 88) = some (.type "type")),
  decide (PySem.W.excIn K 100 [.type "ValueError", .type "Exception", .type "BaseException", .type "object"] "ValueError.__new__" = true),
  decide (PySem.W.keepIn K (.ref 100) = true),
  decide (PySem.W.subIn K (.ref 100) (.type "BaseException") = some true),
  decide (PySem.W.typeIn K (.ref 100) = some (.type "type")),
  decide (PySem.W.plainGet K 193 Str.empty = true),
  decide (PySem.W.hasDictIn K 193 = true),
  decide (PySem.W.plainOver K 193 = true),
  decide (PySem.W.findIn K (.ref 193) "__setattr__" = some (some (.builtin "object.__setattr__"))),
  decide (PySem.W.findIn K (.ref 193) "sender" = some none),
  decide (PySem.W.findIn K (.ref 193) "title" = some none),
  decide (PySem.W.findIn K (.ref 193) "body" = some none),
  decide (PySem.W.findIn K (.ref 193) "day" = some none),
  decide (PySem.W.findIn K (.ref 193) "answers" = some none),
  decide (PySem.W.plainGet K 293 Str.empty = true),
  decide (PySem.W.hasDictIn K 293 = true),
  decide (PySem.W.plainOver K 293 = true),
  decide (PySem.W.findIn K (.ref 293) "__setattr__" = some (some (.builtin "object.__setattr__"))),
  decide (PySem.W.findIn K (.ref 293) "hand" = some none),
  decide (PySem.W.findIn K (.ref 293) "kept" = some none),
  decide (PySem.W.findIn K (.ref 31) "__getattribute__" = some (some (.builtin "BaseException.__getattribute__"))),
  decide (PySem.W.findIn K (.ref 31) "__getattr__" = some none),
  decide (PySem.W.findIn K (.ref 31) "__class__" = some (some (.builtin "object.__class__"))),
  decide (PySem.W.mroIn K 31 (.type "object") = some true),
  decide (PySem.W.findIn K (.ref 44) "__getattribute__" = some (some (.builtin "BaseException.__getattribute__"))),
  decide (PySem.W.findIn K (.ref 44) "__getattr__" = some none),
  decide (PySem.W.subIn K (.ref 44) (.type "BaseException") = some true),
  decide (PySem.W.typeIn K (.ref 44) = some (.type "type")),
  decide (PySem.W.hasDictIn K 44 = true),
  decide (PySem.W.findIn K (.ref 44) "__class__" = some (some (.builtin "object.__class__"))),
  decide (PySem.W.mroIn K 44 (.type "object") = some true),
  decide (PySem.W.findIn K (.ref 56) "__getattribute__" = some (some (.builtin "BaseException.__getattribute__"))),
  decide (PySem.W.findIn K (.ref 56) "__getattr__" = some none),
  decide (PySem.W.findIn K (.ref 56) "__class__" = some (some (.builtin "object.__class__"))),
  decide (PySem.W.mroIn K 56 (.type "object") = some true),
  decide (PySem.W.findIn K (.ref 76) "__getattribute__" = some (some (.builtin "BaseException.__getattribute__"))),
  decide (PySem.W.findIn K (.ref 76) "__getattr__" = some none)]
def fb3 (K : PySem.W.Frag) : List Bool := [
  decide (PySem.W.subIn K (.ref 76) (.type "BaseException") = some true),
  decide (PySem.W.typeIn K (.ref 76) = some (.type "type")),
  decide (PySem.W.hasDictIn K 76 = true),
  decide (PySem.W.findIn K (.ref 76) "__class__" = some (some (.builtin "object.__class__"))),
  decide (PySem.W.mroIn K 76 (.type "object") = some true),
  decide (PySem.W.findIn K (.ref 88) "__getattribute__" = some (some (.builtin "BaseException.__getattribute__"))),
  decide (PySem.W.findIn K (.ref 88) "__getattr__" = some none),
  decide (PySem.W.hasDictIn K 88 = true),
  decide (PySem.W.findIn K (.ref 88) "__class__" = some (some (.builtin "object.__class__"))),
  decide (PySem.W.mroIn K 88 (.type "object") = some true),
  decide (PySem.W.findIn K (.ref 100) "__getattribute__" = some (some (.builtin "BaseException.__getattribute__"))),
  decide (PySem.W.findIn K (.ref 100) "__getattr__" = some none),
  decide (PySem.W.hasDictIn K 100 = true),
  decide (PySem.W.findIn K (.ref 100) "__class__" = some (some (.builtin "object.__class__"))),
  decide (PySem.W.mroIn K 100 (.type "object") = some true),
  decide (PySem.W.findIn K (.ref 112) "__getattribute__" = some (some (.builtin "BaseException.__getattribute__"))),
  decide (PySem.W.findIn K (.ref 112) "__getattr__" = some none),
  decide (PySem.W.subIn K (.ref 112) (.type "BaseException") = some true),
  decide (PySem.W.typeIn K (.ref 112) = some (.type "type")),
  decide (PySem.W.hasDictIn K 112 = true),
  decide (PySem.W.findIn K (.ref 112) "__class__" = some (some (.builtin "object.__class__"))),
  decide (PySem.W.mroIn K 112 (.type "object") = some true),
  decide (PySem.W.specialIn K (.builtin "object.__class__") "__get__" = some (some (.builtin "getset_descriptor.__get__"))),
  decide (PySem.W.takesIn K (.builtin "object.__class__") = some true),
  decide (PySem.W.subIn K (.ref 31) (.ref 56) = some false),
  decide (¬ 31 = 56),
  decide (PySem.W.subIn K (.ref 44) (.ref 56) = some false),
  decide (¬ 44 = 56),
  decide (PySem.W.subIn K (.ref 56) (.ref 56) = some true),
  decide (PySem.W.subIn K (.ref 76) (.ref 56) = some false),
  decide (¬ 76 = 56),
  decide (PySem.W.subIn K (.ref 88) (.ref 56) = some false),
  decide (¬ 88 = 56),
  decide (PySem.W.subIn K (.ref 100) (.ref 56) = some false),
  decide (¬ 100 = 56),
  decide (PySem.W.subIn K (.ref 112) (.ref 56) = some false),
  decide (¬ 112 = 56),
  decide (PySem.W.subIn K (.ref 31) (.ref 88) = some false),
  decide (¬ 31 = 88),
  decide (PySem.W.subIn K (.ref 44) (.ref 88) = some false)]
def fb4 (K : PySem.W.Frag) : List Bool := [
  decide (¬ 44 = 88),
  decide (PySem.W.subIn K (.ref 56) (.ref 88) = some false),
  decide (¬ 56 = 88),
  decide (PySem.W.subIn K (.ref 76) (.ref 88) = some false),
  decide (¬ 76 = 88),
  decide (PySem.W.subIn K (.ref 88) (.ref 88) = some true),
  decide (PySem.W.subIn K (.ref 100) (.ref 88) = some false),
  decide (¬ 100 = 88),
  decide (PySem.W.subIn K (.ref 112) (.ref 88) = some false),
  decide (¬ 112 = 88),
  decide (PySem.W.subIn K (.ref 31) (.ref 100) = some false),
  decide (¬ 31 = 100),
  decide (PySem.W.subIn K (.ref 44) (.ref 100) = some false),
  decide (¬ 44 = 100),
  decide (PySem.W.subIn K (.ref 56) (.ref 100) = some false),
  decide (¬ 56 = 100),
  decide (PySem.W.subIn K (.ref 76) (.ref 100) = some false),
  decide (¬ 76 = 100),
  decide (PySem.W.subIn K (.ref 88) (.ref 100) = some false),
  decide (¬ 88 = 100),
  decide (PySem.W.subIn K (.ref 100) (.ref 100) = some true),
  decide (PySem.W.subIn K (.ref 112) (.ref 100) = some false),
  decide (¬ 112 = 100),
  decide (PySem.W.subIn K (.ref 31) (.ref 112) = some false),
  decide (¬ 31 = 112),
  decide (PySem.W.subIn K (.ref 44) (.ref 112) = some false),
  decide (¬ 44 = 112),
  decide (PySem.W.subIn K (.ref 56) (.ref 112) = some false),
  decide (¬ 56 = 112),
  decide (PySem.W.subIn K (.ref 76) (.ref 112) = some false),
  decide (¬ 76 = 112),
  decide (PySem.W.subIn K (.ref 88) (.ref 112) = some false),
  decide (¬ 88 = 112),
  decide (PySem.W.subIn K (.ref 100) (.ref 112) = some false),
  decide (¬ 100 = 112),
  decide (PySem.W.subIn K (.ref 112) (.ref 112) = some true),
  decide (PySem.W.subIn K (.ref 31) (.ref 76) = some false),
  decide (¬ 31 = 76),
  decide (PySem.W.subIn K (.ref 44) (.ref 76) = some false),
  decide (¬ 44 = 76)]
def fb5 (K : PySem.W.Frag) : List Bool := [
  decide (PySem.W.subIn K (.ref 56) (.ref 76) = some false),
  decide (¬ 56 = 76),
  decide (PySem.W.subIn K (.ref 76) (.ref 76) = some true),
  decide (PySem.W.subIn K (.ref 88) (.ref 76) = some false),
  decide (¬ 88 = 76),
  decide (PySem.W.subIn K (.ref 100) (.ref 76) = some false),
  decide (¬ 100 = 76),
  decide (PySem.W.subIn K (.ref 112) (.ref 76) = some false),
  decide (¬ 112 = 76),
  decide (PySem.W.subIn K (.ref 31) (.ref 44) = some false),
  decide (¬ 31 = 44),
  decide (PySem.W.subIn K (.ref 44) (.ref 44) = some true),
  decide (PySem.W.subIn K (.ref 56) (.ref 44) = some false),
  decide (¬ 56 = 44),
  decide (PySem.W.subIn K (.ref 76) (.ref 44) = some false),
  decide (¬ 76 = 44),
  decide (PySem.W.subIn K (.ref 88) (.ref 44) = some false),
  decide (¬ 88 = 44),
  decide (PySem.W.subIn K (.ref 100) (.ref 44) = some false),
  decide (¬ 100 = 44),
  decide (PySem.W.subIn K (.ref 112) (.ref 44) = some false),
  decide (¬ 112 = 44),
  decide (PySem.W.subIn K (.ref 31) (.type "ValueError") = some true),
  decide (PySem.W.subIn K (.ref 44) (.type "ValueError") = some true),
  decide (PySem.W.subIn K (.ref 56) (.type "ValueError") = some true),
  decide (PySem.W.subIn K (.ref 76) (.type "ValueError") = some true),
  decide (PySem.W.subIn K (.ref 88) (.type "ValueError") = some true),
  decide (PySem.W.subIn K (.ref 100) (.type "ValueError") = some true),
  decide (PySem.W.subIn K (.ref 112) (.type "ValueError") = some true),
  decide (PySem.W.nsIn K mainGlobals "ValueError" = some none),
  decide (PySem.W.nsIn K mainGlobals "all" = some none),
  decide (PySem.W.nsIn K mainGlobals "bool" = some none),
  decide (PySem.W.nsIn K mainGlobals "int" = some none),
  decide (PySem.W.nsIn K mainGlobals "isinstance" = some none),
  decide (PySem.W.nsIn K mainGlobals "len" = some none),
  decide (PySem.W.nsIn K mainGlobals "list" = some none),
  decide (PySem.W.nsIn K mainGlobals "max" = some none),
  decide (PySem.W.nsIn K mainGlobals "range" = some none),
  decide (PySem.W.nsIn K mainGlobals "sorted" = some none),
  decide (PySem.W.nsIn K mainGlobals "str" = some none)]
def fb6 (K : PySem.W.Frag) : List Bool := [
  decide (PySem.W.nsIn K mainGlobals "tuple" = some none),
  conS K "FIGURES" ("0123456789" : Str),
  conI K "MOST_BODY" (400),
  conI K "MOST_DAY" (9999),
  conI K "MOST_HAND" (8),
  conI K "MOST_SIGNS" (20),
  conI K "MOST_TITLE" (60),
  conS K "SMALL" ("abcdefghijklmnopqrstuvwxyz" : Str),
  decide (¬ 293 = 193)]
def dfn0 : He5.DefA := ⟨fun _ => 121, "is_sign", "is_sign", defArgs s_is_sign, defBody s_is_sign, defScope s_is_sign, [], []⟩
def dfn1 : He5.DefA := ⟨fun _ => 126, "is_word", "is_word", defArgs s_is_word, defBody s_is_word, defScope s_is_word, [], []⟩
def dfn2 : He5.DefA := ⟨fun _ => 133, "words_of", "words_of", defArgs s_words_of, defBody s_words_of, defScope s_words_of, [], []⟩
def dfn3 : He5.DefA := ⟨fun _ => 140, "each_once", "each_once", defArgs s_each_once, defBody s_each_once, defScope s_each_once, [], []⟩
def dfn4 : He5.DefA := ⟨fun _ => 147, "is_text", "is_text", defArgs s_is_text, defBody s_is_text, defScope s_is_text, [], []⟩
def dfn5 : He5.DefA := ⟨fun _ => 154, "is_day", "is_day", defArgs s_is_day, defBody s_is_day, defScope s_is_day, [], []⟩
def dfn6 : He5.DefA := ⟨fun _ => 169, "__init__", "Letter.__init__", defArgs s_Letter___init__, defBody s_Letter___init__, defScope s_Letter___init__, [.str ("" : Str)], []⟩
def dfn7 : He5.DefA := ⟨fun _ => 176, "parts", "Letter.parts", defArgs s_Letter_parts, defBody s_Letter_parts, defScope s_Letter_parts, [], []⟩
def dfn8 : He5.DefA := ⟨fun _ => 190, "words", "Letter.words", defArgs s_Letter_words, defBody s_Letter_words, defScope s_Letter_words, [], []⟩
def dfn9 : He5.DefA := ⟨fun _ => 204, "letter_of", "letter_of", defArgs s_letter_of, defBody s_letter_of, defScope s_letter_of, [], []⟩
def dfn10 : He5.DefA := ⟨fun _ => 209, "is_hand", "is_hand", defArgs s_is_hand, defBody s_is_hand, defScope s_is_hand, [], []⟩
def dfn11 : He5.DefA := ⟨fun _ => 216, "is_parts", "is_parts", defArgs s_is_parts, defBody s_is_parts, defScope s_is_parts, [], []⟩
def dfn12 : He5.DefA := ⟨fun _ => 223, "is_deed", "is_deed", defArgs s_is_deed, defBody s_is_deed, defScope s_is_deed, [], []⟩
def dfn13 : He5.DefA := ⟨fun _ => 230, "stamp_of", "stamp_of", defArgs s_stamp_of, defBody s_stamp_of, defScope s_stamp_of, [], []⟩
def dfn14 : He5.DefA := ⟨fun _ => 235, "need_follows", "need_follows", defArgs s_need_follows, defBody s_need_follows, defScope s_need_follows, [], []⟩
def dfn15 : He5.DefA := ⟨fun _ => 249, "__init__", "Ledger.__init__", defArgs s_Ledger___init__, defBody s_Ledger___init__, defScope s_Ledger___init__, [], []⟩
def dfn16 : He5.DefA := ⟨fun _ => 254, "latest", "Ledger.latest", defArgs s_Ledger_latest, defBody s_Ledger_latest, defScope s_Ledger_latest, [], []⟩
def dfn17 : He5.DefA := ⟨fun _ => 261, "do", "Ledger.do", defArgs s_Ledger_do, defBody s_Ledger_do, defScope s_Ledger_do, [], []⟩
def dfn18 : He5.DefA := ⟨fun _ => 268, "have", "Ledger.have", defArgs s_Ledger_have, defBody s_Ledger_have, defScope s_Ledger_have, [], []⟩
def dfn19 : He5.DefA := ⟨fun _ => 276, "told", "Ledger.told", defArgs s_Ledger_told, defBody s_Ledger_told, defScope s_Ledger_told, [.non], []⟩
def dfn20 : He5.DefA := ⟨fun _ => 304, "_law_begin", "_law_begin", defArgs s_law_begin, defBody s_law_begin, defScope s_law_begin, [], []⟩
def dfn21 : He5.DefA := ⟨fun _ => 311, "_law_next", "_law_next", defArgs s_law_next, defBody s_law_next, defScope s_law_next, [], []⟩
def dfn22 : He5.DefA := ⟨fun _ => 316, "_law_word", "_law_word", defArgs s_law_word, defBody s_law_word, defScope s_law_word, [], []⟩
def dfn23 : He5.DefA := ⟨fun _ => 323, "_law_any_word", "_law_any_word", defArgs s_law_any_word, defBody s_law_any_word, defScope s_law_any_word, [], []⟩
def dfn24 : He5.DefA := ⟨fun _ => 330, "_law_hands", "_law_hands", defArgs s_law_hands, defBody s_law_hands, defScope s_law_hands, [], []⟩
def dfn25 : He5.DefA := ⟨fun _ => 337, "_law_parts", "_law_parts", defArgs s_law_parts, defBody s_law_parts, defScope s_law_parts, [], []⟩
def dfn26 : He5.DefA := ⟨fun _ => 344, "_law_deed", "_law_deed", defArgs s_law_deed, defBody s_law_deed, defScope s_law_deed, [], []⟩
def dfn27 : He5.DefA := ⟨fun _ => 351, "_law_alone", "_law_alone", defArgs s_law_alone, defBody s_law_alone, defScope s_law_alone, [], []⟩
def dfn28 : He5.DefA := ⟨fun _ => 358, "_law_refused", "_law_refused", defArgs s_law_refused, defBody s_law_refused, defScope s_law_refused, [], []⟩
def dfn29 : He5.DefA := ⟨fun _ => 365, "_law_done", "_law_done", defArgs s_law_done, defBody s_law_done, defScope s_law_done, [], []⟩
def dfn30 : He5.DefA := ⟨fun _ => 372, "_law_no_hand", "_law_no_hand", defArgs s_law_no_hand, defBody s_law_no_hand, defScope s_law_no_hand, [], []⟩
def dfn31 : He5.DefA := ⟨fun _ => 379, "_law_no_word", "_law_no_word", defArgs s_law_no_word, defBody s_law_no_word, defScope s_law_no_word, [], []⟩
def dfn32 : He5.DefA := ⟨fun _ => 386, "_law_no_parts", "_law_no_parts", defArgs s_law_no_parts, defBody s_law_no_parts, defScope s_law_no_parts, [], []⟩
def dfn33 : He5.DefA := ⟨fun _ => 393, "_law_no_deed", "_law_no_deed", defArgs s_law_no_deed, defBody s_law_no_deed, defScope s_law_no_deed, [], []⟩
def dfn34 : He5.DefA := ⟨fun _ => 400, "_law_odd", "_law_odd", defArgs s_law_odd, defBody s_law_odd, defScope s_law_odd, [], []⟩
def dfn35 : He5.DefA := ⟨fun _ => 407, "_law_looked", "_law_looked", defArgs s_law_looked, defBody s_law_looked, defScope s_law_looked, [], []⟩
def dfn36 : He5.DefA := ⟨fun _ => 412, "law", "law", defArgs s_law, defBody s_law, defScope s_law, [], []⟩
def dfns0 : List He5.DefA := [dfn0, dfn1, dfn2, dfn3, dfn4, dfn5, dfn6, dfn7, dfn8, dfn9, dfn10, dfn11, dfn12, dfn13, dfn14, dfn15, dfn16, dfn17, dfn18, dfn19, dfn20, dfn21, dfn22, dfn23, dfn24, dfn25, dfn26, dfn27, dfn28, dfn29, dfn30, dfn31, dfn32, dfn33, dfn34, dfn35, dfn36]
def factsK (K : PySem.W.Frag) : Bool := (fb0 K).all id && (fb1 K).all id && (fb2 K).all id && (fb3 K).all id && (fb4 K).all id && (fb5 K).all id && (fb6 K).all id
def obsD (ds : List He5.DefA) (K : PySem.W.Frag) : Bool × List He.FnW := (ds.all fun d => d.ok K, ds.map fun d => He5.fnA K (d.at_ K))
def valD (ds : List He5.DefA) : Bool × List He.FnW := (true, ds.map He5.DefA.val)
abbrev ObT : Type := Bool × (Bool × List He.FnW)
def obsK (K : PySem.W.Frag) : ObT := (factsK K, obsD dfns0 K)
def valK : ObT := (true, valD dfns0)
def hookM : PySem.W.Hook where
  α := ObT
  obs := fun s => obsK (He.frG s.heap.get? asM)
  val := fun _ => valK
  says := fun _ h => ∃ K : PySem.W.Frag, K.In h ∧ obsK K = valK
  of := fun _ _ e => ⟨_, He.frG_in, e⟩
  keeps := fun _ _ _ ⟨K, hK, c⟩ k => ⟨K, PySem.W.Frag.In.keeps hK k, c⟩
def obM (s : PySem.W.SharedT) : ObT := obsK (He.frG (HandSHeadRun.getT s) asM)
theorem obM_eq (s : PySem.W.SharedT) : obM s = hookM.obs s.abs := by
  have e : HandSHeadRun.getT s = s.abs.heap.get? := funext (HandSHeadRun.getT_eq s)
  show obsK (He.frG (HandSHeadRun.getT s) asM) = obsK (He.frG s.abs.heap.get? asM)
  rw [e]
theorem defM {K : PySem.W.Frag} {ds : List He5.DefA} (c : obsD ds K = valD ds) (i : Nat) {d : He5.DefA} (h : ds[i]? = some d) : ∃ fd, FunD K d.name d.qual d.params d.body d.scope (d.dvs K) (d.kws K) (d.at_ K) fd := by
  have c2 : (ds.all fun d => d.ok K) = true := congrArg (fun z : Bool × List He.FnW => z.1) c
  have e : ds.map (fun d => He5.fnA K (d.at_ K)) = ds.map He5.DefA.val := congrArg (fun z : Bool × List He.FnW => z.2) c
  have e2 : (ds.map fun d => He5.fnA K (d.at_ K))[i]? = (ds.map He5.DefA.val)[i]? := by rw [e]
  rw [List.getElem?_map, List.getElem?_map, h] at e2
  exact He5.DefA.funD (Option.some.inj e2) (List.all_eq_true.mp c2 d (List.mem_of_getElem? h))
def namesM : List PySem.Str := (["_wall", "__name__", "MailError", "NoWord", "NoLetter", "NoRule", "NoName", "NoParcel", "NoRow", "SMALL", "FIGURES", "MOST_SIGNS", "is_sign", "is_word", "words_of", "each_once", "MOST_TITLE", "MOST_BODY", "MOST_DAY", "is_text", "is_day", "Letter", "letter_of", "MOST_HAND", "is_hand"] : List PySem.Str) ++ (["is_parts", "is_deed", "stamp_of", "need_follows", "Ledger", "_law_begin", "_law_next", "_law_word", "_law_any_word", "_law_hands", "_law_parts", "_law_deed", "_law_alone", "_law_refused", "_law_done", "_law_no_hand", "_law_no_word", "_law_no_parts", "_law_no_deed", "_law_odd", "_law_looked"] : List PySem.Str)
abbrev rowM : PySem.W.OpenRow := PySem.W.OpenLaw.row PySem.Challenge.rw_mailroom_k42_deeds_done
open PySem.W PySem.Calls HandSHeadRun in
noncomputable abbrev endM (w : World) (os : OsState) : Option PySem.W.SharedT := HandSHeadRun.endF (HandSHeadRun.stepQ (HandSHeadRun.denQ HandSHeadRun.tabQ) rowM.prog w) 40000 rowM.prog w os
open PySem PySem.W PySem.Calls PyProof.Rows HandSHeadRun in
noncomputable abbrev seenM (w : World) (s : SharedT) := (looksF rowM.prog (boot_heap w.params) s.abs, HandSHeadRun.seenQ (view rowM.prog [51]) namesM (importedModules rowM.prog.main.body) (fun s => xlAt (view rowM.prog [51]) [] s && recOk rowM.toRowW.records s) s.abs)
theorem rc_pair {S α β : Type} {o : Option S} {f : S → α} {g : S → β} {a : α} {b : β} (h : o.map f = some a) (k : o.map g = some b) : o.map (fun s => (f s, g s)) = some (a, b) := by
  cases o with
  | none => cases h
  | some s =>
    cases h; cases k; rfl
theorem rc_top {S α β γ : Type} {o : Option S} {f : S → α × β} {g : S → γ} {a : α} {b : β} {c : γ} (h : o.map f = some (a, b)) (k : o.map g = some c) : o.map (fun s => ((f s).1, (f s).2, g s)) = some (a, b, c) := by
  cases o with
  | none => cases h
  | some s =>
    have h : f s = (a, b) := Option.some.inj h
    have k : g s = c := Option.some.inj k
    show some ((f s).1, (f s).2, g s) = _
    rw [h, k]
theorem run00 (w : World) : ∀ os : OsState, (endM w os).map (fun s => (seenM w s, factsK (He.frG (HandSHeadRun.getT s) asM))) = some ((true, PySem.W.openGood (PySem.W.view rowM.prog [51]) namesM), true) := by
  intro os
  kernel_rfl
theorem rc_l {S α β : Type} {o : Option S} {f : S → α} {g : S → β} {a : α} {b : β} (h : o.map (fun s => (f s, g s)) = some (a, b)) : o.map f = some a ∧ o.map g = some b := by
  cases o with
  | none => cases h
  | some s =>
    have h : (f s, g s) = (a, b) := Option.some.inj h
    exact ⟨congrArg (fun z : α × β => some z.1) h, congrArg (fun z : α × β => some z.2) h⟩
theorem run0 (w : World) (os : OsState) : (endM w os).map (seenM w) = some (true, PySem.W.openGood (PySem.W.view rowM.prog [51]) namesM) := (rc_l (run00 w os)).1
theorem runF (w : World) (os : OsState) : (endM w os).map (fun s => factsK (He.frG (HandSHeadRun.getT s) asM)) = some true := (rc_l (run00 w os)).2
theorem runD0 (w : World) : ∀ os : OsState, (endM w os).map (fun s => obsD dfns0 (He.frG (HandSHeadRun.getT s) asM)) = some (valD dfns0) := by
  intro os
  kernel_rfl
theorem runM (w : World) : HandSHeadRun.RunEq rowM (PySem.W.view rowM.prog [51]) hookM obM 40000 namesM w := by
  intro os
  have hs := run0 w os
  have hF := runF w os
  have h0 := runD0 w os
  revert hs hF h0
  show _ → _ → _ → (endM w os).map (fun s => ((seenM w s).1, (seenM w s).2, obM s)) = some (true, PySem.W.openGood (PySem.W.view rowM.prog [51]) namesM, valK)
  generalize endM w os = o
  intro hs hF h0
  exact rc_top hs (rc_pair hF (h0))
end Lw
namespace Lw
open PySem L2 Ml
structure Letter where
  sender : Str
  title : Str
  body : Str
  day : Int
  answers : Str
  deriving DecidableEq
structure Ledger where
  hand : Str
  kept : (List (Str × (List (T4 Int Str Int Any))))
def m_is_sign (v_sign : Nat) : R Bool :=
R.ok ((decide (v_sign ∈ (("abcdefghijklmnopqrstuvwxyz" : Str)).cps.toList)) || (decide (v_sign ∈ (("0123456789" : Str)).cps.toList)))
def m_is_word (v_thing : Any) : R Bool :=
(if (!(v_thing.is "str")) = true then R.ok true else (
(lenA v_thing).bind fun n2 =>
R.ok (!(decide (1 ≤ n2) && decide (n2 ≤ 20))))).bind fun b1 =>
if b1 = true then (
R.ok (false)) else (
(Any.asStr v_thing).bind fun s4 =>
R.need (((s4).cps.toList).length ≤ sizeLine) <|
(compR (fun (_ : Unit) (x9 : Nat) =>
(m_is_sign x9).bind fun r12 =>
R.ok ((), some (r12))) ((s4).cps.toList) ()).bind fun (t13 : Unit × List Bool) =>
R.ok (t13.2.all id))
def m_words_of (v_text : Str) : R ((List Str)) :=
R.need ((v_text).length ≤ 5592405) <|
R.need ((Txt.lower v_text).length + ((" " : Str)).length ≤ sizeLine) <|
(forR (fun (s4 : (List Str) × Str) (x5 : Nat) =>
(m_is_sign x5).bind fun r8 =>
(if r8 = true then (
R.need ((s4.2).length + (sg (x5)).length ≤ sizeLine) <|
(R.ok (s4.2 ++ (sg (x5)) : Str)).bind fun y11 =>
R.ok (s4.1, y11)) else (
(if (!decide (s4.2 = ("" : Str))) = true then (
R.need (s4.1.length < sizeLine) <|
R.ok (s4.1 ++ [s4.2], ("" : Str))) else (
R.ok (s4.1, s4.2))).bind fun (s12 : (List Str) × Str) =>
R.ok (s12.1, s12.2))).bind fun (s9 : (List Str) × Str) =>
R.ok (s9.1, s9.2)) (((Txt.lower v_text) ++ (" " : Str)).cps.toList) (([] : (List Str)), ("" : Str))).bind fun (s4 : (List Str) × Str) =>
R.ok (s4.1)
def m_each_once (v_row : (List Str)) : R ((List Str)) :=
(forR (fun (s2 : (List (Str × Bool))) (x3 : Str) =>
R.need (s2.length < sizeLine) <|
R.ok (if dhas s2 x3 then s2 else dput s2 x3 true)) (v_row) (([] : (List (Str × Bool))))).bind fun (s2 : (List (Str × Bool))) =>
R.ok (s2.map (·.1))
def m_is_text (v_thing : Any) (v_most : Int) : R Bool :=
(if (v_thing.is "str") = true then (
(lenA v_thing).bind fun n2 =>
R.ok (decide (n2 ≤ v_most))) else R.ok false).bind fun b1 =>
R.ok (b1)
def m_is_day (v_thing : Any) : R Bool :=
(if (v_thing.is "int") = true then (
(if (!(v_thing.is "bool")) = true then (
(Any.asInt v_thing).bind fun s3 =>
R.ok (decide (0 ≤ s3) && decide (s3 ≤ 9999))) else R.ok false).bind fun b2 =>
R.ok (b2)) else R.ok false).bind fun b1 =>
R.ok (b1)
def m_Letter___init__ (v_sender : Any) (v_title : Any) (v_body : Any) (v_day : Any) (v_answers : Any) : R Letter :=
(R.noexc (m_is_word v_sender)).bind fun r1 =>
(if (!r1) = true then R.ok true else (
(R.noexc (m_is_text v_title 60)).bind fun r3 =>
(if (!r3) = true then R.ok true else (
(Any.asStr v_title).bind fun s5 =>
R.ok (decide (10 ∈ (s5).cps.toList)))).bind fun b4 =>
R.ok (b4))).bind fun b2 =>
if b2 = true then (
.exc ⟨2, 0⟩) else (
(R.noexc (m_is_text v_body 400)).bind fun r9 =>
(if (!r9) = true then R.ok true else (
(R.noexc (m_is_day v_day)).bind fun r11 =>
R.ok (!r11))).bind fun b10 =>
if b10 = true then (
.exc ⟨2, 0⟩) else (
(eqA v_answers (Any.str ("" : Str))).bind fun b13 =>
(if (!b13) = true then (
(R.noexc (m_is_word v_answers)).bind fun r15 =>
R.ok (!r15)) else R.ok false).bind fun b14 =>
if b14 = true then (
.exc ⟨2, 0⟩) else (
(Any.asStr v_sender).bind fun s17 =>
(Any.asStr v_title).bind fun s20 =>
(Any.asStr v_body).bind fun s23 =>
(Any.asInt v_day).bind fun s26 =>
(Any.asStr v_answers).bind fun s29 =>
R.ok ((⟨s17, s20, s23, s26, s29⟩ : Letter)))))
def m_Letter_parts (v_self : Letter) : R ((T5 Str Str Str Int Str)) :=
R.ok ((⟨v_self.sender, v_self.title, v_self.body, v_self.day, v_self.answers⟩ : T5 _ _ _ _ _))
def m_Letter_words (v_self : Letter) : R ((List Str)) :=
(m_words_of v_self.title).bind fun r3 =>
(m_words_of v_self.body).bind fun r7 =>
R.need (r3.length + r7.length ≤ sizeLine) <|
(m_each_once (r3 ++ r7)).bind fun r11 =>
R.ok (r11)
def m_letter_of (v_thing : Any) : R Letter :=
(if (!(v_thing.is "tuple")) = true then R.ok true else (
(lenA v_thing).bind fun n2 =>
R.ok (!decide (n2 = 5)))).bind fun b1 =>
if b1 = true then (
.exc ⟨2, 0⟩) else (
(Any.asTup v_thing).bind fun xs4 =>
(idxR xs4 (0)).bind fun x6 =>
(Any.asTup v_thing).bind fun xs15 =>
(idxR xs15 (1)).bind fun x17 =>
(Any.asTup v_thing).bind fun xs26 =>
(idxR xs26 (2)).bind fun x28 =>
(Any.asTup v_thing).bind fun xs37 =>
(idxR xs37 (3)).bind fun x39 =>
(Any.asTup v_thing).bind fun xs48 =>
(idxR xs48 (4)).bind fun x50 =>
(m_Letter___init__ x6 x17 x28 x39 x50).bind fun r66 =>
R.ok (r66))
def m_is_hand (v_thing : Any) : R Bool :=
(if (!(v_thing.is "str")) = true then R.ok true else (
(lenA v_thing).bind fun n2 =>
R.ok (!(decide (1 ≤ n2) && decide (n2 ≤ 8))))).bind fun b1 =>
if b1 = true then (
R.ok (false)) else (
(Any.asStr v_thing).bind fun s4 =>
R.need (((s4).cps.toList).length ≤ sizeLine) <|
(compR (fun (_ : Unit) (x9 : Nat) =>
R.ok ((), some (decide (x9 ∈ (("abcdefghijklmnopqrstuvwxyz" : Str)).cps.toList)))) ((s4).cps.toList) ()).bind fun (t12 : Unit × List Bool) =>
R.ok (t12.2.all id))
def m_is_parts (v_thing : Any) : R Bool :=
R.tryC (m_letter_of v_thing) (fun r1 =>
R.ok (true)) (fun x =>
catchR [0, 1, 2, 3, 4, 5, 6] [2] x (
R.ok (false)) (.bad))
def m_is_deed (v_thing : Any) : R Bool :=
(if (!(v_thing.is "tuple")) = true then R.ok true else (
(lenA v_thing).bind fun n2 =>
(if (decide (n2 < 2)) = true then R.ok true else (
(Any.asTup v_thing).bind fun xs4 =>
(idxR xs4 (0)).bind fun x6 =>
(if (!(x6.is "str")) = true then R.ok true else (
(Any.asTup v_thing).bind fun xs16 =>
(idxR xs16 (1)).bind fun x18 =>
(m_is_word x18).bind fun r28 =>
R.ok (!r28))).bind fun b15 =>
R.ok (b15))).bind fun b3 =>
R.ok (b3))).bind fun b1 =>
if b1 = true then (
R.ok (false)) else (
(Any.asTup v_thing).bind fun xs30 =>
(idxR xs30 (0)).bind fun x32 =>
(eqA x32 (Any.str ("drop" : Str))).bind fun b41 =>
if b41 = true then (
(lenA v_thing).bind fun n43 =>
R.ok (decide (n43 = 2))) else (
(Any.asTup v_thing).bind fun xs44 =>
(idxR xs44 (0)).bind fun x46 =>
(eqA x46 (Any.str ("put" : Str))).bind fun b55 =>
if b55 = true then (
(lenA v_thing).bind fun n57 =>
(if (decide (n57 = 3)) = true then (
(Any.asTup v_thing).bind fun xs59 =>
(idxR xs59 (2)).bind fun x61 =>
(m_is_parts x61).bind fun r71 =>
R.ok (r71)) else R.ok false).bind fun b58 =>
R.ok (b58)) else (
(Any.asTup v_thing).bind fun xs72 =>
(idxR xs72 (0)).bind fun x74 =>
(eqA x74 (Any.str ("place" : Str))).bind fun b83 =>
if b83 = true then (
(lenA v_thing).bind fun n85 =>
(if (decide (n85 = 3)) = true then (
(Any.asTup v_thing).bind fun xs87 =>
(idxR xs87 (2)).bind fun x89 =>
(m_is_word x89).bind fun r99 =>
R.ok (r99)) else R.ok false).bind fun b86 =>
R.ok (b86)) else (
(Any.asTup v_thing).bind fun xs100 =>
(idxR xs100 (0)).bind fun x102 =>
(eqA x102 (Any.str ("mark" : Str))).bind fun b111 =>
(if b111 = true then (
(lenA v_thing).bind fun n113 =>
(if (decide (n113 = 4)) = true then (
(Any.asTup v_thing).bind fun xs115 =>
(idxR xs115 (2)).bind fun x117 =>
(m_is_word x117).bind fun r127 =>
(if r127 = true then (
(Any.asTup v_thing).bind fun xs129 =>
(idxR xs129 (3)).bind fun x131 =>
R.ok (x131.is "bool")) else R.ok false).bind fun b128 =>
R.ok (b128)) else R.ok false).bind fun b114 =>
R.ok (b114)) else R.ok false).bind fun b112 =>
R.ok (b112)))))
def m_need_follows (v_rows : (List (T4 Int Str Int Any))) (v_stamped : (T4 Int Str Int Any)) : R Unit :=
if (!decide (v_stamped.c = ((v_rows.length : Int) + 1))) = true then (
.exc ⟨5, 0⟩) else (
(if (decide (0 < (v_rows.length : Int))) = true then (
(idxR v_rows (-1)).bind fun x13 =>
R.ok (decide (v_stamped.a ≤ x13.a))) else R.ok false).bind fun b12 =>
if b12 = true then (
.exc ⟨5, 0⟩) else (
R.need ((v_rows).length ≤ sizeLine) <|
(compR (fun (_ : Unit) (x33 : (T4 Int Str Int Any)) =>
(Any.asTup x33.d).bind fun xs47 =>
(idxR xs47 (0)).bind fun x49 =>
(eqA x49 (Any.str ("put" : Str))).bind fun b58 =>
if b58 = true then (
R.ok ((), some (x33))) else R.ok ((), none)) (v_rows) ()).bind fun (t60 : Unit × List (T4 Int Str Int Any)) =>
(Any.asTup v_stamped.d).bind fun xs61 =>
(idxR xs61 (0)).bind fun x63 =>
(eqA x63 (Any.str ("put" : Str))).bind fun b72 =>
(if b72 = true then (
(Any.asTup v_stamped.d).bind fun xs74 =>
(idxR xs74 (1)).bind fun x76 =>
R.need (((t60.2.length : Int) + 1 : Int).natAbs.log2 < 1920) <|
R.need ((v_stamped.b).length + (Str.ofString (toString ((t60.2.length : Int) + 1 : Int))).length ≤ sizeLine) <|
(eqA x76 (Any.str (v_stamped.b ++ (Str.ofString (toString ((t60.2.length : Int) + 1 : Int)))))).bind fun b87 =>
R.ok (!b87)) else R.ok false).bind fun b73 =>
if b73 = true then (
.exc ⟨5, 0⟩) else (
R.ok (()))))
def m_Ledger___init__ (v_hand : Any) : R Ledger :=
(R.noexc (m_is_hand v_hand)).bind fun r1 =>
if (!r1) = true then (
.exc ⟨4, 0⟩) else (
(Any.asStr v_hand).bind fun s3 =>
R.ok ((⟨s3, ([] : (List (Str × (List (T4 Int Str Int Any)))))⟩ : Ledger)))
def m_Ledger_latest (v_self_kept : (List (Str × (List (T4 Int Str Int Any))))) : R Int :=
R.need ((v_self_kept.map (·.2)).length ≤ sizeLine) <|
(compR (fun (_ : Unit) (x6 : (List (T4 Int Str Int Any))) =>
(idxR x6 (-1)).bind fun x15 =>
R.ok ((), some (x15.a))) (v_self_kept.map (·.2)) ()).bind fun (t32 : Unit × List Int) =>
R.ok (maxDef t32.2 0)
def m_Ledger_do (v_self : Ledger) (v_deed : Any) : R ((T4 Int Str Int Any) × Ledger) :=
(R.noexc (m_is_deed v_deed)).bind fun r3 =>
if (!r3) = true then (
.exc ⟨5, 0⟩) else (
(R.noexc (m_Ledger_latest v_self.kept)).bind fun r13 =>
(m_need_follows ((dget v_self.kept v_self.hand).getD ([] : (List (T4 Int Str Int Any)))) (⟨r13 + 1, v_self.hand, (((dget v_self.kept v_self.hand).getD ([] : (List (T4 Int Str Int Any)))).length : Int) + 1, v_deed⟩ : T4 _ _ _ _)).bind fun r16 =>
R.need (v_self.kept.length < sizeLine) <|
R.need (((dget v_self.kept v_self.hand).getD ([] : (List (T4 Int Str Int Any)))).length < sizeLine) <|
R.ok (((⟨r13 + 1, v_self.hand, (((dget v_self.kept v_self.hand).getD ([] : (List (T4 Int Str Int Any)))).length : Int) + 1, v_deed⟩ : T4 _ _ _ _), (⟨v_self.hand, dput (setE v_self.kept v_self.hand ([] : (List (T4 Int Str Int Any)))) v_self.hand (((dget v_self.kept v_self.hand).getD ([] : (List (T4 Int Str Int Any)))) ++ [(⟨r13 + 1, v_self.hand, (((dget v_self.kept v_self.hand).getD ([] : (List (T4 Int Str Int Any)))).length : Int) + 1, v_deed⟩ : T4 _ _ _ _)])⟩ : Ledger))))
def m_Ledger_have (v_self : Ledger) : R ((List (Str × Int))) :=
(forR (fun (s7 : (List (Str × Int))) (x8 : (Str × (List (T4 Int Str Int Any)))) =>
R.need (s7.length < sizeLine) <|
R.ok (dput s7 x8.1 (x8.2.length : Int))) (v_self.kept) (([] : (List (Str × Int))))).bind fun (s7 : (List (Str × Int))) =>
R.ok (s7)
def m_Ledger_told (v_self : Ledger) (v_have : Any) : R ((List (T4 Int Str Int Any))) :=
(forR (fun (s7 : (List (T4 Int Str Int Any))) (x8 : (Str × (List (T4 Int Str Int Any)))) =>
(if (!Any.isN v_have) = true then (
.bad) else (
R.ok (0))).bind fun (s20 : Int) =>
R.need (s7.length + (cutL x8.2 (some (s20)) none).length ≤ sizeLine) <|
R.ok (s7 ++ (cutL x8.2 (some (s20)) none))) (v_self.kept) (([] : (List (T4 Int Str Int Any))))).bind fun (s7 : (List (T4 Int Str Int Any))) =>
R.need (s7.length ≤ sizeLine) <|
R.ok (sortSt s7)
def m_law_begin (v_law_script : Script) : R ((T3 Int Script Int)) :=
R.ok ((⟨(v_law_script.ns.length : Int) + 7, v_law_script, 0⟩ : T3 Int Script Int))
def m_law_next (v_law_state : (T3 Int Script Int)) : R (Int × (T3 Int Script Int)) :=
(if (decide (0 < (v_law_state.b.ns.length : Int))) = true then (
R.need (0 < (v_law_state.b.ns.length : Int)) <|
(idxR v_law_state.b.ns (v_law_state.c % (v_law_state.b.ns.length : Int))).bind fun x15 =>
R.ok (x15)) else (
R.ok (0))).bind fun (s4 : Int) =>
(R.ok (⟨v_law_state.a, v_law_state.b, v_law_state.c + 1⟩ : (T3 Int Script Int))).bind fun y19 =>
(R.ok (⟨(((y19.a * 48271) + s4) + y19.c) % 2147483647, y19.b, y19.c⟩ : (T3 Int Script Int))).bind fun y26 =>
R.ok ((y26.a / 64, y26))
def m_law_word (v_law_state : (T3 Int Script Int)) (v_law_signs : Str) (v_law_most : Int) : R (Str × (T3 Int Script Int)) :=
(m_law_next v_law_state).bind fun r1 =>
R.need (0 < v_law_most) <|
(m_law_next r1.2).bind fun r4 =>
(idxR ([1, 2, v_law_most, 1 + (r1.1 % v_law_most)]) (r4.1 % 4)).bind fun x5 =>
(if (decide (v_law_most < x5)) = true then (
R.ok (v_law_most)) else (
R.ok (x5))).bind fun (s6 : Int) =>
R.need (-(2 ^ 62) ≤ s6 ∧ s6 < 2 ^ 62) <|
R.need ((rngL 0 (s6).toNat).length ≤ sizeLine) <|
(compR (fun (s13 : (T3 Int Script Int)) (x10 : Int) =>
(m_law_next s13).bind fun r14 =>
R.need ((v_law_signs).length ≤ sizeLine) <|
R.need (0 < ((v_law_signs).length : Int)) <|
R.need ((v_law_signs).length ≤ sizeLine) <|
(idxR (v_law_signs).cps.toList (r14.1 % ((v_law_signs).length : Int))).bind fun c18 =>
R.ok (r14.2, some (sg (c18)))) (rngL 0 (s6).toNat) r4.2).bind fun (t19 : (T3 Int Script Int) × List Str) =>
R.need ((t19.2.map (·.length)).sum + t19.2.length * (("" : Str)).length ≤ 16777216) <|
R.ok ((Txt.join ("" : Str) t19.2, t19.1))
def m_law_any_word (v_law_state : (T3 Int Script Int)) : R (Str × (T3 Int Script Int)) :=
(m_law_word v_law_state ("abcdefghijklmnopqrstuvwxyz0123456789" : Str) 20).bind fun r1 =>
R.ok ((r1.1, r1.2))
def m_law_hands (v_law_state : (T3 Int Script Int)) (v_law_many : Int) : R ((List Str) × (T3 Int Script Int)) :=
(m_law_word v_law_state ("abcdefghijklmnopqrstuvwxyz" : Str) 7).bind fun r1 =>
(m_law_next r1.2).bind fun r2 =>
R.need ((r1.1).length ≤ sizeLine) <|
R.need (0 < (((r1.1).length : Int) + 1)) <|
(R.ok (r2.1 % (((r1.1).length : Int) + 1) : Int)).bind fun y5 =>
(m_law_next r2.2).bind fun r6 =>
(R.ok (r6.1 % 26 : Int)).bind fun y7 =>
R.need (-(2 ^ 62) ≤ v_law_many ∧ v_law_many < 2 ^ 62) <|
(forR (fun (s10 : (List Str)) (x11 : Int) =>
R.need ((r1.1).length ≤ sizeLine) <|
(idxR (("abcdefghijklmnopqrstuvwxyz" : Str)).cps.toList ((y7 + (7 * x11)) % 26)).bind fun c15 =>
R.need ((cutS r1.1 none (some (y5))).length + (sg (c15)).length ≤ sizeLine) <|
R.need ((r1.1).length ≤ sizeLine) <|
R.need (((cutS r1.1 none (some (y5))) ++ (sg (c15))).length + (cutS r1.1 (some (y5)) none).length ≤ sizeLine) <|
R.need (s10.length < sizeLine) <|
R.ok (s10 ++ [((cutS r1.1 none (some (y5))) ++ (sg (c15))) ++ (cutS r1.1 (some (y5)) none)])) (rngL 0 (v_law_many).toNat) (([] : (List Str)))).bind fun (s10 : (List Str)) =>
(m_law_next r6.2).bind fun r20 =>
(if (decide ((r20.1 % 2) = 1)) = true then (
(idxR s10 (0)).bind fun x22 =>
R.need ((x22).length ≤ sizeLine) <|
(ixR s10 (0)).bind fun j24 =>
R.ok (s10.set j24 (cutS x22 none (some (y5 + 1))))) else (
R.ok (s10))).bind fun (s21 : (List Str)) =>
R.ok ((s21, r20.2))
def m_law_parts (v_law_state : (T3 Int Script Int)) : R ((T5 Str Str Str Int Str) × (T3 Int Script Int)) :=
(m_law_word v_law_state (" abcXYZ019!-.,;:'~" : Str) 60).bind fun r1 =>
R.need (((" abcXYZ019!-.,;:'~" : Str)).length + (("\n" : Str)).length ≤ sizeLine) <|
(m_law_word r1.2 ((" abcXYZ019!-.,;:'~" : Str) ++ ("\n" : Str)) 60).bind fun r3 =>
(m_law_any_word r3.2).bind fun r4 =>
(m_law_next r4.2).bind fun r6 =>
(idxR ([("" : Str), r4.1]) (r6.1 % 2)).bind fun x7 =>
(m_law_next r6.2).bind fun r8 =>
(m_law_next r8.2).bind fun r10 =>
(idxR ([r8.1 % 10000, 0, 9999]) (r10.1 % 3)).bind fun x11 =>
(m_law_any_word r10.2).bind fun r12 =>
R.ok (((⟨r12.1, r1.1, r3.1, x11, x7⟩ : T5 _ _ _ _ _), r12.2))
def m_law_deed (v_law_state : (T3 Int Script Int)) (v_law_names : (List Str)) (v_law_hand : Str) (v_law_puts : Int) : R (Any × (T3 Int Script Int)) :=
(m_law_next v_law_state).bind fun r1 =>
(R.ok (r1.1 % 8 : Int)).bind fun y2 =>
if (decide (y2 < 3)) = true then (
R.need ((v_law_puts + 1 : Int).natAbs.log2 < 1920) <|
R.need ((v_law_hand).length + (Str.ofString (toString (v_law_puts + 1 : Int))).length ≤ sizeLine) <|
(m_law_parts r1.2).bind fun r6 =>
R.ok (((Any.tup [(Any.str ("put" : Str)), (Any.str (v_law_hand ++ (Str.ofString (toString (v_law_puts + 1 : Int))))), (Any.tup [(Any.str r6.1.a), (Any.str r6.1.b), (Any.str r6.1.c), (Any.int r6.1.d), (Any.str r6.1.e)])]), r6.2))) else (
(m_law_any_word r1.2).bind fun r22 =>
R.need ((v_law_hand).length + (("1" : Str)).length ≤ sizeLine) <|
R.need (v_law_names.length + ([v_law_hand ++ ("1" : Str)]).length ≤ sizeLine) <|
(m_law_next r22.2).bind fun r27 =>
R.need (0 < ((v_law_names.length : Int) + 1)) <|
(idxR (v_law_names ++ ([v_law_hand ++ ("1" : Str)])) (r27.1 % ((v_law_names.length : Int) + 1))).bind fun x29 =>
(m_law_next r27.2).bind fun r31 =>
(idxR ([r22.1, x29]) (r31.1 % 2)).bind fun x32 =>
if (decide (y2 < 5)) = true then (
(m_law_any_word r31.2).bind fun r34 =>
R.ok (((Any.tup [(Any.str ("place" : Str)), (Any.str x32), (Any.str r34.1)]), r34.2))) else (
if (decide (y2 < 7)) = true then (
(m_law_any_word r31.2).bind fun r38 =>
(m_law_next r38.2).bind fun r39 =>
R.ok (((Any.tup [(Any.str ("mark" : Str)), (Any.str x32), (Any.str r38.1), (Any.bl (decide ((r39.1 % 2) = 1)))]), r39.2))) else (
R.ok (((Any.tup [(Any.str ("drop" : Str)), (Any.str x32)]), r31.2)))))
def m_law_alone (v_law_e : Exc) (v_law_kind : Int) : R Bool :=
(R.ok ([([2] : List Nat).contains v_law_e.cls, ([4] : List Nat).contains v_law_e.cls, ([5] : List Nat).contains v_law_e.cls, ([6] : List Nat).contains v_law_e.cls] : (List Bool))).bind fun y2 =>
R.need (y2.length + ([([3] : List Nat).contains v_law_e.cls, ([1] : List Nat).contains v_law_e.cls]).length ≤ sizeLine) <|
(R.ok (y2 ++ ([([3] : List Nat).contains v_law_e.cls, ([1] : List Nat).contains v_law_e.cls]) : (List Bool))).bind fun y6 =>
(if (([0, 1, 2, 3, 4, 5, 6] : List Nat).contains v_law_e.cls) = true then (
R.need (Lay.lay (y6 : (List Bool)) = true) <|
R.need (Lay.lay (true : Bool) = true) <|
(if (decide (((y6.countP fun y => decide (y = true) : Nat) : Int) = 1)) = true then (
(idxR y6 (v_law_kind)).bind fun x11 =>
R.ok (x11)) else R.ok false).bind fun b10 =>
R.ok (b10)) else R.ok false).bind fun b7 =>
R.ok (b7)
def m_law_refused (v_law_ledger : Ledger) (v_law_deed_here : Any) : R (Bool × Ledger) :=
R.tryC (m_Ledger_do v_law_ledger v_law_deed_here) (fun r3 =>
R.ok ((false, r3.2))) (fun x =>
catchR [0, 1, 2, 3, 4, 5, 6] [0, 1, 2, 3, 4, 5, 6] x (
(m_law_alone x 2).bind fun r6 =>
R.ok ((r6, v_law_ledger))) (.bad))
def m_law_done (v_law_ledger : Ledger) (v_law_deed_here : Any) : R (Any × Ledger) :=
R.tryC (m_Ledger_do v_law_ledger v_law_deed_here) (fun r3 =>
R.ok (((Any.tup [(Any.int r3.1.a), (Any.str r3.1.b), (Any.int r3.1.c), r3.1.d]), r3.2))) (fun x =>
catchR [0, 1, 2, 3, 4, 5, 6] [0, 1, 2, 3, 4, 5, 6] x (
R.ok ((Any.non, v_law_ledger))) (.bad))
def m_law_no_hand (v_law_hand : Any) : R Bool :=
R.tryC (m_Ledger___init__ v_law_hand) (fun r3 =>
R.ok (false)) (fun x =>
catchR [0, 1, 2, 3, 4, 5, 6] [0, 1, 2, 3, 4, 5, 6] x (
(m_law_alone x 1).bind fun r4 =>
R.ok (r4)) (.bad))
def m_law_no_word (v_law_state : (T3 Int Script Int)) : R (Any × (T3 Int Script Int)) :=
(m_law_any_word v_law_state).bind fun r1 =>
(m_law_next r1.2).bind fun r2 =>
R.need ((r1.1).length ≤ sizeLine) <|
R.need (0 < (((r1.1).length : Int) + 1)) <|
(R.ok (r2.1 % (((r1.1).length : Int) + 1) : Int)).bind fun y5 =>
R.need ((r1.1).length ≤ sizeLine) <|
R.need ((cutS r1.1 none (some (y5))).length + (("A" : Str)).length ≤ sizeLine) <|
R.need ((r1.1).length ≤ sizeLine) <|
R.need (((cutS r1.1 none (some (y5))) ++ ("A" : Str)).length + (cutS r1.1 (some (y5)) (some (19))).length ≤ sizeLine) <|
R.need ((r1.1).length ≤ sizeLine) <|
R.need ((cutS r1.1 none (some (y5))).length + (("-" : Str)).length ≤ sizeLine) <|
R.need ((r1.1).length ≤ sizeLine) <|
R.need (((cutS r1.1 none (some (y5))) ++ ("-" : Str)).length + (cutS r1.1 (some (y5)) (some (19))).length ≤ sizeLine) <|
R.need ((r1.1).length * (21 : Int).toNat ≤ sizeLine ∧ -(2 ^ 62) ≤ (21 : Int) ∧ (21 : Int) < 2 ^ 62) <|
(R.ok ([(Any.str ("" : Str)), (Any.str (((cutS r1.1 none (some (y5))) ++ ("A" : Str)) ++ (cutS r1.1 (some (y5)) (some (19))))), (Any.str (((cutS r1.1 none (some (y5))) ++ ("-" : Str)) ++ (cutS r1.1 (some (y5)) (some (19))))), (Any.str (repS r1.1 (21 : Int).toNat)), Any.non, (Any.int 7), (Any.lst (([r1.1]).map Any.str))] : (List Any))).bind fun y18 =>
(m_law_next r2.2).bind fun r19 =>
(idxR y18 (r19.1 % 7)).bind fun x20 =>
R.ok ((x20, r19.2))
def m_law_no_parts (v_law_state : (T3 Int Script Int)) (v_law_parts_here : Any) : R (Any × (T3 Int Script Int)) :=
(m_law_next v_law_state).bind fun r1 =>
(R.ok (r1.1 % 5 : Int)).bind fun y2 =>
(m_law_no_word r1.2).bind fun r3 =>
R.need ((("t" : Str)).length * (61 : Int).toNat ≤ sizeLine ∧ -(2 ^ 62) ≤ (61 : Int) ∧ (61 : Int) < 2 ^ 62) <|
R.need ((("b" : Str)).length * (401 : Int).toNat ≤ sizeLine ∧ -(2 ^ 62) ≤ (401 : Int) ∧ (401 : Int) < 2 ^ 62) <|
(m_law_no_word r3.2).bind fun r8 =>
(idxR ([r3.1, (Any.str (repS ("t" : Str) (61 : Int).toNat)), (Any.str (repS ("b" : Str) (401 : Int).toNat)), (Any.int 10000), r8.1]) (y2)).bind fun x12 =>
(eqA x12 (Any.str ("" : Str))).bind fun b20 =>
(if b20 = true then (
R.ok ((Any.str ("-" : Str)))) else (
R.ok (x12))).bind fun (s21 : Any) =>
(Any.asTup v_law_parts_here).bind fun xs26 =>
R.need (¬ (HT.sIx (xs26).length 0 none = 0 ∧ HT.sIx (xs26).length (xs26).length (some (y2)) = (xs26).length)) <|
R.need (((cutL xs26 none (some (y2)))).length + ([(⟨s21⟩ : T1 _).a]).length ≤ sizeLine) <|
(Any.asTup v_law_parts_here).bind fun xs39 =>
R.need (¬ (HT.sIx (xs39).length 0 (some (y2 + 1)) = 0 ∧ HT.sIx (xs39).length (xs39).length none = (xs39).length)) <|
R.need ((((cutL xs26 none (some (y2))) ++ [(⟨s21⟩ : T1 _).a])).length + ((cutL xs39 (some (y2 + 1)) none)).length ≤ sizeLine) <|
(Any.asTup v_law_parts_here).bind fun xs48 =>
(Any.asTup v_law_parts_here).bind fun xs53 =>
R.need ((xs53).length + ([(Any.str ((⟨("" : Str)⟩ : T1 _).a))]).length ≤ sizeLine) <|
(Any.asTup v_law_parts_here).bind fun xs61 =>
R.need (¬ (HT.sIx (xs61).length 0 none = 0 ∧ HT.sIx (xs61).length (xs61).length (some (4)) = (xs61).length)) <|
(R.ok ([(Any.tup (((cutL xs26 none (some (y2))) ++ [(⟨s21⟩ : T1 _).a]) ++ (cutL xs39 (some (y2 + 1)) none))), (Any.lst xs48), (Any.tup (xs53 ++ [(Any.str ((⟨("" : Str)⟩ : T1 _).a))])), (Any.tup (cutL xs61 none (some (4)))), Any.non, (Any.tup [(Any.str ("" : Str)), (Any.str ("" : Str)), (Any.str ("" : Str)), (Any.int 0), (Any.str ("" : Str))])] : (List Any))).bind fun y69 =>
(m_law_next r8.2).bind fun r70 =>
(idxR y69 (r70.1 % 6)).bind fun x71 =>
R.ok ((x71, r70.2))
def m_law_no_deed (v_law_state : (T3 Int Script Int)) (v_law_deed_here : Any) : R (Any × (T3 Int Script Int)) :=
(m_law_next v_law_state).bind fun r1 =>
(lenA v_law_deed_here).bind fun n2 =>
R.need (0 < n2) <|
(R.ok (r1.1 % n2 : Int)).bind fun y4 =>
if (decide (y4 = 0)) = true then (
(Any.asTup v_law_deed_here).bind fun xs6 =>
(idxR xs6 (0)).bind fun x8 =>
(m_law_next r1.2).bind fun r24 =>
(idxR ([(Any.str ("puts" : Str)), (Any.str ("Place" : Str)), (Any.str ("" : Str)), (Any.str ("marked" : Str)), Any.non, (Any.int 3), (Any.lst ([x8])), (Any.oth 1), (Any.tup [])]) (r24.1 % 9)).bind fun x25 =>
(Any.asTup v_law_deed_here).bind fun xs35 =>
R.need (¬ (HT.sIx (xs35).length 0 (some (1)) = 0 ∧ HT.sIx (xs35).length (xs35).length none = (xs35).length)) <|
R.need (([(⟨x25⟩ : T1 _).a]).length + ((cutL xs35 (some (1)) none)).length ≤ sizeLine) <|
R.ok (((Any.tup ([(⟨x25⟩ : T1 _).a] ++ (cutL xs35 (some (1)) none))), r24.2))) else (
if (decide (y4 = 1)) = true then (
(Any.asTup v_law_deed_here).bind fun xs47 =>
(idxR xs47 (0)).bind fun x49 =>
(m_law_no_word r1.2).bind fun r59 =>
(Any.asTup v_law_deed_here).bind fun xs64 =>
R.need (¬ (HT.sIx (xs64).length 0 (some (2)) = 0 ∧ HT.sIx (xs64).length (xs64).length none = (xs64).length)) <|
R.need (([(x49, r59.1).1, (x49, r59.1).2]).length + ((cutL xs64 (some (2)) none)).length ≤ sizeLine) <|
R.ok (((Any.tup ([(x49, r59.1).1, (x49, r59.1).2] ++ (cutL xs64 (some (2)) none))), r59.2))) else (
if (decide (y4 = 3)) = true then (
(Any.asTup v_law_deed_here).bind fun xs78 =>
R.need (¬ (HT.sIx (xs78).length 0 none = 0 ∧ HT.sIx (xs78).length (xs78).length (some (3)) = (xs78).length)) <|
(m_law_next r1.2).bind fun r84 =>
(idxR ([(Any.int 1), (Any.int 0), Any.non, (Any.str ("True" : Str))]) (r84.1 % 4)).bind fun x85 =>
R.need (((cutL xs78 none (some (3)))).length + ([(⟨x85⟩ : T1 _).a]).length ≤ sizeLine) <|
R.ok (((Any.tup ((cutL xs78 none (some (3))) ++ [(⟨x85⟩ : T1 _).a])), r84.2))) else (
(Any.asTup v_law_deed_here).bind fun xs101 =>
(idxR xs101 (0)).bind fun x103 =>
(eqA x103 (Any.str ("put" : Str))).bind fun b112 =>
if b112 = true then (
(Any.asTup v_law_deed_here).bind fun xs114 =>
R.need (¬ (HT.sIx (xs114).length 0 none = 0 ∧ HT.sIx (xs114).length (xs114).length (some (2)) = (xs114).length)) <|
(Any.asTup v_law_deed_here).bind fun xs119 =>
(idxR xs119 (2)).bind fun x121 =>
(m_law_no_parts r1.2 x121).bind fun r131 =>
R.need (((cutL xs114 none (some (2)))).length + ([(⟨r131.1⟩ : T1 _).a]).length ≤ sizeLine) <|
R.ok (((Any.tup ((cutL xs114 none (some (2))) ++ [(⟨r131.1⟩ : T1 _).a])), r131.2))) else (
(Any.asTup v_law_deed_here).bind fun xs142 =>
R.need (¬ (HT.sIx (xs142).length 0 none = 0 ∧ HT.sIx (xs142).length (xs142).length (some (2)) = (xs142).length)) <|
(m_law_no_word r1.2).bind fun r147 =>
R.need (((cutL xs142 none (some (2)))).length + ([(⟨r147.1⟩ : T1 _).a]).length ≤ sizeLine) <|
(Any.asTup v_law_deed_here).bind fun xs158 =>
R.need (¬ (HT.sIx (xs158).length 0 (some (3)) = 0 ∧ HT.sIx (xs158).length (xs158).length none = (xs158).length)) <|
R.need ((((cutL xs142 none (some (2))) ++ [(⟨r147.1⟩ : T1 _).a])).length + ((cutL xs158 (some (3)) none)).length ≤ sizeLine) <|
R.ok (((Any.tup (((cutL xs142 none (some (2))) ++ [(⟨r147.1⟩ : T1 _).a]) ++ (cutL xs158 (some (3)) none))), r147.2))))))
def m_law_odd (v_law_state : (T3 Int Script Int)) (v_law_hand : Str) (v_law_puts : Int) : R (Any × (T3 Int Script Int)) :=
(m_law_parts v_law_state).bind fun r1 =>
R.need ((v_law_puts + 2 : Int).natAbs.log2 < 1920) <|
R.need ((v_law_hand).length + (Str.ofString (toString (v_law_puts + 2 : Int))).length ≤ sizeLine) <|
R.need ((v_law_puts : Int).natAbs.log2 < 1920) <|
R.need ((v_law_hand).length + (Str.ofString (toString (v_law_puts : Int))).length ≤ sizeLine) <|
R.need ((("x" : Str)).length + (v_law_hand).length ≤ sizeLine) <|
(R.ok ([(Any.tup [(Any.str ("put" : Str)), (Any.str (v_law_hand ++ (Str.ofString (toString (v_law_puts + 2 : Int))))), (Any.tup [(Any.str r1.1.a), (Any.str r1.1.b), (Any.str r1.1.c), (Any.int r1.1.d), (Any.str r1.1.e)])]), (Any.tup [(Any.str ("put" : Str)), (Any.str (v_law_hand ++ (Str.ofString (toString (v_law_puts : Int))))), (Any.tup [(Any.str r1.1.a), (Any.str r1.1.b), (Any.str r1.1.c), (Any.int r1.1.d), (Any.str r1.1.e)])]), (Any.tup [(Any.str ("put" : Str)), (Any.str (("x" : Str) ++ v_law_hand)), (Any.tup [(Any.str r1.1.a), (Any.str r1.1.b), (Any.str r1.1.c), (Any.int r1.1.d), (Any.str r1.1.e)])])] : (List Any))).bind fun y49 =>
R.need ((v_law_hand).length + (("0" : Str)).length ≤ sizeLine) <|
R.need ((v_law_puts + 1 : Int).natAbs.log2 < 1920) <|
R.need ((v_law_hand ++ ("0" : Str)).length + (Str.ofString (toString (v_law_puts + 1 : Int))).length ≤ sizeLine) <|
R.need ((v_law_puts + 1 : Int).natAbs.log2 < 1920) <|
R.need ((v_law_hand).length + (Str.ofString (toString (v_law_puts + 1 : Int))).length ≤ sizeLine) <|
R.need (y49.length + ([(Any.tup [(Any.str ("put" : Str)), (Any.str ((v_law_hand ++ ("0" : Str)) ++ (Str.ofString (toString (v_law_puts + 1 : Int))))), (Any.tup [(Any.str r1.1.a), (Any.str r1.1.b), (Any.str r1.1.c), (Any.int r1.1.d), (Any.str r1.1.e)])]), (Any.tup [(Any.str ("put" : Str)), (Any.str (v_law_hand ++ (Str.ofString (toString (v_law_puts + 1 : Int))))), (Any.lst ([(Any.str r1.1.a), (Any.str r1.1.b), (Any.str r1.1.c), (Any.int r1.1.d), (Any.str r1.1.e)]))])]).length ≤ sizeLine) <|
(R.ok (y49 ++ ([(Any.tup [(Any.str ("put" : Str)), (Any.str ((v_law_hand ++ ("0" : Str)) ++ (Str.ofString (toString (v_law_puts + 1 : Int))))), (Any.tup [(Any.str r1.1.a), (Any.str r1.1.b), (Any.str r1.1.c), (Any.int r1.1.d), (Any.str r1.1.e)])]), (Any.tup [(Any.str ("put" : Str)), (Any.str (v_law_hand ++ (Str.ofString (toString (v_law_puts + 1 : Int))))), (Any.lst ([(Any.str r1.1.a), (Any.str r1.1.b), (Any.str r1.1.c), (Any.int r1.1.d), (Any.str r1.1.e)]))])]) : (List Any))).bind fun y86 =>
R.need ((v_law_hand).length + (("1" : Str)).length ≤ sizeLine) <|
R.need ((v_law_hand).length + (("1" : Str)).length ≤ sizeLine) <|
R.need ((v_law_hand).length + (("1" : Str)).length ≤ sizeLine) <|
R.need (y86.length + ([(Any.tup [(Any.str ("place" : Str)), (Any.str (v_law_hand ++ ("1" : Str)))]), (Any.tup [(Any.str ("mark" : Str)), (Any.str (v_law_hand ++ ("1" : Str))), (Any.str ("a" : Str)), (Any.int 1)]), (Any.lst (([("drop" : Str), v_law_hand ++ ("1" : Str)]).map Any.str)), Any.non, (Any.tup [(Any.str ("drop" : Str)), (Any.str ("A" : Str))])]).length ≤ sizeLine) <|
(R.ok (y86 ++ ([(Any.tup [(Any.str ("place" : Str)), (Any.str (v_law_hand ++ ("1" : Str)))]), (Any.tup [(Any.str ("mark" : Str)), (Any.str (v_law_hand ++ ("1" : Str))), (Any.str ("a" : Str)), (Any.int 1)]), (Any.lst (([("drop" : Str), v_law_hand ++ ("1" : Str)]).map Any.str)), Any.non, (Any.tup [(Any.str ("drop" : Str)), (Any.str ("A" : Str))])]) : (List Any))).bind fun y101 =>
R.need ((v_law_hand).length + (("1" : Str)).length ≤ sizeLine) <|
R.need ((v_law_puts + 1 : Int).natAbs.log2 < 1920) <|
R.need ((v_law_hand ++ ("1" : Str)).length + (Str.ofString (toString (v_law_puts + 1 : Int))).length ≤ sizeLine) <|
(m_law_deed r1.2 ([] : (List Str)) v_law_hand v_law_puts).bind fun r119 =>
(m_law_no_deed r119.2 r119.1).bind fun r122 =>
R.need (y101.length + ([(Any.tup [(Any.str ("put" : Str)), (Any.str ((v_law_hand ++ ("1" : Str)) ++ (Str.ofString (toString (v_law_puts + 1 : Int))))), (Any.tup [(Any.str r1.1.a), (Any.str r1.1.b), (Any.str r1.1.c), (Any.int r1.1.d), (Any.str r1.1.e)])]), r122.1]).length ≤ sizeLine) <|
(R.ok (y101 ++ ([(Any.tup [(Any.str ("put" : Str)), (Any.str ((v_law_hand ++ ("1" : Str)) ++ (Str.ofString (toString (v_law_puts + 1 : Int))))), (Any.tup [(Any.str r1.1.a), (Any.str r1.1.b), (Any.str r1.1.c), (Any.int r1.1.d), (Any.str r1.1.e)])]), r122.1]) : (List Any))).bind fun y128 =>
(m_law_next r122.2).bind fun r129 =>
(m_law_next r129.2).bind fun r131 =>
(idxR ([r129.1 % 11, 11]) (r131.1 % 2)).bind fun x132 =>
(idxR y128 (x132)).bind fun x133 =>
R.ok ((x133, r131.2))
def m_law_looked (v_law_ledger : Ledger) (v_law_rows : (List (T4 Int Str Int Any))) (v_law_way : Int) : R Bool :=
(eqA (l4A v_law_rows) (l4A ([] : (List (T4 Int Str Int Any))))).bind fun b5 =>
(if (!b5) = true then (
(R.ok (mergeD [] ([(v_law_ledger.hand, (v_law_rows.length : Int))] : (List (Str × Int))) : (List (Str × Int)))).bind fun y9 =>
R.ok (y9)) else (
R.ok (([] : (List (Str × Int)))))).bind fun (s6 : (List (Str × Int))) =>
(if (decide (v_law_way = 0)) = true then (
(m_Ledger_have v_law_ledger).bind fun r13 =>
(eqDc r13 s6).bind fun b17 =>
R.ok (!b17)) else R.ok false).bind fun b10 =>
if b10 = true then (
R.ok (false)) else (
(m_Ledger_told v_law_ledger Any.non).bind fun r21 =>
(eqA (l4A r21) (l4A v_law_rows)).bind fun b25 =>
(if b25 = true then (
(m_Ledger_have v_law_ledger).bind fun r29 =>
(eqDc r29 s6).bind fun b33 =>
R.ok (b33)) else R.ok false).bind fun b26 =>
R.ok (b26))
def m_law (v_law_script : Script) : R Bool :=
(m_law_begin v_law_script).bind fun r1 =>
(m_law_hands r1 2).bind fun r3 =>
(idxR r3.1 (0)).bind fun x5 =>
(m_Ledger___init__ (Any.str x5)).bind fun r9 =>
(idxR r3.1 (1)).bind fun x10 =>
(m_Ledger___init__ (Any.str x10)).bind fun r14 =>
(R.ok ([r9, r14] : (List Ledger))).bind fun y16 =>
(R.ok ([([] : (List (T4 Int Str Int Any))), ([] : (List (T4 Int Str Int Any)))] : (List (List (T4 Int Str Int Any))))).bind fun y20 =>
(forF (ρ := Bool) (fun (s24 : (T3 Int Script Int) × (List Ledger) × (List (List (T4 Int Str Int Any))) × (List Hd)) (x25 : Int) =>
(m_law_next s24.1).bind fun r35 =>
(R.ok (r35.1 % 2 : Int)).bind fun y36 =>
(bind2 (ixJ s24.2.2.1 (y36)) fun j37 x38 =>
R.need ((x38).length ≤ sizeLine) <|
(compR (fun (_ : Unit) (x45 : (T4 Int Str Int Any)) =>
(Any.asTup x45.d).bind fun xs59 =>
(idxR xs59 (0)).bind fun x61 =>
(eqA x61 (Any.str ("put" : Str))).bind fun b70 =>
if b70 = true then (
R.ok ((), some (x45))) else R.ok ((), none)) (x38) ()).bind fun (t72 : Unit × List (T4 Int Str Int Any)) =>
(R.ok ((t72.2.length : Int) : Int)).bind fun y73 =>
(m_law_next r35.2).bind fun r74 =>
bind2 (if (decide ((r74.1 % 4) = 0)) = true then (
(bind2 (ixJ s24.2.1 (y36)) fun j77 x78 =>
(idxR r3.1 (y36)).bind fun x83 =>
(m_law_odd r74.2 x83 y73).bind fun r84 =>
(m_law_refused x78 r84.1).bind fun r87 =>
R.ok ((s24.2.1.set j77 r87.2, r84.2), !r87.1))) else R.ok ((s24.2.1, r74.2), false)) fun (s75 : (List Ledger) × (T3 Int Script Int)) (b76 : Bool) =>
if b76 = true then (
R.ok (.out (false))) else (
(idxR r3.1 (y36)).bind fun x89 =>
(m_law_deed s75.2 ([] : (List Str)) x89 y73).bind fun r90 =>
(bind2 (ixJ s75.1 (y36)) fun j93 x94 =>
(m_law_done x94 r90.1).bind fun r99 =>
(bind2 (ixJ s24.2.2.1 (y36)) fun j102 x103 =>
(idxR r3.1 (y36)).bind fun x108 =>
(bind2 (ixJ s24.2.2.1 (y36)) fun j109 x110 =>
(if (!(r99.1.is "tuple")) = true then R.ok true else (
(eqA r99.1 (Any.tup [(Any.int ((⟨(x103.length : Int) + 1, x108, (x110.length : Int) + 1, r90.1⟩ : T4 _ _ _ _).a)), (Any.str ((⟨(x103.length : Int) + 1, x108, (x110.length : Int) + 1, r90.1⟩ : T4 _ _ _ _).b)), (Any.int ((⟨(x103.length : Int) + 1, x108, (x110.length : Int) + 1, r90.1⟩ : T4 _ _ _ _).c)), (⟨(x103.length : Int) + 1, x108, (x110.length : Int) + 1, r90.1⟩ : T4 _ _ _ _).d])).bind fun b127 =>
(if (!b127) = true then R.ok true else (
(Any.asTup r99.1).bind fun xs129 =>
(idxR xs129 (0)).bind fun x131 =>
R.ok (x131.is "bool"))).bind fun b128 =>
R.ok (b128))).bind fun b117 =>
if b117 = true then (
R.ok (.out (false))) else (
(bind2 (ixJ s24.2.2.1 (y36)) fun j141 x142 =>
R.need (x142.length < sizeLine) <|
(forF (ρ := Bool) (fun (s149 : (T3 Int Script Int)) (x150 : Int) =>
(bind2 (ixJ (s75.1.set j93 r99.2) (x150)) fun j154 x155 =>
(bind2 (ixJ (s24.2.2.1.set j141 (x142 ++ [(⟨(x103.length : Int) + 1, x108, (x110.length : Int) + 1, r90.1⟩ : T4 _ _ _ _)])) (x150)) fun j160 x161 =>
(m_law_next s149).bind fun r166 =>
(m_law_looked x155 x161 (r166.1 % 2)).bind fun r167 =>
if (!r167) = true then (
R.ok (.out (false))) else (
R.ok (.go (r166.2)))))) ([y36, 1 - y36]) (r90.2)).bind (contF (fun (s149 : (T3 Int Script Int)) =>
(bind2 (ixJ (s75.1.set j93 r99.2) (y36)) fun j169 x170 =>
(m_Ledger_told x170 Any.non).bind fun r177 =>
(bind2 (ixJ (s24.2.2.1.set j141 (x142 ++ [(⟨(x103.length : Int) + 1, x108, (x110.length : Int) + 1, r90.1⟩ : T4 _ _ _ _)])) (y36)) fun j179 x180 =>
R.need (s24.2.2.2.length < sizeLine) <|
(bind2 (ixJ (s75.1.set j93 r99.2) (y36)) fun j188 x189 =>
(m_Ledger_have x189).bind fun r196 =>
(idxR r3.1 (y36)).bind fun x199 =>
(bind2 (ixJ (s24.2.2.1.set j141 (x142 ++ [(⟨(x103.length : Int) + 1, x108, (x110.length : Int) + 1, r90.1⟩ : T4 _ _ _ _)])) (y36)) fun j200 x201 =>
R.need ((s24.2.2.2 ++ [(Hd.ls r177 x180)]).length < sizeLine) <|
R.ok (.go (s149, s75.1.set j93 r99.2, s24.2.2.1.set j141 (x142 ++ [(⟨(x103.length : Int) + 1, x108, (x110.length : Int) + 1, r90.1⟩ : T4 _ _ _ _)]), (s24.2.2.2 ++ [(Hd.ls r177 x180)]) ++ [(Hd.dc r196 (mergeD [] ([(x199, (x201.length : Int))] : (List (Str × Int)))))]))))))) (fun o208 => R.ok (.out o208))))))))))) (cutL v_law_script.ns none (some (30))) (r3.2, y16, y20, ([] : (List Hd)))).bind (contF (fun (s24 : (T3 Int Script Int) × (List Ledger) × (List (List (T4 Int Str Int Any))) × (List Hd)) =>
R.need ((s24.2.2.2).length ≤ sizeLine) <|
(compR (fun (_ : Unit) (x211 : Hd) =>
(sameHd x211).bind fun _ =>
if false = true then (
.bad) else R.ok ((), none)) (s24.2.2.2) ()).bind fun (t221 : Unit × List Str) =>
R.need (Lay.lay (t221.2 : (List Str)) = true) <|
R.need (Lay.lay (([] : (List Str)) : (List Str)) = true) <|
(if (!decide ((t221.2 : (List Str)) = ([] : (List Str)))) = true then R.ok true else (
(bind2 (ixJ s24.2.1 (0)) fun j226 x227 =>
(idxR r3.1 (0)).bind fun x234 =>
R.ok (!decide (x227.hand = x234))))).bind fun b225 =>
if b225 = true then (
R.ok (false)) else (
(idxR r3.1 (0)).bind fun x236 =>
R.need ((x236).length * (9 : Int).toNat ≤ sizeLine ∧ -(2 ^ 62) ≤ (9 : Int) ∧ (9 : Int) < 2 ^ 62) <|
(idxR r3.1 (1)).bind fun x238 =>
R.need ((x238).length + (("1" : Str)).length ≤ sizeLine) <|
(m_law_next s24.1).bind fun r241 =>
(idxR ([(Any.str ("" : Str)), (Any.str (repS x236 (9 : Int).toNat)), (Any.str (x238 ++ ("1" : Str))), (Any.str ("A" : Str)), Any.non, (Any.str ("a b" : Str))]) (r241.1 % 6)).bind fun x242 =>
(m_law_no_hand x242).bind fun r250 =>
R.ok (r250))) (fun o251 => .ok o251))
end Lw
namespace Lw
open PySem L2 Ml
def wsg (c : Nat) : Bool := (97 ≤ c && c ≤ 122) || (48 ≤ c && c ≤ 57)
theorem wsg_lt {c : Nat} (h : wsg c = true) : c < 128 := by
  unfold wsg at h
  simp at h
  omega
theorem alph_wsg : ∀ c, c ∈ ("abcdefghijklmnopqrstuvwxyz0123456789" : Str).cps.toList → wsg c = true := by
  have : ("abcdefghijklmnopqrstuvwxyz0123456789" : Str).cps.toList.all wsg = true := by decide +kernel
  exact fun c hc => List.all_eq_true.mp this c hc
/-- word signs alone -/
def Wsg (x : Str) : Prop := ∀ c, c ∈ x.cps.toList → wsg c = true
theorem Wsg.asc {x : Str} (h : Wsg x) : Asc x := fun c hc => wsg_lt (h c hc)
theorem Wsg.app {a b : Str} (ha : Wsg a) (hb : Wsg b) : Wsg (a ++ b) := fun c hc => by
  rw [tl_app] at hc
  rcases List.mem_append.mp hc with h | h
  · exact ha c h
  · exact hb c h
theorem Wsg.lit {x : Str} (h : x.cps.toList.all wsg = true) : Wsg x := fun c hc => List.all_eq_true.mp h c hc
theorem Wsg.join {ys : List Str} (h : ∀ y, y ∈ ys → Wsg y) : Wsg (Txt.join ("" : Str) ys) := fun c hc => by
  rw [join_nil] at hc
  obtain ⟨l, hl, hc⟩ := List.mem_flatten.mp hc
  obtain ⟨y, hy, rfl⟩ := List.mem_map.mp hl
  exact h y hy c hc
theorem num_wd {i : Int} (h0 : 0 ≤ i) (h1 : i < 1000000) : Wsg (Str.ofString (toString i)) ∧ (Str.ofString (toString i)).length ≤ 6 ∧ 1 ≤ (Str.ofString (toString i)).length := by
  obtain ⟨n, rfl⟩ : ∃ n : Nat, i = (n : Int) := ⟨i.toNat, by omega⟩
  have hd := TL.numL_digits n
  refine ⟨fun c hc => ?_, ?_, ?_⟩
  · rw [tl_num] at hc
    have h2 : 48 ≤ c ∧ c ≤ 57 := hd c hc
    unfold wsg
    simp; omega
  · rw [len_tl, tl_num]
    exact TL.numL_len (n := n) (k := 6) (by decide) (by omega)
  · rw [len_tl, tl_num]
    have := TL.numL_ne n
    cases e : TL.numL n with
    | nil => exact absurd e this
    | cons a l => simp
theorem is_sign_eq (c : Nat) : m_is_sign c = .ok (wsg c) := by
  unfold m_is_sign
  congr 1
  have h1 : (("abcdefghijklmnopqrstuvwxyz" : Str)).cps.toList = (List.range 26).map (97 + ·) := by decide +kernel
  have h2 : (("0123456789" : Str)).cps.toList = (List.range 10).map (48 + ·) := by decide +kernel
  rw [h1, h2]
  unfold wsg
  rw [Bool.eq_iff_iff]
  simp only [Bool.or_eq_true, decide_eq_true_eq, List.mem_map, List.mem_range, Bool.and_eq_true]
  constructor
  · rintro (⟨a, h, rfl⟩ | ⟨a, h, rfl⟩) <;> omega
  · rintro (h | h)
    · exact .inl ⟨c - 97, by omega, by omega⟩
    · exact .inr ⟨c - 48, by omega, by omega⟩
theorem pdA_str (s : Str) : pdA (.str s) = .str s := by rw [pdA]
theorem pdA_int (s : Int) : pdA (.int s) = .int s := by rw [pdA]
theorem plA_str (s : Str) : plA (.str s) = true := by rw [plA] <;> (intro _ h; cases h)
theorem plA_int (s : Int) : plA (.int s) = true := by rw [plA] <;> (intro _ h; cases h)
theorem shaped_str {s : Str} (h : Asc s) : SeqAt.shaped (.str s) = true := by
  have h1 : (PyData.str s).canLay0 = true := h.lay
  unfold SeqAt.shaped
  rw [h1]; rfl
theorem eqA_str {a b : Str} (ha : Asc a) (hb : Asc b) : eqA (.str a) (.str b) = .ok (decide (a = b)) := by
  unfold eqA
  rw [R.need_pos (by rw [plA_str, plA_str, pdA_str, pdA_str]; exact ⟨rfl, rfl, shaped_str ha, shaped_str hb⟩), pdA_str, pdA_str]
  exact congrArg R.ok (str_beq a b)
theorem asc_empty : Asc ("" : Str) := Asc.lit (by decide +kernel)
def isWord (s : Str) : Bool := (decide (1 ≤ s.length) && decide (s.length ≤ 20)) && s.cps.toList.all wsg
theorem isWord_iff {s : Str} : isWord s = true ↔ Wsg s ∧ 1 ≤ s.length ∧ s.length ≤ 20 := by
  unfold isWord
  simp only [Bool.and_eq_true, decide_eq_true_eq, List.all_eq_true]
  exact ⟨fun ⟨⟨a, b⟩, c⟩ => ⟨c, a, b⟩, fun ⟨c, a, b⟩ => ⟨⟨a, b⟩, c⟩⟩
theorem is_word_str {s : Str} (hl : s.length ≤ sizeLine) : m_is_word (.str s) = .ok (isWord s) := by
  unfold m_is_word
  have e1 : (Any.str s).is "str" = true := rfl
  rw [e1]
  have e2 : lenA (.str s) = .ok (s.length : Int) := R.need_pos hl _
  show ((lenA (.str s)).bind _).bind _ = _
  rw [e2, R.bind_ok, R.bind_ok]
  by_cases c : 1 ≤ s.length ∧ s.length ≤ 20
  · have c1 : (decide ((1 : Int) ≤ (s.length : Int)) && decide ((s.length : Int) ≤ 20)) = true := by simp; omega
    rw [c1]
    rw [if_neg (by decide)]
    show (R.need _ _) = _
    rw [R.need_pos (by rw [← len_tl]; exact hl), compR_map (g := wsg) fun x _ => by rw [is_sign_eq]; rfl]
    rw [R.bind_ok]
    congr 1
    unfold isWord
    have c2 : (decide (1 ≤ s.length) && decide (s.length ≤ 20)) = true := by simp; exact c
    rw [c2]
    simp [List.all_map]
  · have c1 : (decide ((1 : Int) ≤ (s.length : Int)) && decide ((s.length : Int) ≤ 20)) = false := by
      rw [Bool.and_eq_false_iff]; simp; omega
    rw [c1]
    have c2 : isWord s = false := by
      unfold isWord
      have : (decide (1 ≤ s.length) && decide (s.length ≤ 20)) = false := by rw [Bool.and_eq_false_iff]; simp; omega
      rw [this]; rfl
    rw [c2]; rfl
theorem is_text_str {s : Str} {n : Int} (hl : s.length ≤ sizeLine) : m_is_text (.str s) n = .ok (decide ((s.length : Int) ≤ n)) := by
  unfold m_is_text
  have e2 : lenA (.str s) = .ok (s.length : Int) := R.need_pos hl _
  have e1 : (Any.str s).is "str" = true := rfl
  rw [e1, if_pos rfl, e2]; rfl
theorem is_day_int {n : Int} : m_is_day (.int n) = .ok (decide (0 ≤ n) && decide (n ≤ 9999)) := by
  unfold m_is_day
  have e1 : (Any.int n).is "int" = true := rfl
  have e2 : (Any.int n).is "bool" = false := rfl
  rw [e1, e2]; rfl
structure GoodL (a b c : Str) (d : Int) (e : Str) : Prop where
  ga : isWord a = true
  gb : b.length ≤ 60
  bn : ¬ 10 ∈ b.cps.toList
  gc : c.length ≤ 400
  d0 : 0 ≤ d
  d1 : d ≤ 9999
  ge : e = ("" : Str) ∨ isWord e = true
theorem e_asc {e : Str} (h : e = ("" : Str) ∨ isWord e = true) : Asc e ∧ e.length ≤ 20 := by
  rcases h with rfl | h
  · exact ⟨asc_empty, by decide⟩
  · exact ⟨(isWord_iff.mp h).1.asc, (isWord_iff.mp h).2.2⟩
theorem Letter_ok {a b c e : Str} {d : Int} (h : GoodL a b c d e) : m_Letter___init__ (.str a) (.str b) (.str c) (.int d) (.str e) = .ok ⟨a, b, c, d, e⟩ := by
  unfold m_Letter___init__
  have ha := isWord_iff.mp h.ga
  have he := e_asc h.ge
  have b60 := h.gb
  have c400 := h.gc
  rw [is_word_str (le_line (by omega)), is_text_str (le_line (by omega)), is_text_str (le_line (by omega)), is_day_int, eqA_str he.1 asc_empty, is_word_str (s := e) (le_line (by omega)), h.ga]
  have e1 : decide ((b.length : Int) ≤ 60) = true := by simp; omega
  have e2 : decide ((c.length : Int) ≤ 400) = true := by simp; omega
  have e3 : (decide (0 ≤ d) && decide (d ≤ 9999)) = true := by simp; exact ⟨h.d0, h.d1⟩
  have e4 : decide (10 ∈ b.cps.toList) = false := by simp only [decide_eq_false_iff_not]; exact h.bn
  rw [e1, e2, e3]
  simp only [R.noexc, R.bind_ok, Any.asStr, Any.asInt, e4]
  simp only [Bool.not_true, Bool.false_eq_true, if_false, R.bind_ok]
  rcases h.ge with rfl | h5
  · simp
  · rw [h5]
    by_cases z : e = ("" : Str) <;> simp [z]
/-- signs that may be printed -/
def Prt (x : Str) : Prop := ∀ c, c ∈ x.cps.toList → 32 ≤ c ∧ c < 127
theorem Prt.asc {x : Str} (h : Prt x) : Asc x := fun c hc => by have := h c hc; omega
theorem Prt.app {a b : Str} (ha : Prt a) (hb : Prt b) : Prt (a ++ b) := fun c hc => by
  rw [tl_app] at hc
  rcases List.mem_append.mp hc with h | h
  · exact ha c h
  · exact hb c h
theorem cutS_len {x : Str} {a b : Option Int} : (cutS x a b).length ≤ x.length := by rw [len_tl, cutS_tl, len_tl]; exact cutL_len
theorem repS_asc {a : Str} {n : Nat} (h : Asc a) : Asc (repS a n) := fun c hc => by
  rw [rep_tl] at hc
  obtain ⟨l, hl, hcl⟩ := List.mem_flatten.mp hc
  rw [List.eq_of_mem_replicate hl] at hcl
  exact h c hcl
theorem nxt {ρ : Type} {P : ρ → Prop} {f : Int × T3 Int Script Int → R ρ} (st : T3 Int Script Int) (k : ∀ x st', 0 ≤ x → Ok (f (x, st')) P) : Ok ((m_law_next st).bind f) P := by
  have h : Ok (m_law_next st) fun r => 0 ≤ r.1 := by
    unfold m_law_next
    refine .bind (Q := fun _ => True) (.ite (fun c => ?_) fun _ => .ret trivial) fun s _ => .lets (.lets (.ret ?_))
    · have c := of_decide_eq_true c
      exact .need c (.idx (Int.emod_nonneg _ (by omega)) (Int.emod_lt_of_pos _ c) fun _ _ _ => .ret trivial)
    · show 0 ≤ _ / 64
      dsimp only
      exact Int.ediv_nonneg (Int.emod_nonneg _ (by decide)) (by decide)
  exact .bind h fun r hr => k r.1 r.2 hr
/-- of these signs alone -/
def Of (S x : Str) : Prop := ∀ c, c ∈ x.cps.toList → c ∈ S.cps.toList
theorem wd {ρ : Type} {P : ρ → Prop} {f : Str × T3 Int Script Int → R ρ} (st : T3 Int Script Int) {S : Str} {n : Int} (h1 : 1 ≤ S.length) (h2 : S.length ≤ 1000) (h3 : 1 ≤ n) (h4 : n ≤ 100)
    (k : ∀ x st', Of S x → 1 ≤ x.length → (x.length : Int) ≤ n → Ok (f (x, st')) P) : Ok ((m_law_word st S n).bind f) P := by
  have h : Ok (m_law_word st S n) fun r => Of S r.1 ∧ 1 ≤ r.1.length ∧ (r.1.length : Int) ≤ n := by
    unfold m_law_word
    refine nxt _ fun x1 s1 hx1 => .need (by omega) (nxt _ fun x2 s2 hx2 => .idx (Int.emod_nonneg _ (by decide)) (Int.emod_lt_of_pos _ (by decide)) fun m hm _ => ?_)
    have em0 := Int.emod_nonneg x1 (show n ≠ 0 by omega)
    have em1 := Int.emod_lt_of_pos x1 (show 0 < n by omega)
    have hm : 1 ≤ m ∧ m ≤ 101 := by
      simp only [List.mem_cons, List.not_mem_nil, or_false] at hm
      rcases hm with rfl | rfl | rfl | rfl
      · omega
      · omega
      · omega
      · omega
    refine .bind (Q := fun m => 1 ≤ m ∧ m ≤ n) (.ite (fun c => .ret ⟨h3, Int.le_refl _⟩) fun c => .ret ⟨hm.1, by simp at c; omega⟩) fun m hm => ?_
    refine .need (by omega) (.need (by rw [rngL_len]; exact le_line (by omega)) ?_)
    obtain ⟨s', ys, e, _, hl, hy⟩ := compR_keep (xs := rngL 0 m.toNat) (s := s2) (f := fun (s9 : T3 Int Script Int) (x10 : Int) =>
      (m_law_next s9).bind fun r13 =>
      R.need ((S).length ≤ sizeLine) <|
      R.need (0 < ((S).length : Int)) <|
      R.need ((S).length ≤ sizeLine) <|
      (idxR (S).cps.toList (r13.1 % ((S).length : Int))).bind fun c17 =>
      R.ok (r13.2, some (sg (c17)))) (fun _ => True) (fun y => ∃ c, c ∈ S.cps.toList ∧ y = sg c) trivial fun s x _ _ => by
        have : Ok ((m_law_next s).bind fun r13 =>
          R.need ((S).length ≤ sizeLine) <|
          R.need (0 < ((S).length : Int)) <|
          R.need ((S).length ≤ sizeLine) <|
          (idxR (S).cps.toList (r13.1 % ((S).length : Int))).bind fun c17 =>
          R.ok (r13.2, some (sg (c17)))) (fun r => ∃ s' c, c ∈ S.cps.toList ∧ r = (s', some (sg c))) := by
          refine nxt _ fun x3 s3 _ => .need (le_line (by omega)) (.need (by omega) (.need (le_line (by omega)) (.idx (Int.emod_nonneg _ (by omega)) (by rw [← len_tl]; exact Int.emod_lt_of_pos _ (by omega)) fun c hc _ => .ret ⟨s3, c, hc, rfl⟩)))
        obtain ⟨r, e, s', c, hc, rfl⟩ := this
        exact ⟨s', sg c, e, trivial, c, hc, rfl⟩
    refine .bindE e ?_
    rw [rngL_len] at hl
    have h1s : (ys.map (·.length)).sum = ys.length := by
      clear hl e
      induction ys with
      | nil => rfl
      | cons x xs ih =>
        obtain ⟨c, _, e⟩ := hy x (by simp)
        rw [List.map_cons, List.sum_cons, ih fun z m => hy z (by simp [m]), e, len_sg, List.length_cons]; omega
    have e0 : ("" : Str).length = 0 := by decide
    dsimp only
    refine .need (by rw [e0, h1s]; omega) (.ret ⟨fun c hc => ?_, ?_, ?_⟩)
    · rw [join_nil] at hc
      obtain ⟨l, hl, hc⟩ := List.mem_flatten.mp hc
      obtain ⟨y, hy2, rfl⟩ := List.mem_map.mp hl
      obtain ⟨d, hd, rfl⟩ := hy y hy2
      have : c = d := by simpa [Ml.sg] using hc
      rw [this]; exact hd
    · rw [len_join_nil, h1s, hl]; omega
    · rw [len_join_nil, h1s, hl]; omega
  exact .bind h fun r hr => k r.1 r.2 hr.1 hr.2.1 hr.2.2
theorem alnum_of {x : Str} (h : Of ("abcdefghijklmnopqrstuvwxyz0123456789" : Str) x) : Wsg x := fun c hc => alph_wsg c (h c hc)
theorem awd {ρ : Type} {P : ρ → Prop} {f : Str × T3 Int Script Int → R ρ} (st : T3 Int Script Int) (k : ∀ x st', isWord x = true → Ok (f (x, st')) P) : Ok ((m_law_any_word st).bind f) P := by
  have h : Ok (m_law_any_word st) fun r => isWord r.1 = true := by
    unfold m_law_any_word
    exact wd st (by decide +kernel) (by decide +kernel) (by decide) (by decide) fun x st' h1 h2 h3 => .ret (isWord_iff.mpr ⟨alnum_of h1, h2, by show x.length ≤ 20; omega⟩)
  exact .bind h fun r hr => k r.1 r.2 hr
theorem isw_no {x : Any} (h : x.is "str" = false) : m_is_word x = .ok false := by
  unfold m_is_word
  rw [h]; rfl
theorem eqA_texts {x : Any} {s : Str} (hp : plA x = true) (hx : SeqAt.shaped (pdA x) = true) (hs : Asc s) (hn : ∀ t, x ≠ .str t) : eqA x (.str s) = .ok false := by
  unfold eqA
  rw [R.need_pos (by rw [plA_str, pdA_str]; exact ⟨hp, rfl, hx, shaped_str hs⟩), pdA_str]
  congr 1
  cases x with
  | str t => exact absurd rfl (hn t)
  | int t => rw [pdA_int]; rfl
  | bl t => rw [pdA]; rfl
  | non => rw [pdA]; rfl
  | tup t => rw [pdA]; rfl
  | lst t => rw [pdA]; rfl
  | oth t => rw [pdA]; rfl
/-- no word; and whether it is the text without signs is told -/
def NoW (x : Any) : Prop := m_is_word x = .ok false ∧ ∃ b, eqA x (.str ("" : Str)) = .ok b ∧ (b = true → x = .str ("" : Str))
theorem noW_str {s : Str} (ha : Asc s) (hl : s.length ≤ 10000) (h : isWord s = false) : NoW (.str s) :=
  ⟨by rw [is_word_str (le_line (by omega)), h], _, eqA_str ha asc_empty, fun z => by rw [of_decide_eq_true z]⟩
theorem noW_odd {x : Any} (h : x.is "str" = false) (hp : plA x = true) (hx : SeqAt.shaped (pdA x) = true) : NoW x :=
  ⟨isw_no h, _, eqA_texts hp hx asc_empty (fun t e => by subst e; cases h), fun z => absurd z Bool.false_ne_true⟩
theorem isWord_long {s : Str} (h : 20 < s.length) : isWord s = false := by
  rw [Bool.eq_false_iff]
  intro z
  have := (isWord_iff.mp z).2.2
  omega
theorem isWord_sign {s : Str} {c : Nat} (hc : c ∈ s.cps.toList) (h : wsg c = false) : isWord s = false := by
  rw [Bool.eq_false_iff]
  intro z
  have := (isWord_iff.mp z).1 c hc
  rw [h] at this; cases this
theorem list_str_ok {w : Str} (h : Asc w) : plA (Any.lst ([w].map Any.str)) = true ∧ SeqAt.shaped (pdA (Any.lst ([w].map Any.str))) = true := by
  have e1 : [w].map Any.str = [Any.str w] := rfl
  rw [e1]
  refine ⟨by rw [plA, plAL, plAL, plA_str]; rfl, ?_⟩
  rw [pdA, pdAL, pdAL, pdA_str]
  have hl : (PyData.list [.str w]).canLay0 = true := by
    have q1 : (PyData.str w).canLay0 = true := h.lay
    simp only [PyData.canLay0, PyData.canLayAll0] at q1 ⊢
    simp only [q1, Bool.and_self]
  unfold SeqAt.shaped
  rw [hl]; rfl
theorem nowd {ρ : Type} {P : ρ → Prop} {f : Any × T3 Int Script Int → R ρ} (st : T3 Int Script Int) (k : ∀ x st', NoW x → Ok (f (x, st')) P) : Ok ((m_law_no_word st).bind f) P := by
  have h : Ok (m_law_no_word st) fun r => NoW r.1 := by
    unfold m_law_no_word
    refine awd st fun w s1 hw => nxt _ fun x2 s2 hx2 => ?_
    obtain ⟨g1, g2, g3⟩ := isWord_iff.mp hw
    dsimp only
    refine .need (le_line (by omega)) (.need (by omega) (.lets ?_))
    have y0 := Int.emod_nonneg x2 (show ((w.length : Int) + 1) ≠ 0 by omega)
    generalize x2 % ((w.length : Int) + 1) = y at *
    have lA : ("A" : Str).length = 1 := by decide
    have lB : ("-" : Str).length = 1 := by decide
    have c1 : (cutS w none (some y)).length ≤ w.length := cutS_len
    have c2 : (cutS w (some y) (some 19)).length ≤ w.length := cutS_len
    refine .need (le_line (by omega)) (.need (le_line (by omega)) (.need (le_line (by omega)) (.need (le_line (by rw [len_app]; omega)) (.need (le_line (by omega)) (.need (le_line (by omega)) (.need (le_line (by omega)) (.need (le_line (by rw [len_app]; omega)) ?_)))))))
    refine .need ⟨le_line (show w.length * 21 ≤ _ by omega), by decide, by decide⟩ (.lets (nxt _ fun x3 s3 _ => .idx (Int.emod_nonneg _ (by decide)) (Int.emod_lt_of_pos _ (by decide)) fun x hx _ => .ret ?_))
    have wa := g1.asc
    have aA : Asc ("A" : Str) := Asc.lit (by decide +kernel)
    have aB : Asc ("-" : Str) := Asc.lit (by decide +kernel)
    simp only [List.mem_cons, List.not_mem_nil, or_false] at hx
    rcases hx with rfl | rfl | rfl | rfl | rfl | rfl | rfl
    · exact noW_str asc_empty (by decide) (by decide +kernel)
    · exact noW_str (((cutS_asc wa).app aA).app (cutS_asc wa)) (by rw [len_app, len_app]; omega) (isWord_sign (c := 65) (by rw [tl_app, tl_app]; exact List.mem_append_left _ (List.mem_append_right _ (by decide +kernel))) (by decide))
    · exact noW_str (((cutS_asc wa).app aB).app (cutS_asc wa)) (by rw [len_app, len_app]; omega) (isWord_sign (c := 45) (by rw [tl_app, tl_app]; exact List.mem_append_left _ (List.mem_append_right _ (by decide +kernel))) (by decide))
    · have hl : (repS w (21 : Int).toNat).length = w.length * 21 := rep_len w 21
      refine noW_str (fun c hc => ?_) (by omega) (isWord_long (by omega))
      rw [rep_tl] at hc
      obtain ⟨l, hl, hcl⟩ := List.mem_flatten.mp hc
      rw [List.eq_of_mem_replicate hl] at hcl
      exact wa c hcl
    · exact noW_odd rfl (by rw [plA] <;> (intro _ h; cases h)) (by rw [pdA]; rfl)
    · exact noW_odd rfl (plA_int 7) (by rw [pdA_int]; rfl)
    · exact noW_odd rfl (list_str_ok wa).1 (list_str_ok wa).2
  exact .bind h fun r hr => k r.1 r.2 hr
theorem eqA_lit {k s : Str} (hk : Asc k) (hs : Asc s) : eqA (.str k) (.str s) = .ok (decide (k = s)) := eqA_str hk hs
theorem kinds : Asc ("drop" : Str) ∧ Asc ("put" : Str) ∧ Asc ("place" : Str) ∧ Asc ("mark" : Str) := ⟨Asc.lit (by decide +kernel), Asc.lit (by decide +kernel), Asc.lit (by decide +kernel), Asc.lit (by decide +kernel)⟩
theorem deed_first {x : Any} {xs : List Any} (h : x.is "str" = false) : m_is_deed (.tup (x :: xs)) = .ok false := by
  unfold m_is_deed
  have e1 : (Any.tup (x :: xs)).is "tuple" = true := rfl
  have e2 : lenA (.tup (x :: xs)) = .ok ((x :: xs).length : Int) := rfl
  have e3 : Any.asTup (.tup (x :: xs)) = .ok (x :: xs) := rfl
  have i0 : idxR (x :: xs) 0 = .ok x := idxR_ok (by decide) rfl
  rw [e1, e2, e3, R.bind_ok, R.bind_ok, i0, R.bind_ok, h]
  by_cases c : (((x :: xs).length : Nat) : Int) < 2
  · rw [decide_eq_true c]; rfl
  · rw [decide_eq_false c]; rfl
theorem deed_word {k : Str} {n : Any} {rest : List Any} (hn : m_is_word n = .ok false) : m_is_deed (.tup (.str k :: n :: rest)) = .ok false := by
  unfold m_is_deed
  have e1 : (Any.tup (.str k :: n :: rest)).is "tuple" = true := rfl
  have e2 : lenA (.tup (.str k :: n :: rest)) = .ok ((Any.str k :: n :: rest).length : Int) := rfl
  have e3 : Any.asTup (.tup (.str k :: n :: rest)) = .ok (.str k :: n :: rest) := rfl
  have i0 : idxR (Any.str k :: n :: rest) 0 = .ok (.str k) := idxR_ok (by decide) rfl
  have i1 : idxR (Any.str k :: n :: rest) 1 = .ok n := idxR_ok (by decide) rfl
  have c : ¬ (((Any.str k :: n :: rest).length : Nat) : Int) < 2 := by simp only [List.length_cons]; omega
  have e4 : (Any.str k).is "str" = true := rfl
  rw [e1, e2, e3, R.bind_ok, R.bind_ok, i0, R.bind_ok, R.bind_ok, i1, R.bind_ok, hn, decide_eq_false c, e4]
  rfl
theorem deed_eval {k : Str} {n : Any} {rest : List Any} (hk : Asc k) (hn : m_is_word n = .ok true) : m_is_deed (.tup (.str k :: n :: rest)) =
    if k = ("drop" : Str) then .ok (decide (((rest.length + 2 : Nat) : Int) = 2)) else
    if k = ("put" : Str) then (if decide (((rest.length + 2 : Nat) : Int) = 3) = true then (idxR (Any.str k :: n :: rest) 2).bind fun x => m_is_parts x else .ok false) else
    if k = ("place" : Str) then (if decide (((rest.length + 2 : Nat) : Int) = 3) = true then (idxR (Any.str k :: n :: rest) 2).bind fun x => m_is_word x else .ok false) else
    if k = ("mark" : Str) then (if decide (((rest.length + 2 : Nat) : Int) = 4) = true then (idxR (Any.str k :: n :: rest) 2).bind fun x => (m_is_word x).bind fun b => if b = true then (idxR (Any.str k :: n :: rest) 3).bind fun y => .ok (y.is "bool") else .ok false else .ok false) else .ok false := by
  unfold m_is_deed
  have e1 : (Any.tup (.str k :: n :: rest)).is "tuple" = true := rfl
  have e2 : lenA (.tup (.str k :: n :: rest)) = .ok ((rest.length + 2 : Nat) : Int) := rfl
  have e3 : Any.asTup (.tup (.str k :: n :: rest)) = .ok (.str k :: n :: rest) := rfl
  have i0 : idxR (Any.str k :: n :: rest) 0 = .ok (.str k) := idxR_ok (by decide) rfl
  have i1 : idxR (Any.str k :: n :: rest) 1 = .ok n := idxR_ok (by decide) rfl
  have c : ¬ (((rest.length + 2 : Nat) : Int)) < 2 := by omega
  have e4 : (Any.str k).is "str" = true := rfl
  obtain ⟨k1, k2, k3, k4⟩ := kinds
  have rb : ∀ {α : Type} (m : R α), (m.bind fun r => R.ok r) = m := fun m => by cases m <;> rfl
  rw [e1, e2, e3]
  simp only [R.bind_ok, i0, i1, hn, c, e4, eqA_lit hk k1, eqA_lit hk k2, eqA_lit hk k3, eqA_lit hk k4, Bool.not_true, Bool.false_eq_true, if_false, decide_eq_true_eq, rb]
theorem lits4 : (¬ ("put" : Str) = ("drop" : Str)) ∧ (¬ ("place" : Str) = ("drop" : Str)) ∧ (¬ ("place" : Str) = ("put" : Str)) ∧ (¬ ("mark" : Str) = ("drop" : Str)) ∧ (¬ ("mark" : Str) = ("put" : Str)) ∧ (¬ ("mark" : Str) = ("place" : Str)) := by decide +kernel
theorem deed_drop {n : Any} {rest : List Any} (hn : m_is_word n = .ok true) : m_is_deed (.tup (.str ("drop" : Str) :: n :: rest)) = .ok (decide (rest.length = 0)) := by
  rw [deed_eval kinds.1 hn, if_pos rfl]
  congr 1
  rw [decide_eq_decide]; omega
theorem deed_put1 {n p : Any} {b : Bool} (hn : m_is_word n = .ok true) (hp : m_is_parts p = .ok b) : m_is_deed (.tup [.str ("put" : Str), n, p]) = .ok b := by
  rw [deed_eval kinds.2.1 hn, if_neg lits4.1, if_pos rfl]
  show m_is_parts p = _
  exact hp
theorem deed_place1 {n p : Any} {b : Bool} (hn : m_is_word n = .ok true) (hp : m_is_word p = .ok b) : m_is_deed (.tup [.str ("place" : Str), n, p]) = .ok b := by
  rw [deed_eval kinds.2.2.1 hn, if_neg lits4.2.1, if_neg lits4.2.2.1, if_pos rfl]
  show m_is_word p = _
  exact hp
theorem deed_placeN {n : Any} {rest : List Any} (hn : m_is_word n = .ok true) (h : rest.length ≠ 1) : m_is_deed (.tup (.str ("place" : Str) :: n :: rest)) = .ok false := by
  rw [deed_eval kinds.2.2.1 hn, if_neg lits4.2.1, if_neg lits4.2.2.1, if_pos rfl, if_neg (by rw [decide_eq_true_iff]; omega)]
theorem deed_mark1 {n p y : Any} {b : Bool} (hn : m_is_word n = .ok true) (hp : m_is_word p = .ok b) : m_is_deed (.tup [.str ("mark" : Str), n, p, y]) = .ok (b && y.is "bool") := by
  rw [deed_eval kinds.2.2.2 hn, if_neg lits4.2.2.2.1, if_neg lits4.2.2.2.2.1, if_neg lits4.2.2.2.2.2, if_pos rfl]
  show R.bind (m_is_word p) _ = _
  rw [hp, R.bind_ok]
  cases b <;> rfl
theorem deed_else {k : Str} {n : Any} {rest : List Any} (hk : Asc k) (hn : m_is_word n = .ok true) (h : ¬ k = ("drop" : Str) ∧ ¬ k = ("put" : Str) ∧ ¬ k = ("place" : Str) ∧ ¬ k = ("mark" : Str)) : m_is_deed (.tup (.str k :: n :: rest)) = .ok false := by
  rw [deed_eval hk hn, if_neg h.1, if_neg h.2.1, if_neg h.2.2.1, if_neg h.2.2.2]
theorem word_true {s : Str} (h : isWord s = true) : m_is_word (.str s) = .ok true := by
  have := (isWord_iff.mp h).2.2
  rw [is_word_str (le_line (by omega)), h]
/-- parts of a letter, or not -/
theorem parts_good {a b c e : Str} {d : Int} (G : GoodL a b c d e) : m_is_parts (.tup [.str a, .str b, .str c, .int d, .str e]) = .ok true := by
  unfold m_is_parts
  have : m_letter_of (.tup [.str a, .str b, .str c, .int d, .str e]) = .ok ⟨a, b, c, d, e⟩ := by
    unfold m_letter_of
    show (m_Letter___init__ (.str a) (.str b) (.str c) (.int d) (.str e)).bind _ = _
    rw [Letter_ok G]; rfl
  rw [this]; rfl
theorem parts_exc {x : Any} (h : m_letter_of x = .exc ⟨2, 0⟩) : m_is_parts x = .ok false := by
  unfold m_is_parts
  rw [h]; rfl
theorem parts_no {x : Any} (h : x.is "tuple" = false) : m_is_parts x = .ok false := parts_exc (by unfold m_letter_of; rw [h]; rfl)
theorem parts_len {xs : List Any} (h : xs.length ≠ 5) : m_is_parts (.tup xs) = .ok false := parts_exc (by
  unfold m_letter_of
  have e1 : (Any.tup xs).is "tuple" = true := rfl
  have e2 : lenA (.tup xs) = .ok (xs.length : Int) := rfl
  have e3 : decide ((xs.length : Int) = 5) = false := decide_eq_false (by omega)
  rw [e1, e2]
  show (if (!decide ((xs.length : Int) = 5)) = true then _ else _) = _
  rw [e3]; rfl)
theorem parts_init {x1 x2 x3 x4 x5 : Any} (h : m_Letter___init__ x1 x2 x3 x4 x5 = .exc ⟨2, 0⟩) : m_is_parts (.tup [x1, x2, x3, x4, x5]) = .ok false := parts_exc (by
  unfold m_letter_of
  show (m_Letter___init__ x1 x2 x3 x4 x5).bind _ = _
  rw [h]; rfl)
/-- a letter's parts, one put otherwise, are none -/
theorem init_sender {a b c d e : Any} (h : m_is_word a = .ok false) : m_Letter___init__ a b c d e = .exc ⟨2, 0⟩ := by
  unfold m_Letter___init__
  rw [h]; rfl
theorem init_title {a b : Str} {c d e : Any} (ha : isWord a = true) (hb : 60 < b.length) (hl : b.length ≤ 10000) : m_Letter___init__ (.str a) (.str b) c d e = .exc ⟨2, 0⟩ := by
  unfold m_Letter___init__
  rw [word_true ha, is_text_str (le_line (by omega)), decide_eq_false (show ¬ (b.length : Int) ≤ 60 by omega)]; rfl
theorem init_body {a b c : Str} {d e : Any} (ha : isWord a = true) (hb : b.length ≤ 60) (hn : ¬ 10 ∈ b.cps.toList) (hc : 400 < c.length) (hl : c.length ≤ 10000) : m_Letter___init__ (.str a) (.str b) (.str c) d e = .exc ⟨2, 0⟩ := by
  unfold m_Letter___init__
  rw [word_true ha, is_text_str (le_line (by omega)), is_text_str (le_line (by omega)), decide_eq_true (show (b.length : Int) ≤ 60 by omega), decide_eq_false (show ¬ (c.length : Int) ≤ 400 by omega)]
  simp only [R.noexc, R.bind_ok, Any.asStr, Bool.not_true, Bool.false_eq_true, if_false, decide_eq_false hn, Bool.not_false, if_true]
theorem init_day {a b c : Str} {d : Int} {e : Any} (ha : isWord a = true) (hb : b.length ≤ 60) (hn : ¬ 10 ∈ b.cps.toList) (hc : c.length ≤ 400) (hd : 9999 < d) : m_Letter___init__ (.str a) (.str b) (.str c) (.int d) e = .exc ⟨2, 0⟩ := by
  unfold m_Letter___init__
  have h1 : (decide (0 ≤ d) && decide (d ≤ 9999)) = false := by rw [Bool.and_eq_false_iff]; simp; omega
  rw [word_true ha, is_text_str (le_line (by omega)), is_text_str (le_line (by omega)), is_day_int, h1, decide_eq_true (show (b.length : Int) ≤ 60 by omega), decide_eq_true (show (c.length : Int) ≤ 400 by omega)]
  simp only [R.noexc, R.bind_ok, Any.asStr, Bool.not_true, Bool.false_eq_true, if_false, decide_eq_false hn, Bool.not_false, if_true]
theorem init_answers {a b c : Str} {d : Int} {e : Any} {z : Bool} (ha : isWord a = true) (hb : b.length ≤ 60) (hn : ¬ 10 ∈ b.cps.toList) (hc : c.length ≤ 400) (h0 : 0 ≤ d) (hd : d ≤ 9999) (he : eqA e (.str ("" : Str)) = .ok false) (hw : m_is_word e = .ok false) : m_Letter___init__ (.str a) (.str b) (.str c) (.int d) e = .exc ⟨2, 0⟩ := by
  unfold m_Letter___init__
  have h1 : (decide (0 ≤ d) && decide (d ≤ 9999)) = true := by simp; omega
  rw [word_true ha, is_text_str (le_line (by omega)), is_text_str (le_line (by omega)), is_day_int, h1, he, hw, decide_eq_true (show (b.length : Int) ≤ 60 by omega), decide_eq_true (show (c.length : Int) ≤ 400 by omega)]
  simp only [R.noexc, R.bind_ok, Any.asStr, Bool.not_true, Bool.false_eq_true, if_false, decide_eq_false hn, Bool.not_false, if_true]
/-- no word, nor the text without signs -/
def NoE (x : Any) : Prop := m_is_word x = .ok false ∧ eqA x (.str ("" : Str)) = .ok false
theorem noE_bar : NoE (.str ("-" : Str)) := ⟨by rw [is_word_str (by decide)]; decide +kernel, by rw [eqA_str (Asc.lit (by decide +kernel)) asc_empty]; decide +kernel⟩
theorem noparts {ρ : Type} {P : ρ → Prop} {f : Any × T3 Int Script Int → R ρ} (st : T3 Int Script Int) {a b c e : Str} {d : Int} (G : GoodL a b c d e) (k : ∀ x st', m_is_parts x = .ok false → Ok (f (x, st')) P) :
    Ok ((m_law_no_parts st (.tup [.str a, .str b, .str c, .int d, .str e])).bind f) P := by
  have h : Ok (m_law_no_parts st (.tup [.str a, .str b, .str c, .int d, .str e])) fun r => m_is_parts r.1 = .ok false := by
    unfold m_law_no_parts
    refine nxt _ fun x1 s1 hx1 => .lets (nowd _ fun o1 s2 ho1 => .need ⟨by decide +kernel, by decide, by decide⟩ (.need ⟨by decide +kernel, by decide, by decide⟩ (nowd _ fun o2 s3 ho2 => ?_)))
    have y0 := Int.emod_nonneg x1 (show (5 : Int) ≠ 0 by decide)
    have y1 := Int.emod_lt_of_pos x1 (show (0 : Int) < 5 by decide)
    dsimp only
    generalize x1 % 5 = y at *
    have lt : (repS ("t" : Str) (61 : Int).toNat).length = 61 := by rw [rep_len]; decide +kernel
    have lb : (repS ("b" : Str) (401 : Int).toNat).length = 401 := by rw [rep_len]; decide +kernel
    have at_ : Asc (repS ("t" : Str) (61 : Int).toNat) := repS_asc (Asc.lit (by decide +kernel))
    have ab_ : Asc (repS ("b" : Str) (401 : Int).toNat) := repS_asc (Asc.lit (by decide +kernel))
    refine .idx y0 (by show y < 5; omega) fun x hm hg => ?_
    have hy : y = 0 ∨ y = 1 ∨ y = 2 ∨ y = 3 ∨ y = 4 := by omega
    have hx : ∃ bb, eqA x (.str ("" : Str)) = .ok bb ∧ (bb = true → x = .str ("" : Str)) ∧ (y = 0 → m_is_word x = .ok false) ∧ (y = 1 → x = .str (repS ("t" : Str) (61 : Int).toNat)) ∧ (y = 2 → x = .str (repS ("b" : Str) (401 : Int).toNat)) ∧ (y = 3 → x = .int 10000) ∧ (y = 4 → m_is_word x = .ok false) := by
      rcases hy with rfl | rfl | rfl | rfl | rfl
      · have e : o1 = x := by injection hg
        subst e
        obtain ⟨bb, h1, h2⟩ := ho1.2
        exact ⟨bb, h1, h2, fun _ => ho1.1, fun z => by omega, fun z => by omega, fun z => by omega, fun z => by omega⟩
      · have e : Any.str (repS ("t" : Str) (61 : Int).toNat) = x := by injection hg
        subst e
        exact ⟨_, eqA_str at_ asc_empty, fun z => by rw [of_decide_eq_true z], fun z => by omega, fun _ => rfl, fun z => by omega, fun z => by omega, fun z => by omega⟩
      · have e : Any.str (repS ("b" : Str) (401 : Int).toNat) = x := by injection hg
        subst e
        exact ⟨_, eqA_str ab_ asc_empty, fun z => by rw [of_decide_eq_true z], fun z => by omega, fun z => by omega, fun _ => rfl, fun z => by omega, fun z => by omega⟩
      · have e : Any.int 10000 = x := by injection hg
        subst e
        exact ⟨false, eqA_texts (plA_int _) (by rw [pdA_int]; rfl) asc_empty (fun t z => by cases z), fun z => absurd z Bool.false_ne_true, fun z => by omega, fun z => by omega, fun z => by omega, fun _ => rfl, fun z => by omega⟩
      · have e : o2 = x := by injection hg
        subst e
        obtain ⟨bb, h1, h2⟩ := ho2.2
        exact ⟨bb, h1, h2, fun z => by omega, fun z => by omega, fun z => by omega, fun z => by omega, fun _ => ho2.1⟩
    obtain ⟨bb, e1, e2, f0, f1, f2, f3, f4⟩ := hx
    have l0 : ("" : Str).length = 0 := by decide
    refine .bindE e1 (.bind (Q := fun s => (y = 0 → m_is_word s = .ok false) ∧ (y = 1 → s = .str (repS ("t" : Str) (61 : Int).toNat)) ∧ (y = 2 → s = .str (repS ("b" : Str) (401 : Int).toNat)) ∧ (y = 3 → s = .int 10000) ∧ (y = 4 → NoE s)) (.ite (fun z => .ret ?_) fun z => .ret ?_) fun s hs => ?_)
    · have ex := e2 z
      refine ⟨fun _ => noE_bar.1, fun q => ?_, fun q => ?_, fun q => ?_, fun _ => noE_bar⟩
      · have := f1 q
        rw [ex] at this
        injection this with this
        rw [← this] at lt; omega
      · have := f2 q
        rw [ex] at this
        injection this with this
        rw [← this] at lb; omega
      · have := f3 q
        rw [ex] at this; cases this
    · have : bb = false := by simpa using z
      exact ⟨f0, f1, f2, f3, fun q => ⟨f4 q, by rw [e1, this]⟩⟩
    obtain ⟨g0, g1, g2, g3, g4⟩ := hs
    have cl : ∀ (u v : Option Int), (cutL ([.str a, .str b, .str c, .int d, .str e] : List Any) u v).length ≤ 5 := fun u v => cutL_len
    refine .bindE rfl (.need (fun z => ?_) (.bindE rfl (.need (le_line (by have := cl none (some y); simp only [List.length_cons, List.length_nil]; omega)) (.bindE rfl (.need (fun z => ?_) (.bindE rfl (.bindE rfl (.need (le_line (by have := cl none (some y); have := cl (some (y + 1)) none; simp only [List.length_append, List.length_cons, List.length_nil]; omega)) (.bindE rfl (.bindE rfl (.need (le_line (by show 5 + 1 ≤ _; decide)) (.bindE rfl (.need (by show ¬ (HT.sIx 5 0 none = 0 ∧ HT.sIx 5 5 (some 4) = 5); decide) (.lets (nxt _ fun x2 s4 hx2 => ?_)))))))))))))))
    · have z2 := z.2
      rw [sIx_nn y0] at z2
      simp only [List.length_cons, List.length_nil] at z2
      omega
    · have z1 := z.1
      rw [sIx_nn (by omega)] at z1
      simp only [List.length_cons, List.length_nil] at z1
      omega
    refine .idx (Int.emod_nonneg _ (by decide)) (Int.emod_lt_of_pos _ (by decide)) fun x hm2 _ => .ret ?_
    simp only [List.mem_cons, List.not_mem_nil, or_false] at hm2
    rcases hm2 with rfl | rfl | rfl | rfl | rfl | rfl
    · rcases hy with rfl | rfl | rfl | rfl | rfl
      · exact parts_init (init_sender (g0 rfl))
      · rw [g1 rfl]
        exact parts_init (init_title G.ga (by rw [lt]; decide) (by rw [lt]; decide))
      · rw [g2 rfl]
        exact parts_init (init_body G.ga G.gb G.bn (by rw [lb]; decide) (by rw [lb]; decide))
      · rw [g3 rfl]
        exact parts_init (init_day G.ga G.gb G.bn G.gc (by decide))
      · exact parts_init (init_answers (z := true) G.ga G.gb G.bn G.gc G.d0 G.d1 (g4 rfl).2 (g4 rfl).1)
    · exact parts_no rfl
    · exact parts_len (by show 6 ≠ 5; decide)
    · exact parts_len (by show 4 ≠ 5; decide)
    · exact parts_no rfl
    · exact parts_init (init_sender (by rw [is_word_str (by decide)]; decide +kernel))
  exact .bind h fun r hr => k r.1 r.2 hr
inductive Good : Any → Prop
  | put (n : Str) {a b c e : Str} {d : Int} : isWord n = true → GoodL a b c d e → Asc b → Asc c → Good (.tup [.str ("put" : Str), .str n, .tup [.str a, .str b, .str c, .int d, .str e]])
  | place (n w : Str) : isWord n = true → isWord w = true → Good (.tup [.str ("place" : Str), .str n, .str w])
  | mark (n w : Str) (z : Bool) : isWord n = true → isWord w = true → Good (.tup [.str ("mark" : Str), .str n, .str w, .bl z])
  | drop (n : Str) : isWord n = true → Good (.tup [.str ("drop" : Str), .str n])
theorem Good.deed {x : Any} (h : Good x) : m_is_deed x = .ok true := by
  cases h with
  | put n hn G _ _ => exact deed_put1 (word_true hn) (parts_good G)
  | place n w hn hw => exact deed_place1 (word_true hn) (word_true hw)
  | mark n w z hn hw => rw [deed_mark1 (word_true hn) (word_true hw)]; rfl
  | drop n hn => rw [deed_drop (word_true hn)]; rfl
theorem signsT : ∀ c, c ∈ (" abcXYZ019!-.,;:'~" : Str).cps.toList → c < 128 ∧ c ≠ 10 := by
  have : ((" abcXYZ019!-.,;:'~" : Str).cps.toList.all fun c => decide (c < 128 ∧ c ≠ 10)) = true := by decide +kernel
  exact fun c hc => of_decide_eq_true (List.all_eq_true.mp this c hc)
theorem signsB : ∀ c, c ∈ ((" abcXYZ019!-.,;:'~" : Str) ++ ("\n" : Str)).cps.toList → c < 128 := by
  have : (((" abcXYZ019!-.,;:'~" : Str) ++ ("\n" : Str)).cps.toList.all fun c => decide (c < 128)) = true := by decide +kernel
  exact fun c hc => of_decide_eq_true (List.all_eq_true.mp this c hc)
theorem prts {ρ : Type} {P : ρ → Prop} {f : T5 Str Str Str Int Str × T3 Int Script Int → R ρ} (st : T3 Int Script Int) (k : ∀ p st', GoodL p.a p.b p.c p.d p.e → Asc p.b → Asc p.c → Ok (f (p, st')) P) : Ok ((m_law_parts st).bind f) P := by
  have h : Ok (m_law_parts st) fun r => GoodL r.1.a r.1.b r.1.c r.1.d r.1.e ∧ Asc r.1.b ∧ Asc r.1.c := by
    unfold m_law_parts
    refine wd st (by decide +kernel) (by decide +kernel) (by decide) (by decide) fun t s1 h1 h2 h3 => .need (by decide +kernel) (wd _ (by decide +kernel) (by decide +kernel) (by decide) (by decide) fun b s2 g1 g2 g3 => awd _ fun w s3 hw => nxt _ fun x1 s4 hx1 => ?_)
    dsimp only
    refine .idx (Int.emod_nonneg _ (by decide)) (Int.emod_lt_of_pos _ (by decide)) fun e he _ => nxt _ fun x2 s5 hx2 => nxt _ fun x3 s6 hx3 => .idx (Int.emod_nonneg _ (by decide)) (Int.emod_lt_of_pos _ (by decide)) fun d hd _ => awd _ fun v s7 hv => .ret ⟨⟨hv, ?_, ?_, ?_, ?_, ?_, ?_⟩, ?_, ?_⟩
    · show t.length ≤ 60; omega
    · exact fun m => (signsT 10 (h1 10 m)).2 rfl
    · show b.length ≤ 400; omega
    · simp at hd; show 0 ≤ d; omega
    · simp at hd; show d ≤ 9999; omega
    · simp only [List.mem_cons, List.not_mem_nil, or_false] at he
      rcases he with rfl | rfl
      · exact .inl rfl
      · exact .inr hw
    · exact fun c hc => (signsT c (h1 c hc)).1
    · exact fun c hc => signsB c (g1 c hc)
  exact .bind h fun r hr => k r.1 r.2 hr.1 hr.2.1 hr.2.2
/-- a hand -/
def HandT (x : Str) : Prop := Of ("abcdefghijklmnopqrstuvwxyz" : Str) x ∧ 1 ≤ x.length ∧ x.length ≤ 8
theorem small_wsg : ∀ c, c ∈ ("abcdefghijklmnopqrstuvwxyz" : Str).cps.toList → wsg c = true := by
  have : ("abcdefghijklmnopqrstuvwxyz" : Str).cps.toList.all wsg = true := by decide +kernel
  exact fun c hc => List.all_eq_true.mp this c hc
theorem HandT.wsg {x : Str} (h : HandT x) : Wsg x := fun c hc => small_wsg c (h.1 c hc)
theorem deeds {ρ : Type} {P : ρ → Prop} {f : Any × T3 Int Script Int → R ρ} (st : T3 Int Script Int) {names : List Str} {hand : Str} {puts : Int} (hn : ∀ n, n ∈ names → isWord n = true) (hl : names.length ≤ 100) (hh : HandT hand) (h0 : 0 ≤ puts) (h1 : puts ≤ 900)
    (k : ∀ x st', Good x → Ok (f (x, st')) P) : Ok ((m_law_deed st names hand puts).bind f) P := by
  have h : Ok (m_law_deed st names hand puts) fun r => Good r.1 := by
    unfold m_law_deed
    have lh := hh.2
    have e1 : ("1" : Str).length = 1 := by decide
    obtain ⟨n1, n2, n3⟩ := num_wd (i := puts + 1) (by omega) (by omega)
    have hand1 : isWord (hand ++ ("1" : Str)) = true := isWord_iff.mpr ⟨hh.wsg.app (Wsg.lit (by decide +kernel)), by rw [len_app]; omega, by rw [len_app]; omega⟩
    refine nxt _ fun x1 s1 hx1 => .lets (.ite (fun _ => ?_) fun _ => ?_)
    · exact .need (log2_small (by omega) (by omega)) (.need (le_line (by omega)) (prts _ fun p s2 G hb hc => .ret (.put _ (isWord_iff.mpr ⟨hh.wsg.app n1, by rw [len_app]; omega, by rw [len_app]; omega⟩) G hb hc)))
    · refine awd _ fun w s2 hw => .need (le_line (by rw [e1]; omega)) (.need (le_line (by simp only [List.length_cons, List.length_nil]; omega)) (nxt _ fun x2 s3 hx2 => .need (by omega) ?_))
      refine .idx (Int.emod_nonneg _ (by omega)) (by rw [List.length_append]; simp only [List.length_cons, List.length_nil]; exact Int.emod_lt_of_pos _ (by omega)) fun n hn1 _ => nxt _ fun x3 s4 hx3 => .idx (Int.emod_nonneg _ (by decide)) (Int.emod_lt_of_pos _ (by decide)) fun m hm _ => ?_
      have hnw : isWord n = true := by
        rcases List.mem_append.mp hn1 with h | h
        · exact hn n h
        · rw [List.mem_singleton.mp h]; exact hand1
      have hmw : isWord m = true := by
        simp only [List.mem_cons, List.not_mem_nil, or_false] at hm
        rcases hm with rfl | rfl
        · exact hw
        · exact hnw
      refine .ite (fun _ => awd _ fun v s5 hv => .ret (.place _ _ hmw hv)) fun _ => .ite (fun _ => awd _ fun v s5 hv => nxt _ fun x4 s6 _ => .ret (.mark _ _ _ hmw hv)) fun _ => .ret (.drop _ hmw)
  exact .bind h fun r hr => k r.1 r.2 hr
theorem nodeeds {ρ : Type} {P : ρ → Prop} {f : Any × T3 Int Script Int → R ρ} (st : T3 Int Script Int) {x : Any} (hx : Good x) (k : ∀ x st', m_is_deed x = .ok false → Ok (f (x, st')) P) : Ok ((m_law_no_deed st x).bind f) P := by
  have h : Ok (m_law_no_deed st x) fun r => m_is_deed r.1 = .ok false := by
    have core : ∀ (kk n : Str) (rest : List Any), Asc kk → isWord n = true → rest.length ≤ 2 →
        (rest.length = 2 → ∀ z, z ∈ [(Any.int 1), (Any.int 0), Any.non, (Any.str ("True" : Str))] → m_is_deed (.tup (cutL (.str kk :: .str n :: rest) none (some 3) ++ [z])) = .ok false) →
        (1 ≤ rest.length → kk = ("put" : Str) → ∃ a b c e d, GoodL a b c d e ∧ rest = [.tup [.str a, .str b, .str c, .int d, .str e]]) →
        (1 ≤ rest.length → ¬ kk = ("put" : Str) → ∀ z, NoW z → m_is_deed (.tup ((cutL (.str kk :: .str n :: rest) none (some 2) ++ [z]) ++ cutL (.str kk :: .str n :: rest) (some 3) none)) = .ok false) →
        Ok (m_law_no_deed st (.tup (.str kk :: .str n :: rest))) fun r => m_is_deed r.1 = .ok false := by
      intro kk n rest hk hn hl h3 hp hq
      unfold m_law_no_deed
      have eL : lenA (.tup (.str kk :: .str n :: rest)) = .ok ((rest.length + 2 : Nat) : Int) := rfl
      have eT : Any.asTup (.tup (.str kk :: .str n :: rest)) = .ok (.str kk :: .str n :: rest) := rfl
      have ll : (Any.str kk :: Any.str n :: rest).length = rest.length + 2 := rfl
      have cl : ∀ (u v : Option Int), (cutL (Any.str kk :: Any.str n :: rest) u v).length ≤ 4 := fun u v => Nat.le_trans cutL_len (by rw [ll]; omega)
      refine nxt _ fun x1 s1 hx1 => .bindE eL (.need (by omega) (.lets ?_))
      have y0 := Int.emod_nonneg x1 (show ((rest.length + 2 : Nat) : Int) ≠ 0 by omega)
      have y1 := Int.emod_lt_of_pos x1 (show (0 : Int) < ((rest.length + 2 : Nat) : Int) by omega)
      dsimp only
      generalize x1 % ((rest.length + 2 : Nat) : Int) = y at *
      refine .ite (fun c0 => ?_) fun c0 => .ite (fun c1 => ?_) fun c1 => .ite (fun c3 => ?_) fun c3 => ?_
      · refine .bindE eT (.bindE (idxR_ok (x := Any.str kk) (by decide) rfl) (nxt _ fun x2 s2 hx2 => .idx (Int.emod_nonneg _ (by decide)) (Int.emod_lt_of_pos _ (by decide)) fun z hz _ => .bindE eT (.need (fun q => ?_) (.bindE rfl (.need (le_line (by have := cl (some 1) none; simp only [List.length_cons, List.length_nil]; omega)) (.ret ?_))))))
        · have := q.1
          rw [sIx_nn (by decide), ll] at this
          have h1 : (1 : Int).toNat = 1 := rfl
          omega
        · have e : cutL (Any.str kk :: Any.str n :: rest) (some 1) none = .str n :: rest := by rw [cutL_from (by decide)]; rfl
          dsimp only
          rw [e]
          simp only [List.mem_cons, List.not_mem_nil, or_false] at hz
          rcases hz with rfl | rfl | rfl | rfl | rfl | rfl | rfl | rfl | rfl
          · exact deed_else (Asc.lit (by decide +kernel)) (word_true hn) (by decide +kernel)
          · exact deed_else (Asc.lit (by decide +kernel)) (word_true hn) (by decide +kernel)
          · exact deed_else (Asc.lit (by decide +kernel)) (word_true hn) (by decide +kernel)
          · exact deed_else (Asc.lit (by decide +kernel)) (word_true hn) (by decide +kernel)
          · exact deed_first rfl
          · exact deed_first rfl
          · exact deed_first rfl
          · exact deed_first rfl
          · exact deed_first rfl
      · refine .bindE eT (.bindE (idxR_ok (x := Any.str kk) (by decide) rfl) (nowd _ fun z s2 hz => .bindE eT (.need (fun q => ?_) (.bindE rfl (.need (le_line (by have := cl (some 2) none; simp only [List.length_cons, List.length_nil]; omega)) (.ret (deed_word hz.1)))))))
        have := q.1
        rw [sIx_nn (by decide), ll] at this
        have h1 : (2 : Int).toNat = 2 := rfl
        omega
      · have c3 := of_decide_eq_true c3
        have r2 : rest.length = 2 := by omega
        refine .bindE eT (.need (fun q => ?_) (nxt _ fun x2 s2 hx2 => .idx (Int.emod_nonneg _ (by decide)) (Int.emod_lt_of_pos _ (by decide)) fun z hz _ => .bindE rfl (.need (le_line (by have := cl none (some 3); simp only [List.length_cons, List.length_nil]; omega)) (.ret (h3 r2 z hz)))))
        have := q.2
        rw [sIx_nn (by decide), ll] at this
        have h1 : (3 : Int).toNat = 3 := rfl
        omega
      · have c0 : ¬ y = 0 := fun z => c0 (decide_eq_true z)
        have c1 : ¬ y = 1 := fun z => c1 (decide_eq_true z)
        have r1 : 1 ≤ rest.length := by omega
        refine .bindE eT (.bindE (idxR_ok (x := Any.str kk) (by decide) rfl) (.bindE (eqA_lit hk kinds.2.1) ?_))
        have nw : ¬ (HT.sIx (Any.str kk :: Any.str n :: rest).length 0 none = 0 ∧ HT.sIx (Any.str kk :: Any.str n :: rest).length (Any.str kk :: Any.str n :: rest).length (some 2) = (Any.str kk :: Any.str n :: rest).length) := fun q => by
          have := q.2
          rw [sIx_nn (by decide), ll] at this
          have h1 : (2 : Int).toNat = 2 := rfl
          omega
        refine .ite (fun z => ?_) fun z => ?_
        · obtain ⟨a, b, c, e, d, G, rfl⟩ := hp r1 (of_decide_eq_true z)
          have ek := of_decide_eq_true z
          subst ek
          refine .bindE eT (.need nw (.bindE eT (.bindE (idxR_ok (x := Any.tup [.str a, .str b, .str c, .int d, .str e]) (by decide) rfl) (noparts _ G fun p s2 hp => .bindE rfl (.need (le_line (by have := cl none (some 2); simp only [List.length_cons, List.length_nil]; omega)) (.ret (deed_put1 (word_true hn) hp)))))))
        · refine .bindE eT (.need nw (nowd _ fun p s2 hp => .bindE rfl (.need (le_line (by have := cl none (some 2); simp only [List.length_cons, List.length_nil]; omega)) (.bindE eT (.need (fun q => ?_) (.bindE rfl (.bindE rfl (.need (le_line (by have := cl none (some 2); have := cl (some 3) none; simp only [List.length_append, List.length_cons, List.length_nil]; omega)) (.ret (hq r1 (fun e => z (decide_eq_true e)) p hp))))))))))
          have := q.1
          rw [sIx_nn (by decide), ll] at this
          have h1 : (3 : Int).toNat = 3 := rfl
          omega
    cases hx with
    | put n hn G hb hc => exact core _ _ _ kinds.2.1 hn (by show 1 ≤ 2; decide) (fun q => by cases q) (fun _ _ => ⟨_, _, _, _, _, G, rfl⟩) (fun _ q => absurd rfl q)
    | place n w hn hw => exact core _ _ _ kinds.2.2.1 hn (by show 1 ≤ 2; decide) (fun q => by cases q) (fun _ q => absurd q lits4.2.2.1) (fun _ _ z hz => deed_place1 (word_true hn) hz.1)
    | mark n w b hn hw =>
      refine core _ _ _ kinds.2.2.2 hn (by show 2 ≤ 2; decide) (fun _ z hz => ?_) (fun _ q => absurd q lits4.2.2.2.2.1) (fun _ _ z hz => deed_mark1 (b := false) (word_true hn) hz.1)
      simp only [List.mem_cons, List.not_mem_nil, or_false] at hz
      rcases hz with rfl | rfl | rfl | rfl
      · exact deed_mark1 (b := true) (word_true hn) (word_true hw)
      · exact deed_mark1 (b := true) (word_true hn) (word_true hw)
      · exact deed_mark1 (b := true) (word_true hn) (word_true hw)
      · exact deed_mark1 (b := true) (word_true hn) (word_true hw)
    | drop n hn => exact core _ _ _ kinds.1 hn (by show 0 ≤ 2; decide) (fun q => by cases q) (fun q => by cases q) (fun q => by cases q)
  exact .bind h fun r hr => k r.1 r.2 hr
theorem cutS_mem' {x : Str} {a b : Option Int} {c : Nat} (h : c ∈ (cutS x a b).cps.toList) : c ∈ x.cps.toList := by
  rw [cutS_tl] at h; exact cutL_mem h
def small (c : Nat) : Bool := decide (c ∈ ("abcdefghijklmnopqrstuvwxyz" : Str).cps.toList)
def isHand (s : Str) : Bool := (decide (1 ≤ s.length) && decide (s.length ≤ 8)) && s.cps.toList.all small
theorem is_hand_str {s : Str} (hl : s.length ≤ 10000) : m_is_hand (.str s) = .ok (isHand s) := by
  unfold m_is_hand
  have e1 : (Any.str s).is "str" = true := rfl
  rw [e1]
  have e2 : lenA (.str s) = .ok (s.length : Int) := R.need_pos (le_line (by omega)) _
  show ((lenA (.str s)).bind _).bind _ = _
  rw [e2, R.bind_ok, R.bind_ok]
  by_cases c : 1 ≤ s.length ∧ s.length ≤ 8
  · have c1 : (decide ((1 : Int) ≤ (s.length : Int)) && decide ((s.length : Int) ≤ 8)) = true := by simp; omega
    rw [c1]
    rw [if_neg (by decide)]
    show (R.need _ _) = _
    rw [R.need_pos (by rw [← len_tl]; exact le_line (by omega)), compR_map (g := small) fun x _ => rfl]
    rw [R.bind_ok]
    congr 1
    unfold isHand
    have c2 : (decide (1 ≤ s.length) && decide (s.length ≤ 8)) = true := by simp; exact c
    rw [c2]
    simp [List.all_map]
  · have c1 : (decide ((1 : Int) ≤ (s.length : Int)) && decide ((s.length : Int) ≤ 8)) = false := by
      rw [Bool.and_eq_false_iff]; simp; omega
    rw [c1]
    have c2 : isHand s = false := by
      unfold isHand
      have : (decide (1 ≤ s.length) && decide (s.length ≤ 8)) = false := by rw [Bool.and_eq_false_iff]; simp; omega
      rw [this]; rfl
    rw [c2]; rfl
theorem hand_yes {s : Str} (h : HandT s) : m_is_hand (.str s) = .ok true := by
  have := h.2
  rw [is_hand_str (by omega)]
  congr 1
  unfold isHand
  rw [decide_eq_true h.2.1, decide_eq_true h.2.2]
  exact List.all_eq_true.mpr fun c hc => decide_eq_true (h.1 c hc)
theorem hand_len {s : Str} (hl : s.length ≤ 10000) (h : 8 < s.length) : m_is_hand (.str s) = .ok false := by
  rw [is_hand_str hl]
  congr 1
  unfold isHand
  rw [decide_eq_false (show ¬ s.length ≤ 8 by omega)]
  simp
theorem hand_sign {s : Str} {c : Nat} (hl : s.length ≤ 10000) (hc : c ∈ s.cps.toList) (h : small c = false) : m_is_hand (.str s) = .ok false := by
  rw [is_hand_str hl]
  congr 1
  unfold isHand
  have : s.cps.toList.all small = false := by
    rw [Bool.eq_false_iff]
    intro z
    rw [List.all_eq_true.mp z c hc] at h; cases h
  rw [this, Bool.and_false]
theorem hand_no {x : Any} (h : x.is "str" = false) : m_is_hand x = .ok false := by
  unfold m_is_hand
  rw [h]; rfl
theorem hand_empty : m_is_hand (.str ("" : Str)) = .ok false := by rw [is_hand_str (by decide)]; decide +kernel
theorem idx_end {α : Type} {xs : List α} {j : Nat} (hj : j < xs.length) : idxR xs (-((j : Int) + 1)) = .ok (xs[xs.length - 1 - j]'(by omega)) := by
  have e : ixN xs.length (-((j : Int) + 1)) = some (xs.length - 1 - j) := by
    unfold ixN
    rw [if_neg (by omega), if_pos (by omega)]
    congr 1; omega
  unfold idxR atI
  rw [e]
  show (match xs[xs.length - 1 - j]? with | some x => R.ok x | none => R.bad) = _
  rw [List.getElem?_eq_getElem (by omega)]
theorem compR_none {σ α β : Type} {f : σ → α → R (σ × Option β)} : ∀ {xs : List α} {s : σ}, (∀ x, x ∈ xs → f s x = .ok (s, none)) → compR f xs s = .ok (s, [])
  | [], s, _ => rfl
  | x :: r, s, h => by
    unfold compR
    rw [h x (by simp)]
    show (compR f r s).bind _ = _
    rw [compR_none fun y hy => h y (by simp [hy])]; rfl
theorem all_lay {n : Nat} : ∀ {xs : List Any}, (∀ x, x ∈ xs → plA x = true ∧ (pdA x).canLay0 = true ∧ (pdA x).depth ≤ n) → plAL xs = true ∧ PyData.canLayAll0 (pdAL xs) = true ∧ PyData.depthAll (pdAL xs) ≤ n
  | [], _ => by
    rw [plAL, pdAL]
    simp [PyData.canLayAll0, PyData.depthAll]
  | x :: r, h => by
    obtain ⟨a1, a2, a3⟩ := h x (by simp)
    obtain ⟨b1, b2, b3⟩ := all_lay (n := n) (xs := r) fun y hy => h y (List.mem_cons_of_mem _ hy)
    rw [plAL, pdAL]
    simp only [PyData.canLayAll0, PyData.depthAll, a1, a2, b1, b2]
    exact ⟨rfl, rfl, by omega⟩
theorem tup_lay {n : Nat} {xs : List Any} (h : ∀ x, x ∈ xs → plA x = true ∧ (pdA x).canLay0 = true ∧ (pdA x).depth ≤ n) : plA (.tup xs) = true ∧ (pdA (.tup xs)).canLay0 = true ∧ (pdA (.tup xs)).depth ≤ n + 1 := by
  obtain ⟨h1, h2, h3⟩ := all_lay h
  rw [plA, pdA]
  simp only [PyData.canLay0, PyData.depth]
  exact ⟨h1, h2, by omega⟩
theorem lst_lay {n : Nat} {xs : List Any} (h : ∀ x, x ∈ xs → plA x = true ∧ (pdA x).canLay0 = true ∧ (pdA x).depth ≤ n) : plA (.lst xs) = true ∧ (pdA (.lst xs)).canLay0 = true ∧ (pdA (.lst xs)).depth ≤ n + 1 := by
  obtain ⟨h1, h2, h3⟩ := all_lay h
  rw [plA, pdA]
  simp only [PyData.canLay0, PyData.depth]
  exact ⟨h1, h2, by omega⟩
theorem eqA_self {x : Any} (h1 : plA x = true) (h2 : (pdA x).canLay0 = true) (h3 : (pdA x).depth ≤ 60) : eqA x x = .ok true := by
  have s : SeqAt.shaped (pdA x) = true := by
    unfold SeqAt.shaped
    rw [h2, decide_eq_true (show (pdA x).depth ≤ 64 by omega)]; rfl
  unfold eqA
  rw [R.need_pos ⟨h1, h1, s, s⟩, SeqAt.eqv_refl _ h2]
theorem tupB {xs : List Any} {f : List Any → R ρ} (k : Ok (f xs) P) : Ok ((Any.asTup (.tup xs)).bind f) P := k
theorem ixB {α : Type} {i : Int} {xs : List α} {x : α} {f : α → R ρ} (h : 0 ≤ i) (e : xs[i.toNat]? = some x) (k : Ok (f x) P) : Ok ((idxR xs i).bind f) P := .bindE (idxR_ok h e) k
theorem kwB {u v : Str} {f : Bool → R ρ} (hu : Asc u) (hv : Asc v) (k : Ok (f (decide (u = v))) P) : Ok ((eqA (.str u) (.str v)).bind f) P := .bindE (eqA_str hu hv) k
theorem asc_pl {w : Str} (h : Asc w) : plA (Any.str w) = true ∧ (pdA (Any.str w)).canLay0 = true ∧ (pdA (Any.str w)).depth ≤ 1 := ⟨plA_str w, by rw [pdA_str]; exact h.lay, by rw [pdA_str]; exact Nat.zero_le _⟩
theorem pl_int (i : Int) : plA (Any.int i) = true ∧ (pdA (Any.int i)).canLay0 = true ∧ (pdA (Any.int i)).depth ≤ 1 := ⟨rfl, rfl, by rw [pdA]; exact Nat.zero_le _⟩
theorem dataLe_is {β : Type} (x : β → Int) (y : β → Str) : PySem.W.dataLe false (fun b => .tuple [.int (x b), .str (y b)]) = fun p q => decide (x p < x q ∨ (x p = x q ∧ (y p).cps.toList ≤ (y q).cps.toList)) := by
  funext p q
  show (!PySem.W.dataLt (.tuple [.int (x q), .str (y q)]) (.tuple [.int (x p), .str (y p)])) = _
  rw [PySem.W.dataLt_pair (by simp [PySem.W.alike]) (by simp [PySem.W.alike]), PySem.W.dataLt_int, PySem.W.dataLt_str]
  simp only [PyData.eqv, beq_iff_eq]
  by_cases h : x q = x p
  · rw [if_pos h]
    by_cases e : y q = y p
    · rw [if_pos e, e]
      have : (y p).cps.toList ≤ (y p).cps.toList := List.le_refl _
      simp [h, this]
    · rw [if_neg e]
      have := PySem.W.not_lt_str (y p).cps.toList (y q).cps.toList
      rw [this]
      have h1 : ¬ x p < x q := by omega
      simp [h1, h.symm]
  · rw [if_neg h]
    by_cases c : x q < x p
    · have h1 : ¬ x p < x q := by omega
      have h2 : ¬ x p = x q := by omega
      simp [c, h1, h2]
    · have h1 : x p < x q := by omega
      simp [c, h1]
def sle (p q : Stm) : Bool := decide (p.a < q.a ∨ (p.a = q.a ∧ p.b.cps.toList ≤ q.b.cps.toList))
theorem sortSt_eq (xs : List Stm) : sortSt xs = xs.mergeSort sle := by
  have : PySem.W.dataLe false stP = sle := dataLe_is (β := Stm) (fun x => x.a) (fun x => x.b)
  unfold sortSt
  rw [this]
theorem sortSt_self {xs : List Stm} (h : xs.Pairwise fun p q => sle p q = true) : sortSt xs = xs := by
  rw [sortSt_eq]
  exact List.mergeSort_of_pairwise h
def Lo (n : Nat) (x : Any) : Prop := plA x = true ∧ (pdA x).canLay0 = true ∧ (pdA x).depth ≤ n
theorem Lo.up {n m : Nat} {x : Any} (h : Lo n x) (k : n ≤ m) : Lo m x := ⟨h.1, h.2.1, Nat.le_trans h.2.2 k⟩
theorem Lo.self {n : Nat} {x : Any} (h : Lo n x) (k : n ≤ 60) : eqA x x = .ok true := eqA_self h.1 h.2.1 (Nat.le_trans h.2.2 k)
theorem lo_bl (b : Bool) : Lo 1 (.bl b) := ⟨rfl, by rw [pdA]; rfl, by rw [pdA]; exact Nat.zero_le _⟩
theorem Good.lay {x : Any} (h : Good x) : Lo 3 x := by
  have k2 := kinds
  cases h with
  | put n hn G hb hc =>
    rename_i a b c e d
    have ha : Asc a := Wsg.asc (isWord_iff.mp G.ga).1
    have he : Asc e := by
      rcases G.ge with h | h
      · rw [h]; exact asc_empty
      · exact Wsg.asc (isWord_iff.mp h).1
    refine tup_lay (n := 2) fun y hy => ?_
    simp only [List.mem_cons, List.not_mem_nil, or_false] at hy
    rcases hy with rfl | rfl | rfl
    · exact Lo.up (asc_pl k2.2.1) (by decide)
    · exact Lo.up (asc_pl (Wsg.asc (isWord_iff.mp hn).1)) (by decide)
    · refine tup_lay (n := 1) fun z hz => ?_
      simp only [List.mem_cons, List.not_mem_nil, or_false] at hz
      rcases hz with rfl | rfl | rfl | rfl | rfl
      · exact asc_pl ha
      · exact asc_pl hb
      · exact asc_pl hc
      · exact pl_int _
      · exact asc_pl he
  | place n w hn hw =>
    refine Lo.up (tup_lay (n := 1) fun y hy => ?_) (by decide)
    simp only [List.mem_cons, List.not_mem_nil, or_false] at hy
    rcases hy with rfl | rfl | rfl
    · exact asc_pl k2.2.2.1
    · exact asc_pl (Wsg.asc (isWord_iff.mp hn).1)
    · exact asc_pl (Wsg.asc (isWord_iff.mp hw).1)
  | mark n w z hn hw =>
    refine Lo.up (tup_lay (n := 1) fun y hy => ?_) (by decide)
    simp only [List.mem_cons, List.not_mem_nil, or_false] at hy
    rcases hy with rfl | rfl | rfl | rfl
    · exact asc_pl k2.2.2.2
    · exact asc_pl (Wsg.asc (isWord_iff.mp hn).1)
    · exact asc_pl (Wsg.asc (isWord_iff.mp hw).1)
    · exact lo_bl _
  | drop n hn =>
    refine Lo.up (tup_lay (n := 1) fun y hy => ?_) (by decide)
    simp only [List.mem_cons, List.not_mem_nil, or_false] at hy
    rcases hy with rfl | rfl
    · exact asc_pl k2.1
    · exact asc_pl (Wsg.asc (isWord_iff.mp hn).1)
theorem stm_lay {x : Stm} (h : Good x.d) (hb : Asc x.b) : Lo 4 (t4A x) := by
  refine tup_lay (n := 3) fun y hy => ?_
  simp only [List.mem_cons, List.not_mem_nil, or_false] at hy
  rcases hy with rfl | rfl | rfl | rfl
  · exact Lo.up (pl_int _) (by decide)
  · exact Lo.up (asc_pl hb) (by decide)
  · exact Lo.up (pl_int _) (by decide)
  · exact h.lay
theorem l4_lay {R : List Stm} (h : ∀ x, x ∈ R → Good x.d ∧ Asc x.b) : Lo 5 (l4A R) := lst_lay (n := 4) fun y hy => by
  obtain ⟨x, hx, rfl⟩ := List.mem_map.mp hy
  exact stm_lay (h x hx).1 (h x hx).2
theorem l4_nil {R : List Stm} (h : ∀ x, x ∈ R → Good x.d ∧ Asc x.b) : eqA (l4A R) (l4A ([] : List Stm)) = .ok (decide (R = [])) := by
  cases R with
  | nil => exact (l4_lay h).self (by decide)
  | cons x r =>
    have a := l4_lay h
    have b := l4_lay (R := []) fun x hx => by cases hx
    have s : ∀ {d : PyData}, d.canLay0 = true → d.depth ≤ 5 → SeqAt.shaped d = true := fun h1 h2 => by
      unfold SeqAt.shaped
      rw [h1, decide_eq_true (show _ ≤ 64 by omega)]; rfl
    unfold eqA
    rw [R.need_pos ⟨a.1, b.1, s a.2.1 a.2.2, s b.2.1 b.2.2⟩]
    rfl
def putN : Any → Option Str
  | .tup (.str k :: .str n :: _) => if k = ("put" : Str) then some n else none
  | _ => none
theorem Good.form {x : Any} (h : Good x) : ∃ k n r, x = .tup (.str k :: .str n :: r) ∧ Asc k ∧ isWord n = true := by
  have k2 := kinds
  cases h with
  | put n hn G hb hc => exact ⟨_, _, _, rfl, k2.2.1, hn⟩
  | place n w hn hw => exact ⟨_, _, _, rfl, k2.2.2.1, hn⟩
  | mark n w z hn hw => exact ⟨_, _, _, rfl, k2.2.2.2, hn⟩
  | drop n hn => exact ⟨_, _, _, rfl, k2.1, hn⟩
def putsOf (R : List Stm) : List Stm := R.filterMap fun x => if (putN x.d).isSome = true then some x else none
def pn (R : List Stm) : Nat := (putsOf R).length
theorem pn_le (R : List Stm) : pn R ≤ R.length := List.length_filterMap_le _ _
theorem is_put {x : Any} {ρ : Type} {P : ρ → Prop} {f : Bool → R ρ} (h : Good x) (k : Ok (f (putN x).isSome) P) : Ok ((Any.asTup x).bind fun xs => (idxR xs 0).bind fun y => (eqA y (Any.str ("put" : Str))).bind f) P := by
  obtain ⟨kx, n, r, rfl, hk, hn⟩ := h.form
  refine tupB (ixB (by decide) rfl (kwB hk kinds.2.1 ?_))
  have : (putN (.tup (.str kx :: .str n :: r))).isSome = decide (kx = ("put" : Str)) := by
    show (if kx = ("put" : Str) then some n else none).isSome = _
    by_cases c : kx = ("put" : Str)
    · rw [if_pos c, decide_eq_true c]; rfl
    · rw [if_neg c, decide_eq_false c]; rfl
  rw [this] at k
  exact k
theorem puts_comp {M : List Stm} (h : ∀ x, x ∈ M → Good x.d) {ρ : Type} {P : ρ → Prop} {k : Unit × List Stm → R ρ} (hk : Ok (k ((), putsOf M)) P) :
    Ok ((compR (fun (_ : Unit) (x : Stm) => (Any.asTup x.d).bind fun xs => (idxR xs 0).bind fun y => (eqA y (Any.str ("put" : Str))).bind fun b => if b = true then (R.ok ((), some x)) else R.ok ((), none)) M ()).bind k) P := by
  refine .compF (fun x => if (putN x.d).isSome = true then some x else none) (fun x hx => is_put (h x hx) (.ite (fun c => .ret ?_) fun c => .ret ?_)) hk
  · rw [if_pos c]
  · rw [if_neg c]
theorem hands2 {ρ : Type} {P : ρ → Prop} {f : List Str × T3 Int Script Int → R ρ} (st : T3 Int Script Int) (k : ∀ xs st', xs.length = 2 → (∀ h, h ∈ xs → HandT h) → Ok (f (xs, st')) P) : Ok ((m_law_hands st 2).bind f) P := by
  have h : Ok (m_law_hands st 2) fun r => r.1.length = 2 ∧ ∀ h, h ∈ r.1 → HandT h := by
    unfold m_law_hands
    refine wd st (by decide +kernel) (by decide +kernel) (by decide) (by decide) fun b s1 h1 h2 h3 => nxt _ fun x1 s2 hx1 => ?_
    dsimp only
    refine .need (le_line (by omega)) (.need (by omega) (.lets (nxt _ fun x2 s3 hx2 => .lets (.need (by decide) ?_))))
    have y0 := Int.emod_nonneg x1 (show ((b.length : Int) + 1) ≠ 0 by omega)
    dsimp only
    generalize x1 % ((b.length : Int) + 1) = y at *
    have l26 : ("abcdefghijklmnopqrstuvwxyz" : Str).cps.toList.length = 26 := by decide +kernel
    have c1 : (cutS b none (some y)).length + (cutS b (some y) none).length ≤ b.length := cutS_len2 y0
    refine .forI (fun p (s : List Str) => s.length = p.length ∧ ∀ h, h ∈ s → HandT h) ⟨rfl, fun h m => absurd m (by simp)⟩ ?_ ?_
    · rintro p x q s ep ⟨hs, hh⟩
      have hp := pre_lt ep
      rw [rngL_len] at hp
      have hp1 : p.length < 2 := hp
      refine .need (le_line (by omega)) (.idx (Int.emod_nonneg _ (by decide)) (by rw [l26]; exact Int.emod_lt_of_pos _ (by decide)) fun c hc _ => .need (le_line (by rw [len_sg]; omega)) (.need (le_line (by omega)) (.need (le_line (by rw [len_app, len_sg]; omega)) (.need (lt_line (m := 10) (by omega) (by decide)) (.ret ⟨by simp [hs], fun h m => ?_⟩)))))
      rcases List.mem_append.mp m with m | m
      · exact hh h m
      · rw [List.mem_singleton.mp m]
        refine ⟨fun d hd => ?_, by rw [len_app, len_app, len_sg]; omega, by rw [len_app, len_app, len_sg]; omega⟩
        rw [tl_app, tl_app] at hd
        rcases List.mem_append.mp hd with hd | hd
        · rcases List.mem_append.mp hd with hd | hd
          · exact h1 d (cutS_mem' hd)
          · have : d = c := by simpa [Ml.sg] using hd
            rw [this]; exact hc
        · exact h1 d (cutS_mem' hd)
    · rintro s ⟨hs, hh⟩
      rw [rngL_len] at hs
      have hs : s.length = 2 := hs
      refine nxt _ fun x3 s4 hx3 => .bind (Q := fun xs => xs.length = 2 ∧ ∀ h, h ∈ xs → HandT h) (.ite (fun _ => .idx (by decide) (by omega) fun g hg _ => ?_) fun _ => .ret ⟨hs, hh⟩) fun xs hx => .ret hx
      have hG := hh g hg
      have lg := hG.2
      refine .need (le_line (by omega)) (.ix (by decide) (by omega) (.ret ⟨by rw [List.length_set]; exact hs, fun h m => ?_⟩))
      rcases List.mem_or_eq_of_mem_set m with m | m
      · exact hh h m
      · rw [m]
        have e : (cutS g none (some (y + 1))).length = min (y + 1).toNat g.length := by rw [len_tl, cutS_tl, cutL_to (by omega), List.length_take, ← len_tl]
        exact ⟨fun d hd => hG.1 d (cutS_mem' hd), by omega, by omega⟩
  exact .bind h fun r hr => k r.1 r.2 hr.1 hr.2
def num (i : Int) : Str := Str.ofString (toString i)
def nst (h : Str) (n : Nat) (d : Any) : Stm := ⟨(n : Int) + 1, h, (n : Int) + 1, d⟩
structure RW1 (h : Str) (M : List Stm) : Prop where
  at_ : ∀ i x, M[i]? = some x → x = nst h i x.d ∧ Good x.d
theorem RW1.good {h : Str} {M : List Stm} (r : RW1 h M) : ∀ x, x ∈ M → Good x.d := fun x hx => by
  obtain ⟨i, hi⟩ := List.getElem?_of_mem hx
  exact (r.at_ i x hi).2
theorem RW1.hand {h : Str} {M : List Stm} (r : RW1 h M) : ∀ x, x ∈ M → x.b = h := fun x hx => by
  obtain ⟨i, hi⟩ := List.getElem?_of_mem hx
  rw [(r.at_ i x hi).1]; rfl
theorem RW1.add {h : Str} {M : List Stm} (r : RW1 h M) {d : Any} (g : Good d) : RW1 h (M ++ [nst h M.length d]) := ⟨fun i x hx => by
  by_cases c : i < M.length
  · rw [List.getElem?_append_left c] at hx
    exact r.at_ i x hx
  · rw [List.getElem?_append_right (by omega)] at hx
    have hi : i - M.length = 0 := by
      by_cases z : i - M.length = 0
      · exact z
      · rw [List.getElem?_eq_none (by simp; omega)] at hx; cases hx
    rw [hi] at hx
    simp only [List.getElem?_cons_zero, Option.some.injEq] at hx
    subst hx
    have : i = M.length := by omega
    subst this
    exact ⟨rfl, g⟩⟩
theorem RW1.nil {h : Str} : RW1 h [] := ⟨fun i x hx => by simp at hx⟩
theorem RW1.last {h : Str} {M : List Stm} (r : RW1 h M) (hn : M ≠ []) : ∃ x, idxR M (-1) = .ok x ∧ x.a = (M.length : Int) := by
  have l : 0 < M.length := List.length_pos_iff.mpr hn
  have e := idx_end (xs := M) (j := 0) l
  refine ⟨_, e, ?_⟩
  have g : M[M.length - 1 - 0]? = some (M[M.length - 1 - 0]'(by omega)) := List.getElem?_eq_getElem (by omega)
  have := (r.at_ _ _ g).1
  rw [this]
  show ((M.length - 1 - 0 : Nat) : Int) + 1 = _
  omega
theorem RW1.sorted {h : Str} {M : List Stm} (r : RW1 h M) : sortSt M = M := by
  refine sortSt_self ?_
  rw [List.pairwise_iff_getElem]
  intro i j hi hj hij
  have a := (r.at_ i _ (List.getElem?_eq_getElem hi)).1
  have b := (r.at_ j _ (List.getElem?_eq_getElem hj)).1
  unfold sle
  rw [decide_eq_true_eq]
  left
  rw [a, b]
  show (i : Int) + 1 < (j : Int) + 1
  omega
def kp1 (h : Str) (M : List Stm) : List (Str × List Stm) := if M = [] then [] else [(h, M)]
theorem kp1_get (h : Str) (M : List Stm) : (dget (kp1 h M) h).getD [] = M := by
  unfold kp1
  by_cases c : M = []
  · rw [if_pos c, c]; rfl
  · rw [if_neg c]
    show (((List.find? (fun kv : Str × List Stm => decide (kv.1 = h)) [(h, M)]).map (·.2)).getD []) = M
    simp
theorem kp1_put (h : Str) (M N : List Stm) (hN : N ≠ []) : dput (setE (kp1 h M) h ([] : List Stm)) h N = kp1 h N := by
  unfold kp1
  rw [if_neg hN]
  by_cases c : M = []
  · rw [if_pos c]
    show dput ([] ++ [(h, ([] : List Stm))]) h N = _
    unfold dput
    simp
  · rw [if_neg c]
    have : dhas [(h, M)] h = true := by unfold dhas dget; simp
    unfold setE
    rw [if_pos this]
    unfold dput
    simp
theorem kp1_len (h : Str) (M : List Stm) : (kp1 h M).length ≤ 1 := by unfold kp1; split <;> simp
theorem latest1 {h : Str} {M : List Stm} (r : RW1 h M) : m_Ledger_latest (kp1 h M) = .ok (M.length : Int) := by
  refine Ok.eq ?_
  unfold m_Ledger_latest kp1
  by_cases c : M = []
  · rw [if_pos c, c]
    exact .need (by decide) ⟨0, rfl, rfl⟩
  · rw [if_neg c]
    obtain ⟨x, hx, ha⟩ := r.last c
    refine .need (by show 1 ≤ _; decide) (.compM (fun _ => (M.length : Int)) (fun y hy => ?_) (.ret rfl))
    have : y = M := by simpa using hy
    subst this
    exact .bindE hx (.ret (by rw [ha]))
theorem nf1 {h : Str} {M : List Stm} (r : RW1 h M) {d : Any} (g : Good d) (hl : M.length ≤ 1000) (ah : Asc h) (lh : h.length ≤ 100) (hp : ∀ n, putN d = some n → n = h ++ num ((pn M : Int) + 1)) : m_need_follows M (nst h M.length d) = .ok () := by
  refine Ok.eq ?_
  unfold m_need_follows
  refine .ifF (by simp [nst]) (.bind (Q := fun b => b = false) ?_ fun b hb => ?_)
  · by_cases c : M = []
    · subst c; exact .ifF (by simp) (.ret rfl)
    · obtain ⟨x, hx, ha⟩ := r.last c
      exact .ite (fun _ => .bindE hx (.ret (by rw [ha]; show decide ((M.length : Int) + 1 ≤ (M.length : Int)) = false; exact decide_eq_false (by omega)))) fun _ => .ret rfl
  · subst hb
    refine .ifF (by decide) (.need (le_line (by omega)) (puts_comp r.good (is_put g (.bind (Q := fun b => b = false) (.ite (fun c => ?_) fun _ => .ret rfl) fun b hb => ?_))))
    · obtain ⟨k, n, rest, ed, hk, hn⟩ := g.form
      have an : Asc n := Wsg.asc (isWord_iff.mp hn).1
      have lp := pn_le M
      obtain ⟨w1, w2, w3⟩ := num_wd (i := (pn M : Int) + 1) (by omega) (by omega)
      have en : n = h ++ num ((pn M : Int) + 1) := by
        refine hp n ?_
        unfold nst at c
        dsimp only at c
        rw [ed] at c ⊢
        show (if k = ("put" : Str) then some n else none) = some n
        by_cases z : k = ("put" : Str)
        · rw [if_pos z]
        · have : (if k = ("put" : Str) then some n else none).isSome = true := c
          rw [if_neg z] at this
          cases this
      show Ok ((Any.asTup d).bind _) _
      rw [ed]
      refine tupB (ixB (by decide) rfl (.need (log2_small (by show -1000000000000 < ((pn M : Nat) : Int) + 1; omega) (by show ((pn M : Nat) : Int) + 1 < 1000000000000; omega)) (.need (le_line ?_) (kwB an ?_ (.ret ?_)))))
      · show h.length + (num ((pn M : Int) + 1)).length ≤ _
        have : (num ((pn M : Int) + 1)).length ≤ 6 := w2
        omega
      · exact fun c hc => by
          have hc : c ∈ (h ++ num ((pn M : Int) + 1)).cps.toList := hc
          rw [tl_app] at hc
          rcases List.mem_append.mp hc with q | q
          · exact ah c q
          · exact Wsg.asc w1 c q
      · have : (n = h ++ num ((pn M : Int) + 1)) := en
        show (!decide (n = h ++ num ((pn M : Int) + 1))) = false
        rw [decide_eq_true this]; rfl
    · subst hb
      exact .ifF (by decide) (.ret rfl)
/-- a put of another name -/
theorem nf1_no {h : Str} {M : List Stm} (r : RW1 h M) {n : Str} {p : Any} (an : Asc n) (hl : M.length ≤ 1000) (ah : Asc h) (lh : h.length ≤ 100) (hp : n ≠ h ++ num ((pn M : Int) + 1)) : m_need_follows M (nst h M.length (.tup [.str ("put" : Str), .str n, p])) = .exc ⟨5, 0⟩ := by
  unfold m_need_follows
  rw [if_neg (by simp [nst])]
  have e0 : (if (decide (0 < (M.length : Int))) = true then (idxR M (-1)).bind fun x13 => R.ok (decide ((nst h M.length (.tup [.str ("put" : Str), .str n, p])).a ≤ x13.a)) else R.ok false) = .ok false := by
    refine Ok.eq ?_
    by_cases c : M = []
    · subst c; exact .ifF (by simp) (.ret rfl)
    · obtain ⟨x, hx, ha⟩ := r.last c
      exact .ite (fun _ => .bindE hx (.ret (by rw [ha]; show decide ((M.length : Int) + 1 ≤ (M.length : Int)) = false; exact decide_eq_false (by omega)))) fun _ => .ret rfl
  rw [e0, R.bind_ok, if_neg (by decide), R.need_pos (le_line (by omega))]
  have e1 := Ok.eq (puts_comp r.good (ρ := Unit × List Stm) (P := (· = ((), putsOf M))) (k := R.ok) (.ret rfl))
  have e2 : ∀ x : R (Unit × List Stm), x.bind R.ok = x := fun x => by cases x <;> rfl
  rw [e2] at e1
  rw [e1, R.bind_ok]
  have lp := pn_le M
  obtain ⟨w1, w2, w3⟩ := num_wd (i := (pn M : Int) + 1) (by omega) (by omega)
  have t : Any.asTup (nst h M.length (.tup [.str ("put" : Str), .str n, p])).d = .ok [.str ("put" : Str), .str n, p] := rfl
  have i0 : idxR [Any.str ("put" : Str), .str n, p] 0 = .ok (.str ("put" : Str)) := idxR_ok (by decide) rfl
  have i1 : idxR [Any.str ("put" : Str), .str n, p] 1 = .ok (.str n) := idxR_ok (by decide) rfl
  rw [t, R.bind_ok, i0, R.bind_ok, eqA_str kinds.2.1 kinds.2.1, R.bind_ok, if_pos (decide_eq_true rfl), R.bind_ok, i1, R.bind_ok]
  rw [R.need_pos (log2_small (by show -1000000000000 < ((pn M : Nat) : Int) + 1; omega) (by show ((pn M : Nat) : Int) + 1 < 1000000000000; omega)), R.need_pos (le_line (by
    show h.length + (num ((pn M : Int) + 1)).length ≤ _
    have : (num ((pn M : Int) + 1)).length ≤ 6 := w2
    omega))]
  have ax : Asc (h ++ num ((pn M : Int) + 1)) := fun c hc => by
    rw [tl_app] at hc
    rcases List.mem_append.mp hc with q | q
    · exact ah c q
    · exact Wsg.asc w1 c q
  show (((eqA (.str n) (.str (h ++ num ((pn M : Int) + 1)))).bind fun b87 => R.ok (!b87)).bind _) = _
  rw [eqA_str an ax, decide_eq_false hp]
  rfl
structure LR (h : Str) (L : Ledger) (M : List Stm) : Prop where
  eq : L = ⟨h, kp1 h M⟩
  rw1 : RW1 h M
theorem do1 {h : Str} {L : Ledger} {M : List Stm} (r : LR h L M) {d : Any} (g : Good d) (hl : M.length ≤ 1000) (ah : Asc h) (lh : h.length ≤ 100) (hp : ∀ n, putN d = some n → n = h ++ num ((pn M : Int) + 1)) :
    m_Ledger_do L d = .ok (nst h M.length d, ⟨h, kp1 h (M ++ [nst h M.length d])⟩) := by
  obtain ⟨rfl, r⟩ := r
  unfold m_Ledger_do
  dsimp only
  rw [g.deed, latest1 r, kp1_get]
  show ((m_need_follows M (nst h M.length d)).bind _) = _
  rw [nf1 r g hl ah lh hp, R.bind_ok, R.need_pos (lt_line (m := 1) (kp1_len h M) (by decide)), R.need_pos (lt_line (m := 1000) hl (by decide))]
  show R.ok (nst h M.length d, (⟨h, dput (setE (kp1 h M) h []) h (M ++ [nst h M.length d])⟩ : Ledger)) = _
  rw [kp1_put _ _ _ (by simp)]
theorem LR.step {h : Str} {L : Ledger} {M : List Stm} (r : LR h L M) {d : Any} (g : Good d) : LR h ⟨h, kp1 h (M ++ [nst h M.length d])⟩ (M ++ [nst h M.length d]) := ⟨rfl, r.rw1.add g⟩
theorem do_no {L : Ledger} {d : Any} (g : m_is_deed d = .ok false) : m_Ledger_do L d = .exc ⟨5, 0⟩ := by
  unfold m_Ledger_do
  rw [g]; rfl
theorem do_name {h : Str} {L : Ledger} {M : List Stm} (r : LR h L M) {n : Str} {a b c e : Str} {i : Int} (G : GoodL a b c i e) (an : Asc n) (ln : n.length ≤ 100) (hl : M.length ≤ 1000) (ah : Asc h) (lh : h.length ≤ 100) (hp : n ≠ h ++ num ((pn M : Int) + 1)) :
    m_Ledger_do L (.tup [.str ("put" : Str), .str n, .tup [.str a, .str b, .str c, .int i, .str e]]) = .exc ⟨5, 0⟩ := by
  have w : m_is_word (.str n) = .ok (isWord n) := is_word_str (le_line (by omega))
  cases z : isWord n with
  | false => exact do_no (deed_word (by rw [w, z]))
  | true =>
    obtain ⟨rfl, r⟩ := r
    unfold m_Ledger_do
    dsimp only
    rw [deed_put1 (by rw [w, z]) (parts_good G), latest1 r, kp1_get]
    show ((m_need_follows M (nst h M.length _)).bind _) = _
    rw [nf1_no r an hl ah lh hp]
    rfl
theorem have1 {h : Str} {L : Ledger} {M : List Stm} (r : LR h L M) : m_Ledger_have L = .ok (if M = [] then [] else [(h, (M.length : Int))]) := by
  obtain ⟨rfl, r⟩ := r
  unfold m_Ledger_have kp1
  dsimp only
  by_cases c : M = []
  · rw [if_pos c, if_pos c]; rfl
  · rw [if_neg c, if_neg c]; rfl
theorem told1 {h : Str} {L : Ledger} {M : List Stm} (r : LR h L M) (hl : M.length ≤ 1000) : m_Ledger_told L .non = .ok M := by
  obtain ⟨rfl, r⟩ := r
  refine Ok.eq ?_
  unfold m_Ledger_told kp1
  dsimp only
  by_cases c : M = []
  · rw [if_pos c, c]
    refine .bindE rfl (.need (by decide) (.ret ?_))
    exact sortSt_self (by simp)
  · rw [if_neg c]
    have e : cutL M (some 0) none = M := by rw [cutL_from (by decide)]; rfl
    refine .forI (fun p s => s = if p = [] then [] else M) rfl (fun p x q s ep hs => ?_) fun s hs => ?_
    · have hp : p = [] := by
        cases p with
        | nil => rfl
        | cons y p => simp at ep
      subst hp
      have hx : x = (h, M) := (show x = (h, M) ∧ q = [] by simpa using ep.symm).1
      subst hx
      have hs : s = [] := hs
      subst hs
      refine .bindE rfl (.need ?_ (.ret ?_))
      · show 0 + (cutL M (some 0) none).length ≤ _
        rw [e]; exact le_line (by omega)
      · show [] ++ cutL M (some 0) none = M
        rw [e, List.nil_append]
    · have hs : s = M := hs
      subst hs
      exact .need (le_line (by omega)) (.ret r.sorted)
theorem num_tab : ∀ n : Nat, n < 64 → (num (n : Int)).cps.toList.foldl (fun a c => 10 * a + (c - 48)) 0 = n ∧ (num (n : Int)).cps.toList.any (fun c => !small c) = true := by
  unfold num
  decide +kernel
theorem num_inj {n m : Nat} (hn : n < 64) (hm : m < 64) (h : num (n : Int) = num (m : Int)) : n = m := by
  rw [← (num_tab n hn).1, ← (num_tab m hm).1, h]
theorem app_inj {a b c : Str} (h : a ++ b = a ++ c) : b = c := by
  have := congrArg (fun x : Str => x.cps.toList) h
  simp only [tl_app] at this
  exact str_ext (List.append_cancel_left this)
theorem HandT.small {h : Str} (hh : HandT h) : ∀ c, c ∈ h.cps.toList → small c = true := fun c hc => decide_eq_true (hh.1 c hc)
theorem HandT.asc {h : Str} (hh : HandT h) : Asc h := Wsg.asc hh.wsg
/-- refused: no deed, or a put of another name -/
def BadD (h : Str) (puts : Nat) (x : Any) : Prop := m_is_deed x = .ok false ∨ ∃ n a b c i e, x = .tup [.str ("put" : Str), .str n, .tup [.str a, .str b, .str c, .int i, .str e]] ∧ GoodL a b c i e ∧ Asc n ∧ n.length ≤ 100 ∧ n ≠ h ++ num ((puts : Int) + 1)
theorem bad_refused {h : Str} {L : Ledger} {M : List Stm} (r : LR h L M) (hh : HandT h) (hl : M.length ≤ 60) {x : Any} (b : BadD h (pn M) x) : m_Ledger_do L x = .exc ⟨5, 0⟩ := by
  rcases b with b | ⟨n, a, b, c, i, e, rfl, G, an, ln, hn⟩
  · exact do_no b
  · have := hh.2.2
    exact do_name r G an ln (by omega) hh.asc (by omega) hn
theorem asc_num {n : Nat} (h : n < 1000) : Asc (num (n : Int)) ∧ (num (n : Int)).length ≤ 6 := by
  obtain ⟨w1, w2, w3⟩ := num_wd (i := (n : Int)) (by omega) (by omega)
  exact ⟨Wsg.asc w1, w2⟩
theorem asc_app {a b : Str} (ha : Asc a) (hb : Asc b) : Asc (a ++ b) := fun c hc => by
  rw [tl_app] at hc
  rcases List.mem_append.mp hc with q | q
  · exact ha c q
  · exact hb c q
theorem deed_put_lst {h : Str} (hh : HandT h) {puts : Nat} (hp : puts ≤ 50) (p : T5 Str Str Str Int Str) : m_is_deed (.tup [.str ("put" : Str), .str (h ++ num ((puts + 1 : Nat) : Int)), .lst [.str p.a, .str p.b, .str p.c, .int p.d, .str p.e]]) = .ok false := by
  have lh := hh.2
  obtain ⟨w1, w2, w3⟩ := num_wd (i := ((puts + 1 : Nat) : Int)) (by omega) (by omega)
  have : isWord (h ++ num ((puts + 1 : Nat) : Int)) = true := isWord_iff.mpr ⟨hh.wsg.app w1, by rw [len_app]; omega, by
    rw [len_app]
    have : (num ((puts + 1 : Nat) : Int)).length ≤ 6 := w2
    omega⟩
  exact deed_put1 (word_true this) (parts_no rfl)
theorem odds {ρ : Type} {P : ρ → Prop} {f : Any × T3 Int Script Int → R ρ} (st : T3 Int Script Int) {h : Str} {puts : Nat} (hh : HandT h) (hp : puts ≤ 50)
    (k : ∀ x st', BadD h puts x → Ok (f (x, st')) P) : Ok ((m_law_odd st h (puts : Int)).bind f) P := by
  have lh := hh.2
  have e1 : ("1" : Str).length = 1 := by decide
  have e0 : ("0" : Str).length = 1 := by decide
  have ex : ("x" : Str).length = 1 := by decide
  have a1 : Asc ("1" : Str) := Asc.lit (by decide +kernel)
  have a0 : Asc ("0" : Str) := Asc.lit (by decide +kernel)
  have ax : Asc ("x" : Str) := Asc.lit (by decide +kernel)
  have c0 : (puts : Int) = ((puts : Nat) : Int) := rfl
  have c1 : (puts : Int) + 1 = ((puts + 1 : Nat) : Int) := by omega
  have c2 : (puts : Int) + 2 = ((puts + 2 : Nat) : Int) := by omega
  obtain ⟨n0, m0⟩ := asc_num (n := puts) (by omega)
  obtain ⟨n1, m1⟩ := asc_num (n := puts + 1) (by omega)
  obtain ⟨n2, m2⟩ := asc_num (n := puts + 2) (by omega)
  have hand1 : isWord (h ++ ("1" : Str)) = true := isWord_iff.mpr ⟨hh.wsg.app (Wsg.lit (by decide +kernel)), by rw [len_app]; omega, by rw [len_app]; omega⟩
  have main : Ok (m_law_odd st h (puts : Int)) fun r => BadD h puts r.1 := by
    unfold m_law_odd
    refine prts st fun p s1 G hb hc => ?_
    rw [c1, c2]
    have f0 : ∀ n : Nat, n ≤ 60 → (((n : Nat) : Int).natAbs.log2 < 1920) := fun n hn => log2_small (by omega) (by omega)
    have l0 : h.length + (num ((puts : Nat) : Int)).length ≤ sizeLine := le_line (by omega)
    have l1 : h.length + (num ((puts + 1 : Nat) : Int)).length ≤ sizeLine := le_line (by omega)
    have l2 : h.length + (num ((puts + 2 : Nat) : Int)).length ≤ sizeLine := le_line (by omega)
    have l3 : (h ++ ("0" : Str)).length + (num ((puts + 1 : Nat) : Int)).length ≤ sizeLine := le_line (by rw [len_app]; omega)
    have l4 : (h ++ ("1" : Str)).length + (num ((puts + 1 : Nat) : Int)).length ≤ sizeLine := le_line (by rw [len_app]; omega)
    refine .need (f0 _ (by omega)) (.need l2 (.need (f0 _ (by omega)) (.need l0 (.need (le_line (by omega)) (.name fun y49 h49 => ?_)))))
    refine .need (le_line (by omega)) (.need (f0 _ (by omega)) (.need l3 (.need (f0 _ (by omega)) (.need l1 (.need (by rw [h49]; show 5 ≤ sizeLine; exact le_line (by decide)) (.name fun y86 h86 => ?_))))))
    refine .need (le_line (by omega)) (.need (le_line (by omega)) (.need (le_line (by omega)) (.need (by rw [h86, h49]; show 10 ≤ sizeLine; exact le_line (by decide)) (.name fun y101 h101 => ?_))))
    refine .need (le_line (by omega)) (.need (f0 _ (by omega)) (.need l4 ?_))
    rw [← c1]
    refine deeds s1 (by simp) (by simp) hh (by omega) (by omega) fun d s2 gd => nodeeds s2 gd fun x s3 hx => ?_
    rw [c1]
    refine .need (by rw [h101, h86, h49]; show 12 ≤ sizeLine; exact le_line (by decide)) (.name fun y128 h128 => ?_)
    refine nxt _ fun x1 s4 g1 => nxt _ fun x2 s5 g2 => .idx (Int.emod_nonneg _ (by decide)) (Int.emod_lt_of_pos _ (by decide)) fun i hi _ => ?_
    have hi0 : 0 ≤ i ∧ i < 12 := by
      have := Int.emod_nonneg x1 (show (11 : Int) ≠ 0 by decide)
      have := Int.emod_lt_of_pos x1 (show (0 : Int) < 11 by decide)
      simp only [List.mem_cons, List.not_mem_nil, or_false] at hi
      rcases hi with rfl | rfl <;> omega
    have ly : y128.length = 12 := by rw [h128, h101, h86, h49]; rfl
    refine .idx hi0.1 (by rw [ly]; exact hi0.2) fun y hy _ => .ret ?_
    rw [h128, h101, h86, h49] at hy
    simp only [List.cons_append, List.nil_append, List.mem_cons, List.not_mem_nil, or_false] at hy
    have put : ∀ n : Str, Asc n → n.length ≤ 100 → n ≠ h ++ num ((puts : Int) + 1) → BadD h puts (.tup [.str ("put" : Str), .str n, .tup [.str p.a, .str p.b, .str p.c, .int p.d, .str p.e]]) := fun n q1 q2 q3 => .inr ⟨n, _, _, _, _, _, rfl, G, q1, q2, q3⟩
    have word1 : m_is_word (.str (h ++ ("1" : Str))) = .ok true := word_true hand1
    rcases hy with rfl | rfl | rfl | rfl | rfl | rfl | rfl | rfl | rfl | rfl | rfl | rfl
    · refine put (h ++ num ((puts + 2 : Nat) : Int)) (asc_app hh.asc n2) (by rw [len_app]; omega) fun q => ?_
      rw [c1] at q
      have := num_inj (by omega) (by omega) (app_inj q)
      omega
    · refine put (h ++ num ((puts : Nat) : Int)) (asc_app hh.asc n0) (by rw [len_app]; omega) fun q => ?_
      rw [c1] at q
      have := num_inj (by omega) (by omega) (app_inj q)
      omega
    · refine put (("x" : Str) ++ h) (asc_app ax hh.asc) (by rw [len_app]; omega) fun q => ?_
      rw [c1] at q
      obtain ⟨c, hc, nc⟩ := List.any_eq_true.mp (num_tab (puts + 1) (by omega)).2
      have : c ∈ (("x" : Str) ++ h).cps.toList := by rw [q, tl_app]; exact List.mem_append_right _ hc
      rw [tl_app] at this
      have sc : small c = true := by
        rcases List.mem_append.mp this with z | z
        · have hx : ("x" : Str).cps.toList.all small = true := by decide +kernel
          exact List.all_eq_true.mp hx c z
        · exact hh.small c z
      rw [sc] at nc
      cases nc
    · refine put ((h ++ ("0" : Str)) ++ num ((puts + 1 : Nat) : Int)) (asc_app (asc_app hh.asc a0) n1) (by rw [len_app, len_app]; omega) fun q => ?_
      have := congrArg Str.length q
      rw [c1, len_app, len_app, len_app] at this
      omega
    · exact .inl (deed_put_lst hh hp p)
    · exact .inl (deed_placeN word1 (by simp))
    · refine .inl ?_
      rw [deed_mark1 word1 (word_true (by decide +kernel))]; rfl
    · exact .inl rfl
    · exact .inl rfl
    · refine .inl (deed_word ?_)
      rw [is_word_str (by decide)]; decide +kernel
    · refine put ((h ++ ("1" : Str)) ++ num ((puts + 1 : Nat) : Int)) (asc_app (asc_app hh.asc a1) n1) (by rw [len_app, len_app]; omega) fun q => ?_
      have := congrArg Str.length q
      rw [c1, len_app, len_app, len_app] at this
      omega
    · exact .inl hx
  exact .bind main fun r hr => k r.1 r.2 hr
theorem alone5 : m_law_alone ⟨5, 0⟩ 2 = .ok true := by
  unfold m_law_alone
  rw [R.bind_ok, R.need_pos (by decide), R.bind_ok]
  rfl
theorem alone4 : m_law_alone ⟨4, 0⟩ 1 = .ok true := by
  unfold m_law_alone
  rw [R.bind_ok, R.need_pos (by decide), R.bind_ok]
  rfl
theorem refused1 {h : Str} {L : Ledger} {M : List Stm} (r : LR h L M) (hh : HandT h) (hl : M.length ≤ 60) {x : Any} (b : BadD h (pn M) x) : m_law_refused L x = .ok (true, L) := by
  unfold m_law_refused
  rw [bad_refused r hh hl b]
  show catchR _ _ _ _ _ = _
  unfold catchR
  rw [if_pos (by decide), if_pos (by decide), alone5]
  rfl
theorem done1 {h : Str} {L : Ledger} {M : List Stm} (r : LR h L M) (hh : HandT h) (hl : M.length ≤ 60) {d : Any} (g : Good d) (hp : ∀ n, putN d = some n → n = h ++ num ((pn M : Int) + 1)) :
    m_law_done L d = .ok (t4A (nst h M.length d), ⟨h, kp1 h (M ++ [nst h M.length d])⟩) := by
  have lh := hh.2
  unfold m_law_done
  rw [do1 r g (by omega) hh.asc (by omega) hp]
  rfl
theorem no_hand_ok {x : Any} (h : m_is_hand x = .ok false) : m_law_no_hand x = .ok true := by
  have e : m_Ledger___init__ x = .exc ⟨4, 0⟩ := by
    unfold m_Ledger___init__
    rw [h]; rfl
  unfold m_law_no_hand
  rw [e]
  show catchR _ _ _ _ _ = _
  unfold catchR
  rw [if_pos (by decide), if_pos (by decide), alone4]
  rfl
theorem init_ok {h : Str} (hh : HandT h) : m_Ledger___init__ (.str h) = .ok ⟨h, []⟩ := by
  unfold m_Ledger___init__
  rw [hand_yes hh]; rfl
theorem dEq_self1 (h : Str) (n : Int) : dEq [(h, n)] [(h, n)] = true := by
  unfold dEq dget
  simp
theorem dEq_kp (h : Str) (M : List Stm) : dEq (if M = [] then [] else [(h, (M.length : Int))]) (if M = [] then [] else [(h, (M.length : Int))]) = true := by
  by_cases c : M = []
  · rw [if_pos c]; rfl
  · rw [if_neg c]; exact dEq_self1 _ _
theorem eqDc_ok {xs ys : List (Str × Int)} (h : dEq xs ys = true) : eqDc xs ys = .ok true := by
  unfold eqDc
  rw [if_pos h]
theorem LR.lay {h : Str} {L : Ledger} {M : List Stm} (r : LR h L M) (hh : HandT h) : ∀ x, x ∈ M → Good x.d ∧ Asc x.b := fun x hx => ⟨r.rw1.good x hx, by rw [r.rw1.hand x hx]; exact hh.asc⟩
theorem merge1 (h : Str) (n : Int) : mergeD [] ([(h, n)] : List (Str × Int)) = [(h, n)] := rfl
theorem looked1 {h : Str} {L : Ledger} {M : List Stm} (r : LR h L M) (hh : HandT h) (hl : M.length ≤ 60) (way : Int) : m_law_looked L M way = .ok true := by
  have e0 := l4_nil (r.lay hh)
  have eh : L.hand = h := by rw [r.eq]
  refine Ok.eq ?_
  unfold m_law_looked
  refine .bindE e0 (.bind (Q := fun s => s = if M = [] then [] else [(h, (M.length : Int))]) (.ite (fun c => .lets (.ret ?_)) fun c => .ret ?_) fun s hs => ?_)
  · rw [merge1, eh, if_neg (by simpa using c)]
  · rw [if_pos (by simpa using c)]
  · subst hs
    refine .bind (Q := fun b => b = false) (.ite (fun _ => .bindE (have1 r) (.bindE (eqDc_ok (dEq_kp h M)) (.ret rfl))) fun _ => .ret rfl) fun b hb => ?_
    subst hb
    refine .ifF (by decide) (.bindE (told1 r (by omega)) (.bindE ((l4_lay (r.lay hh)).self (by decide)) (.bind (Q := fun b => b = true) (.ifT rfl (.bindE (have1 r) (.bindE (eqDc_ok (dEq_kp h M)) (.ret rfl)))) fun b hb => .ret hb)))
structure HI (H : List Str) (Ls : List Ledger) (Ms : List (List Stm)) (n : Nat) : Prop where
  ll : Ls.length = 2
  lm : Ms.length = 2
  lr : ∀ (k : Nat) (h : Str), H[k]? = some h → ∃ L M, Ls[k]? = some L ∧ Ms[k]? = some M ∧ LR h L M ∧ M.length ≤ n
def HdOk (x : Hd) : Prop := sameHd x = .ok ()
theorem hd_ls_ok {h : Str} {L : Ledger} {M : List Stm} (r : LR h L M) (hh : HandT h) : HdOk (.ls M M) := by
  show ((eqA (l4A M) (l4A M)).bind _) = _
  rw [(l4_lay (r.lay hh)).self (by decide)]; rfl
theorem hd_dc_ok {xs ys : List (Str × Int)} (h : dEq xs ys = true) : HdOk (.dc xs ys) := by
  show ((eqDc xs ys).bind _) = _
  rw [eqDc_ok h]; rfl
theorem ixJB {α ρ : Type} {P : ρ → Prop} {xs : List α} {i : Int} {x : α} {f : Nat → α → R ρ} (h : 0 ≤ i) (e : xs[i.toNat]? = some x) (k : Ok (f i.toNat x) P) : Ok (bind2 (ixJ xs i) f) P := by
  have hl : i.toNat < xs.length := (List.getElem?_eq_some_iff.mp e).1
  have e1 : ixN xs.length i = some i.toNat := by
    unfold ixN
    rw [if_pos h, if_pos (by omega)]
  have e2 : ixJ xs i = .ok (i.toNat, x) := by
    unfold ixJ
    rw [e1]
    dsimp only
    rw [e]
  unfold bind2
  rw [e2]
  exact k
theorem HI.step {H : List Str} {Ls : List Ledger} {Ms : List (List Stm)} {n j : Nat} {h : Str} {L : Ledger} {M : List Stm} (hi : HI H Ls Ms n) (lH : H.length = 2) (eh : H[j]? = some h) (eL : Ls[j]? = some L) (eM : Ms[j]? = some M) (r : LR h L M) (hM : M.length ≤ n) {d : Any} (g : Good d) :
    HI H (Ls.set j ⟨h, kp1 h (M ++ [nst h M.length d])⟩) (Ms.set j (M ++ [nst h M.length d])) (n + 1) := by
  have hj : j < 2 := by have := (List.getElem?_eq_some_iff.mp eh).1; omega
  refine ⟨by rw [List.length_set]; exact hi.ll, by rw [List.length_set]; exact hi.lm, fun k h' ek => ?_⟩
  have hk : k < 2 := by have := (List.getElem?_eq_some_iff.mp ek).1; omega
  by_cases c : j = k
  · subst c
    rw [eh] at ek
    cases ek
    exact ⟨_, _, List.getElem?_set_self (by rw [hi.ll]; exact hj), List.getElem?_set_self (by rw [hi.lm]; exact hj), r.step g, by rw [List.length_append]; simp; omega⟩
  · obtain ⟨L', M', e1, e2, r', l'⟩ := hi.lr k h' ek
    exact ⟨L', M', by rw [List.getElem?_set_ne c]; exact e1, by rw [List.getElem?_set_ne c]; exact e2, r', by omega⟩
theorem putN_deed {st : T3 Int Script Int} {h : Str} (hh : HandT h) {puts : Nat} (hp : puts ≤ 60) : Ok (m_law_deed st ([] : List Str) h (puts : Int)) fun r => Good r.1 ∧ ∀ n, putN r.1 = some n → n = h ++ num ((puts : Int) + 1) := by
  unfold m_law_deed
  have lh := hh.2
  have e1 : ("1" : Str).length = 1 := by decide
  obtain ⟨n1, n2, n3⟩ := num_wd (i := (puts : Int) + 1) (by omega) (by omega)
  have hand1 : isWord (h ++ ("1" : Str)) = true := isWord_iff.mpr ⟨hh.wsg.app (Wsg.lit (by decide +kernel)), by rw [len_app]; omega, by rw [len_app]; omega⟩
  have np : ∀ {k n : Str} {r : List Any}, k ≠ ("put" : Str) → putN (.tup (.str k :: .str n :: r)) = none := fun {k n r} hk => by
    show (if k = ("put" : Str) then some n else none) = none
    rw [if_neg hk]
  have q4 := lits4
  refine nxt _ fun x1 s1 hx1 => .lets (.ite (fun _ => ?_) fun _ => ?_)
  · exact .need (log2_small (by omega) (by omega)) (.need (le_line (by omega)) (prts _ fun p s2 G hb hc => .ret ⟨.put _ (isWord_iff.mpr ⟨hh.wsg.app n1, by rw [len_app]; omega, by rw [len_app]; omega⟩) G hb hc, fun n hn => by
      have hn : (if ("put" : Str) = ("put" : Str) then some (h ++ num ((puts : Int) + 1)) else none) = some n := hn
      rw [if_pos rfl] at hn
      exact (Option.some.inj hn).symm⟩))
  · refine awd _ fun w s2 hw => .need (le_line (by rw [e1]; omega)) (.need (le_line (by simp only [List.length_cons, List.length_nil]; omega)) (nxt _ fun x2 s3 hx2 => .need (by omega) ?_))
    refine .idx (Int.emod_nonneg _ (by omega)) (by rw [List.length_append]; simp only [List.length_cons, List.length_nil]; exact Int.emod_lt_of_pos _ (by omega)) fun n hn1 _ => nxt _ fun x3 s4 hx3 => .idx (Int.emod_nonneg _ (by decide)) (Int.emod_lt_of_pos _ (by decide)) fun m hm _ => ?_
    have hnw : isWord n = true := by
      rcases List.mem_append.mp hn1 with h | h
      · cases h
      · rw [List.mem_singleton.mp h]; exact hand1
    have hmw : isWord m = true := by
      simp only [List.mem_cons, List.not_mem_nil, or_false] at hm
      rcases hm with rfl | rfl
      · exact hw
      · exact hnw
    refine .ite (fun _ => awd _ fun v s5 hv => .ret ⟨.place _ _ hmw hv, fun n hn => ?_⟩) fun _ => .ite (fun _ => awd _ fun v s5 hv => nxt _ fun x4 s6 _ => .ret ⟨.mark _ _ _ hmw hv, fun n hn => ?_⟩) fun _ => .ret ⟨.drop _ hmw, fun n hn => ?_⟩
    · rw [np q4.2.2.1] at hn; cases hn
    · rw [np q4.2.2.2.2.1] at hn; cases hn
    · rw [np (fun e => q4.1 e.symm)] at hn; cases hn
structure I42 (H : List Str) (n : Nat) (s : (T3 Int Script Int) × (List Ledger) × (List (List Stm)) × (List Hd)) : Prop where
  hi : HI H s.2.1 s.2.2.1 n
  hd : ∀ x, x ∈ s.2.2.2 → HdOk x
  hl : s.2.2.2.length ≤ 2 * n
theorem law_ok (s : Script) (hs : s.ns.length ≤ 63) : m_law s = .ok true := by
  refine Ok.eq ?_
  unfold m_law
  refine .bindE rfl (hands2 _ fun H st1 lH hH => ?_)
  have h0 : ∃ a, H[0]? = some a := ⟨_, List.getElem?_eq_getElem (show 0 < H.length by omega)⟩
  have h1 : ∃ a, H[1]? = some a := ⟨_, List.getElem?_eq_getElem (show 1 < H.length by omega)⟩
  obtain ⟨a, ea⟩ := h0
  obtain ⟨b, eb⟩ := h1
  have ha := hH a (List.mem_of_getElem? ea)
  have hb := hH b (List.mem_of_getElem? eb)
  dsimp only
  refine .bindE (idxR_ok (by decide) ea) (.bindE (init_ok ha) (.bindE (idxR_ok (by decide) eb) (.bindE (init_ok hb) (.lets (.lets ?_)))))
  have lc : (cutL s.ns none (some (30 : Int))).length ≤ 30 := by rw [cutL_to (by decide), List.length_take]; exact Nat.min_le_left _ _
  refine .forFI (fun p s => I42 H p.length s) ⟨⟨rfl, rfl, fun k h ek => ?_⟩, (fun x hx => by cases hx), Nat.zero_le _⟩ (fun p x q s ep I => ?_) fun s I => ?_
  · have hk : k < 2 := by have := (List.getElem?_eq_some_iff.mp ek).1; omega
    have base : ∀ h : Str, LR h ⟨h, []⟩ [] := fun h => ⟨rfl, RW1.nil⟩
    rcases (show k = 0 ∨ k = 1 by omega) with rfl | rfl
    · rw [ea] at ek; cases ek
      exact ⟨_, _, rfl, rfl, base _, Nat.le_refl _⟩
    · rw [eb] at ek; cases ek
      exact ⟨_, _, rfl, rfl, base _, Nat.le_refl _⟩
  · have lp : p.length < 30 := by have := pre_lt ep; omega
    refine nxt _ fun x1 s2 g1 => .name fun k hk => ?_
    have k0 : 0 ≤ k ∧ k < 2 := by rw [hk]; exact ⟨Int.emod_nonneg _ (by decide), Int.emod_lt_of_pos _ (by decide)⟩
    have kn : k.toNat < 2 := by omega
    obtain ⟨h, eh⟩ : ∃ h, H[k.toNat]? = some h := ⟨_, List.getElem?_eq_getElem (show k.toNat < H.length by omega)⟩
    have hh := hH h (List.mem_of_getElem? eh)
    have ih : idxR H k = .ok h := idxR_ok k0.1 eh
    obtain ⟨L, M, eL, eM, r, lM⟩ := I.hi.lr _ _ eh
    refine ixJB k0.1 eM (.need (le_line (by omega)) (puts_comp r.rw1.good (.name fun y hy => ?_)))
    have hy : y = (pn M : Int) := hy
    have lpn := pn_le M
    subst hy
    refine nxt _ fun x2 s3 g2 => .bind2 (Z := fun z => z.1.1 = s.2.1 ∧ z.2 = false) (.ite (fun _ => ?_) fun _ => .ret ⟨rfl, rfl⟩) fun z b hz => ?_
    · refine ixJB k0.1 eL (.bindE ih (odds _ hh (by omega) fun x st' bx => .bindE (refused1 r hh (by omega) bx) (.ret ⟨?_, rfl⟩)))
      have : L = s.2.1[k.toNat]'(by rw [I.hi.ll]; exact kn) := (List.getElem?_eq_some_iff.mp eL).2.symm
      rw [this]; exact List.set_getElem_self _
    · obtain ⟨z1, z2⟩ := hz
      dsimp only at z1 z2
      subst z2
      refine .ifF (by decide) (.bindE ih (.bind (putN_deed hh (by omega)) fun rd hd => ?_))
      obtain ⟨gd, nd⟩ := hd
      rw [z1]
      refine ixJB k0.1 eL (.bindE (done1 r hh (by omega) gd nd) (ixJB k0.1 eM (.bindE ih (ixJB k0.1 eM ?_))))
      have HI2 := I.hi.step lH eh eL eM r lM gd
      have sl : Lo 4 (t4A (nst h M.length rd.1)) := stm_lay gd hh.asc
      refine .bind (Q := fun b => b = false) ?_ fun b hb => ?_
      · exact .ifF (show ¬ (!true) = true by decide) (.bindE (show eqA (t4A (nst h M.length rd.1)) (t4A (nst h M.length rd.1)) = .ok true from sl.self (by decide)) (.bind (Q := fun b => b = false) (.ifF (by decide) (tupB (ixB (by decide) rfl (.ret rfl)))) fun b hb => .ret hb))
      · subst hb
        refine .ifF (by decide) (ixJB k0.1 eM (.need (lt_line (m := 60) (by omega) (by decide)) (.forFK (fun _ => True) True.intro (fun j st _ _ => ?_) fun st _ => ?_)))
        · rename_i hjm _
          have hj : j = k ∨ j = 1 - k := by
            simp only [List.mem_cons, List.not_mem_nil, or_false] at hjm
            exact hjm
          have j0 : 0 ≤ j ∧ j < 2 := by rcases hj with rfl | rfl <;> omega
          obtain ⟨h', eh'⟩ : ∃ h, H[j.toNat]? = some h := ⟨_, List.getElem?_eq_getElem (show j.toNat < H.length by omega)⟩
          obtain ⟨L', M', eL', eM', r', lM'⟩ := HI2.lr _ _ eh'
          refine ixJB j0.1 eL' (ixJB j0.1 eM' (nxt _ fun x3 s4 g3 => .bindE (looked1 r' (hH h' (List.mem_of_getElem? eh')) (by omega) _) (.ifF (by decide) (.ret ⟨_, rfl, True.intro⟩))))
        · have eL' : (s.2.1.set k.toNat ⟨h, kp1 h (M ++ [nst h M.length rd.1])⟩)[k.toNat]? = some ⟨h, kp1 h (M ++ [nst h M.length rd.1])⟩ := List.getElem?_set_self (by rw [I.hi.ll]; exact kn)
          have eM' : (s.2.2.1.set k.toNat (M ++ [nst h M.length rd.1]))[k.toNat]? = some (M ++ [nst h M.length rd.1]) := List.getElem?_set_self (by rw [I.hi.lm]; exact kn)
          have r' := r.step gd
          have ne : M ++ [nst h M.length rd.1] ≠ [] := by simp
          have lM' : (M ++ [nst h M.length rd.1]).length ≤ 40 := by rw [List.length_append]; simp; omega
          have hl := I.hl
          rw [contF]
          dsimp only
          refine ixJB k0.1 eL' (.bindE (told1 r' (by omega)) (ixJB k0.1 eM' (.need (lt_line (m := 60) (by omega) (by decide)) (ixJB k0.1 eL' (.bindE (have1 r') (.bindE ih (ixJB k0.1 eM' (.need ?_ (.ret ⟨_, rfl, ⟨?_, fun z hz => ?_, ?_⟩⟩)))))))))
          · rw [List.length_append]; exact lt_line (m := 70) (by simp; omega) (by decide)
          · have : (p ++ [x]).length = p.length + 1 := by simp
            rw [this]; exact HI2
          · rcases List.mem_append.mp hz with q | q
            · rcases List.mem_append.mp q with q | q
              · exact I.hd z q
              · rw [List.mem_singleton.mp q]; exact hd_ls_ok r' hh
            · rw [List.mem_singleton.mp q]
              refine hd_dc_ok ?_
              rw [if_neg ne, merge1]
              exact dEq_self1 _ _
          · rw [List.length_append, List.length_append, List.length_append]; simp; omega
  · have I : I42 H _ s := I
    obtain ⟨L0, M0, eL0, eM0, r0, l0⟩ := I.hi.lr 0 a ea
    have e : compR (fun (_ : Unit) (x211 : Hd) => (sameHd x211).bind fun _ => if false = true then (R.bad : R (Unit × Option Str)) else R.ok ((), none)) s.2.2.2 () = .ok ((), []) := compR_none fun x hx => by
      rw [show sameHd x = .ok () from I.hd x hx]; rfl
    show Ok (R.need _ _) _
    refine .need (le_line (by have := I.hl; omega)) (.bindE e (.need rfl (.need rfl (.bind (Q := fun b => b = false) (.ifF (by decide) (ixJB (by decide) eL0 (.bindE (idxR_ok (by decide) ea) (.ret ?_)))) fun b hb => ?_))))
    · have : L0.hand = a := by rw [r0.eq]
      rw [this]; simp
    · subst hb
      have la := ha.2
      have lb := hb.2
      refine .ifF (by decide) (.bindE (idxR_ok (by decide) ea) (.need ⟨le_line (by show a.length * 9 ≤ _; omega), by decide⟩ (.bindE (idxR_ok (by decide) eb) (.need (le_line (by show b.length + 1 ≤ _; omega)) (nxt _ fun x3 s4 g3 => .idx (Int.emod_nonneg _ (by decide)) (Int.emod_lt_of_pos _ (by decide)) fun x hx _ => .bindE (no_hand_ok ?_) (.ret rfl))))))
      simp only [List.mem_cons, List.not_mem_nil, or_false] at hx
      rcases hx with rfl | rfl | rfl | rfl | rfl | rfl
      · exact hand_empty
      · have l9 : (repS a (9 : Int).toNat).length = 9 * a.length := by
          rw [rep_len]; show a.length * 9 = _; omega
        exact hand_len (by omega) (by omega)
      · exact hand_sign (c := 49) (by rw [len_app]; show b.length + 1 ≤ _; omega) (by rw [tl_app]; exact List.mem_append_right _ (by decide +kernel)) (by decide +kernel)
      · exact hand_sign (c := 65) (by decide) (by decide +kernel) (by decide +kernel)
      · exact hand_no rfl
      · exact hand_sign (c := 32) (by decide) (by decide +kernel) (by decide +kernel)
end Lw
namespace Lw
open PySem PySem.Spec PyProof.Rows L2 Ml
instance imLetterI {G : Gx} : Im G Letter := ⟨fun H v x => ∃ a dx, v = .ref a ∧ G.fz (G.cl 7) = some 5 ∧ H a = some (.ins (G.cl 7) dx [("sender", (.str (x.sender))), ("title", (.str (x.title))), ("body", (.str (x.body))), ("day", (.int (x.day))), ("answers", (.str (x.answers)))]),
  fun ⟨a, dx, e, z, h⟩ s => ⟨a, dx, e, z, s.1 a _ h (by show decide (G.fz (G.cl 7) = some 5) = true; rw [z]; rfl)⟩⟩
instance {G : Gx} : IsRef G Letter := ⟨fun h => by obtain ⟨a, _, e, _⟩ := h; exact ⟨a, e⟩⟩
theorem mk_Letter {G : Gx} {H : Hp} {a dx : Addr} {f_sender : Str} {f_title : Str} {f_body : Str} {f_day : Int} {f_answers : Str} (z : G.fz (G.cl 7) = some 5) (h : H a = some (.ins (G.cl 7) dx [("sender", (.str (f_sender))), ("title", (.str (f_title))), ("body", (.str (f_body))), ("day", (.int (f_day))), ("answers", (.str (f_answers)))])) : Im.im G H (.ref a) (⟨f_sender, f_title, f_body, f_day, f_answers⟩ : Letter) := ⟨a, dx, rfl, z, h⟩
def LedgerA {G : Gx} (a : Addr) (x : Ledger) : Asn G := exA fun (dx : Addr) => exA fun (p_kept : Addr) => star [cell a (.ins (G.cl 8) dx [("hand", (.str (x.hand))), ("kept", .ref p_kept)]), dictE lstA p_kept (x.kept : (List (Str × (List (T4 Int Str Int Any)))))]
theorem open_Ledger {G : Gx} {H : Hp} {a : Addr} {x : Ledger} {M : List (Asn G)} (h : Sep H (LedgerA a x :: M)) : ∃ (dx : Addr) (p_kept : Addr), Sep H ([cell a (.ins (G.cl 8) dx [("hand", (.str (x.hand))), ("kept", .ref p_kept)]), dictE lstA p_kept (x.kept : (List (Str × (List (T4 Int Str Int Any)))))] ++ M : List (Asn G)) := by
  unfold LedgerA at h
  obtain ⟨dx, h⟩ := Sep.ex h
  obtain ⟨p_kept, h⟩ := Sep.ex h
  exact ⟨dx, p_kept, Sep.star1 h⟩
theorem ins_Ledger {G : Gx} {H : Hp} {L : List (Asn G)} {i : Nat} {a : Addr} {x : Ledger} (h : Sep H L) (e : L[i]? = some (LedgerA a x)) : ∃ (dx : Addr) (p_kept : Addr), H a = some (.ins (G.cl 8) dx [("hand", (.str (x.hand))), ("kept", .ref p_kept)]) := by
  obtain ⟨fp, dx, p_kept, f1, f2, _, ⟨_, hO⟩, _⟩ := h.at e
  exact ⟨dx, p_kept, hO⟩
theorem pack_Ledger {G : Gx} {H : Hp} {a : Addr} {x : Ledger} {M : List (Asn G)} {dx : Addr} {p_kept : Addr} (h : Sep H ([cell a (.ins (G.cl 8) dx [("hand", (.str (x.hand))), ("kept", .ref p_kept)]), dictE lstA p_kept (x.kept : (List (Str × (List (T4 Int Str Int Any)))))] ++ M : List (Asn G))) : Sep H (LedgerA a x :: M) := Sep.exI dx (Sep.exI p_kept (Sep.unstar1 h))
structure Txt (G : Gx) (mg : Str → Option Value) where
  a_is_sign : Addr
  fd_is_sign : FuncData
  F_is_sign : Fun G.K "is_sign" "is_sign" s_is_sign a_is_sign fd_is_sign
  b_is_sign : Binds G.K fd_is_sign ["sign"] []
  kp_is_sign : PySem.W.keepIn G.K (.ref a_is_sign) = true
  g_is_sign : mg "is_sign" = some (.ref a_is_sign)
  a_is_word : Addr
  fd_is_word : FuncData
  F_is_word : Fun G.K "is_word" "is_word" s_is_word a_is_word fd_is_word
  b_is_word : Binds G.K fd_is_word ["thing"] []
  kp_is_word : PySem.W.keepIn G.K (.ref a_is_word) = true
  g_is_word : mg "is_word" = some (.ref a_is_word)
  a_words_of : Addr
  fd_words_of : FuncData
  F_words_of : Fun G.K "words_of" "words_of" s_words_of a_words_of fd_words_of
  b_words_of : Binds G.K fd_words_of ["text"] []
  kp_words_of : PySem.W.keepIn G.K (.ref a_words_of) = true
  g_words_of : mg "words_of" = some (.ref a_words_of)
  a_each_once : Addr
  fd_each_once : FuncData
  F_each_once : Fun G.K "each_once" "each_once" s_each_once a_each_once fd_each_once
  b_each_once : Binds G.K fd_each_once ["row"] []
  kp_each_once : PySem.W.keepIn G.K (.ref a_each_once) = true
  g_each_once : mg "each_once" = some (.ref a_each_once)
  a_is_text : Addr
  fd_is_text : FuncData
  F_is_text : Fun G.K "is_text" "is_text" s_is_text a_is_text fd_is_text
  b_is_text : Binds G.K fd_is_text ["thing", "most"] []
  kp_is_text : PySem.W.keepIn G.K (.ref a_is_text) = true
  g_is_text : mg "is_text" = some (.ref a_is_text)
  a_is_day : Addr
  fd_is_day : FuncData
  F_is_day : Fun G.K "is_day" "is_day" s_is_day a_is_day fd_is_day
  b_is_day : Binds G.K fd_is_day ["thing"] []
  kp_is_day : PySem.W.keepIn G.K (.ref a_is_day) = true
  g_is_day : mg "is_day" = some (.ref a_is_day)
  a_Letter___init__ : Addr
  fd_Letter___init__ : FuncData
  F_Letter___init__ : FunD G.K "__init__" "Letter.__init__" (defArgs s_Letter___init__) (defBody s_Letter___init__) (defScope s_Letter___init__) [.str ("" : Str)] [] a_Letter___init__ fd_Letter___init__
  b_Letter___init__ : Binds G.K fd_Letter___init__ ["self", "sender", "title", "body", "day", "answers"] []
  kp_Letter___init__ : PySem.W.keepIn G.K (.ref a_Letter___init__) = true
  k_Letter : Mk G.K (G.cl 7) a_Letter___init__
  a_Letter_parts : Addr
  fd_Letter_parts : FuncData
  F_Letter_parts : Fun G.K "parts" "Letter.parts" s_Letter_parts a_Letter_parts fd_Letter_parts
  b_Letter_parts : Binds G.K fd_Letter_parts ["self"] []
  kp_Letter_parts : PySem.W.keepIn G.K (.ref a_Letter_parts) = true
  m_Letter_parts : Meth G.K (G.cl 7) "parts" a_Letter_parts
  a_Letter_words : Addr
  fd_Letter_words : FuncData
  F_Letter_words : Fun G.K "words" "Letter.words" s_Letter_words a_Letter_words fd_Letter_words
  b_Letter_words : Binds G.K fd_Letter_words ["self"] []
  kp_Letter_words : PySem.W.keepIn G.K (.ref a_Letter_words) = true
  m_Letter_words : Meth G.K (G.cl 7) "words" a_Letter_words
  a_letter_of : Addr
  fd_letter_of : FuncData
  F_letter_of : Fun G.K "letter_of" "letter_of" s_letter_of a_letter_of fd_letter_of
  b_letter_of : Binds G.K fd_letter_of ["thing"] []
  kp_letter_of : PySem.W.keepIn G.K (.ref a_letter_of) = true
  g_letter_of : mg "letter_of" = some (.ref a_letter_of)
  a_is_hand : Addr
  fd_is_hand : FuncData
  F_is_hand : Fun G.K "is_hand" "is_hand" s_is_hand a_is_hand fd_is_hand
  b_is_hand : Binds G.K fd_is_hand ["thing"] []
  kp_is_hand : PySem.W.keepIn G.K (.ref a_is_hand) = true
  g_is_hand : mg "is_hand" = some (.ref a_is_hand)
  a_is_parts : Addr
  fd_is_parts : FuncData
  F_is_parts : Fun G.K "is_parts" "is_parts" s_is_parts a_is_parts fd_is_parts
  b_is_parts : Binds G.K fd_is_parts ["thing"] []
  kp_is_parts : PySem.W.keepIn G.K (.ref a_is_parts) = true
  g_is_parts : mg "is_parts" = some (.ref a_is_parts)
  a_is_deed : Addr
  fd_is_deed : FuncData
  F_is_deed : Fun G.K "is_deed" "is_deed" s_is_deed a_is_deed fd_is_deed
  b_is_deed : Binds G.K fd_is_deed ["thing"] []
  kp_is_deed : PySem.W.keepIn G.K (.ref a_is_deed) = true
  g_is_deed : mg "is_deed" = some (.ref a_is_deed)
  a_stamp_of : Addr
  fd_stamp_of : FuncData
  F_stamp_of : Fun G.K "stamp_of" "stamp_of" s_stamp_of a_stamp_of fd_stamp_of
  b_stamp_of : Binds G.K fd_stamp_of ["stamped"] []
  kp_stamp_of : PySem.W.keepIn G.K (.ref a_stamp_of) = true
  g_stamp_of : mg "stamp_of" = some (.ref a_stamp_of)
  a_need_follows : Addr
  fd_need_follows : FuncData
  F_need_follows : Fun G.K "need_follows" "need_follows" s_need_follows a_need_follows fd_need_follows
  b_need_follows : Binds G.K fd_need_follows ["rows", "stamped"] []
  kp_need_follows : PySem.W.keepIn G.K (.ref a_need_follows) = true
  g_need_follows : mg "need_follows" = some (.ref a_need_follows)
  a_Ledger___init__ : Addr
  fd_Ledger___init__ : FuncData
  F_Ledger___init__ : Fun G.K "__init__" "Ledger.__init__" s_Ledger___init__ a_Ledger___init__ fd_Ledger___init__
  b_Ledger___init__ : Binds G.K fd_Ledger___init__ ["self", "hand"] []
  kp_Ledger___init__ : PySem.W.keepIn G.K (.ref a_Ledger___init__) = true
  k_Ledger : Mk G.K (G.cl 8) a_Ledger___init__
  a_Ledger_latest : Addr
  fd_Ledger_latest : FuncData
  F_Ledger_latest : Fun G.K "latest" "Ledger.latest" s_Ledger_latest a_Ledger_latest fd_Ledger_latest
  b_Ledger_latest : Binds G.K fd_Ledger_latest ["self"] []
  kp_Ledger_latest : PySem.W.keepIn G.K (.ref a_Ledger_latest) = true
  m_Ledger_latest : Meth G.K (G.cl 8) "latest" a_Ledger_latest
  a_Ledger_do : Addr
  fd_Ledger_do : FuncData
  F_Ledger_do : Fun G.K "do" "Ledger.do" s_Ledger_do a_Ledger_do fd_Ledger_do
  b_Ledger_do : Binds G.K fd_Ledger_do ["self", "deed"] []
  kp_Ledger_do : PySem.W.keepIn G.K (.ref a_Ledger_do) = true
  m_Ledger_do : Meth G.K (G.cl 8) "do" a_Ledger_do
  a_Ledger_have : Addr
  fd_Ledger_have : FuncData
  F_Ledger_have : Fun G.K "have" "Ledger.have" s_Ledger_have a_Ledger_have fd_Ledger_have
  b_Ledger_have : Binds G.K fd_Ledger_have ["self"] []
  kp_Ledger_have : PySem.W.keepIn G.K (.ref a_Ledger_have) = true
  m_Ledger_have : Meth G.K (G.cl 8) "have" a_Ledger_have
  a_Ledger_told : Addr
  fd_Ledger_told : FuncData
  F_Ledger_told : FunD G.K "told" "Ledger.told" (defArgs s_Ledger_told) (defBody s_Ledger_told) (defScope s_Ledger_told) [.non] [] a_Ledger_told fd_Ledger_told
  b_Ledger_told : Binds G.K fd_Ledger_told ["self", "have"] []
  kp_Ledger_told : PySem.W.keepIn G.K (.ref a_Ledger_told) = true
  ds_Ledger_told_1 : List Value
  bd_Ledger_told_1 : Vals (([.non] : List V).drop 0) ds_Ledger_told_1 ∧ Binds G.K fd_Ledger_told ["self", "have"] ds_Ledger_told_1
  m_Ledger_told : Meth G.K (G.cl 8) "told" a_Ledger_told
  a_law_begin : Addr
  fd_law_begin : FuncData
  F_law_begin : Fun G.K "_law_begin" "_law_begin" s_law_begin a_law_begin fd_law_begin
  b_law_begin : Binds G.K fd_law_begin ["_law_script"] []
  kp_law_begin : PySem.W.keepIn G.K (.ref a_law_begin) = true
  g_law_begin : mg "_law_begin" = some (.ref a_law_begin)
  a_law_next : Addr
  fd_law_next : FuncData
  F_law_next : Fun G.K "_law_next" "_law_next" s_law_next a_law_next fd_law_next
  b_law_next : Binds G.K fd_law_next ["_law_state"] []
  kp_law_next : PySem.W.keepIn G.K (.ref a_law_next) = true
  g_law_next : mg "_law_next" = some (.ref a_law_next)
  a_law_word : Addr
  fd_law_word : FuncData
  F_law_word : Fun G.K "_law_word" "_law_word" s_law_word a_law_word fd_law_word
  b_law_word : Binds G.K fd_law_word ["_law_state", "_law_signs", "_law_most"] []
  kp_law_word : PySem.W.keepIn G.K (.ref a_law_word) = true
  g_law_word : mg "_law_word" = some (.ref a_law_word)
  a_law_any_word : Addr
  fd_law_any_word : FuncData
  F_law_any_word : Fun G.K "_law_any_word" "_law_any_word" s_law_any_word a_law_any_word fd_law_any_word
  b_law_any_word : Binds G.K fd_law_any_word ["_law_state"] []
  kp_law_any_word : PySem.W.keepIn G.K (.ref a_law_any_word) = true
  g_law_any_word : mg "_law_any_word" = some (.ref a_law_any_word)
  a_law_hands : Addr
  fd_law_hands : FuncData
  F_law_hands : Fun G.K "_law_hands" "_law_hands" s_law_hands a_law_hands fd_law_hands
  b_law_hands : Binds G.K fd_law_hands ["_law_state", "_law_many"] []
  kp_law_hands : PySem.W.keepIn G.K (.ref a_law_hands) = true
  g_law_hands : mg "_law_hands" = some (.ref a_law_hands)
  a_law_parts : Addr
  fd_law_parts : FuncData
  F_law_parts : Fun G.K "_law_parts" "_law_parts" s_law_parts a_law_parts fd_law_parts
  b_law_parts : Binds G.K fd_law_parts ["_law_state"] []
  kp_law_parts : PySem.W.keepIn G.K (.ref a_law_parts) = true
  g_law_parts : mg "_law_parts" = some (.ref a_law_parts)
  a_law_deed : Addr
  fd_law_deed : FuncData
  F_law_deed : Fun G.K "_law_deed" "_law_deed" s_law_deed a_law_deed fd_law_deed
  b_law_deed : Binds G.K fd_law_deed ["_law_state", "_law_names", "_law_hand", "_law_puts"] []
  kp_law_deed : PySem.W.keepIn G.K (.ref a_law_deed) = true
  g_law_deed : mg "_law_deed" = some (.ref a_law_deed)
  a_law_alone : Addr
  fd_law_alone : FuncData
  F_law_alone : Fun G.K "_law_alone" "_law_alone" s_law_alone a_law_alone fd_law_alone
  b_law_alone : Binds G.K fd_law_alone ["_law_e", "_law_kind"] []
  kp_law_alone : PySem.W.keepIn G.K (.ref a_law_alone) = true
  g_law_alone : mg "_law_alone" = some (.ref a_law_alone)
  a_law_refused : Addr
  fd_law_refused : FuncData
  F_law_refused : Fun G.K "_law_refused" "_law_refused" s_law_refused a_law_refused fd_law_refused
  b_law_refused : Binds G.K fd_law_refused ["_law_ledger", "_law_deed_here"] []
  kp_law_refused : PySem.W.keepIn G.K (.ref a_law_refused) = true
  g_law_refused : mg "_law_refused" = some (.ref a_law_refused)
  a_law_done : Addr
  fd_law_done : FuncData
  F_law_done : Fun G.K "_law_done" "_law_done" s_law_done a_law_done fd_law_done
  b_law_done : Binds G.K fd_law_done ["_law_ledger", "_law_deed_here"] []
  kp_law_done : PySem.W.keepIn G.K (.ref a_law_done) = true
  g_law_done : mg "_law_done" = some (.ref a_law_done)
  a_law_no_hand : Addr
  fd_law_no_hand : FuncData
  F_law_no_hand : Fun G.K "_law_no_hand" "_law_no_hand" s_law_no_hand a_law_no_hand fd_law_no_hand
  b_law_no_hand : Binds G.K fd_law_no_hand ["_law_hand"] []
  kp_law_no_hand : PySem.W.keepIn G.K (.ref a_law_no_hand) = true
  g_law_no_hand : mg "_law_no_hand" = some (.ref a_law_no_hand)
  a_law_no_word : Addr
  fd_law_no_word : FuncData
  F_law_no_word : Fun G.K "_law_no_word" "_law_no_word" s_law_no_word a_law_no_word fd_law_no_word
  b_law_no_word : Binds G.K fd_law_no_word ["_law_state"] []
  kp_law_no_word : PySem.W.keepIn G.K (.ref a_law_no_word) = true
  g_law_no_word : mg "_law_no_word" = some (.ref a_law_no_word)
  a_law_no_parts : Addr
  fd_law_no_parts : FuncData
  F_law_no_parts : Fun G.K "_law_no_parts" "_law_no_parts" s_law_no_parts a_law_no_parts fd_law_no_parts
  b_law_no_parts : Binds G.K fd_law_no_parts ["_law_state", "_law_parts_here"] []
  kp_law_no_parts : PySem.W.keepIn G.K (.ref a_law_no_parts) = true
  g_law_no_parts : mg "_law_no_parts" = some (.ref a_law_no_parts)
  a_law_no_deed : Addr
  fd_law_no_deed : FuncData
  F_law_no_deed : Fun G.K "_law_no_deed" "_law_no_deed" s_law_no_deed a_law_no_deed fd_law_no_deed
  b_law_no_deed : Binds G.K fd_law_no_deed ["_law_state", "_law_deed_here"] []
  kp_law_no_deed : PySem.W.keepIn G.K (.ref a_law_no_deed) = true
  g_law_no_deed : mg "_law_no_deed" = some (.ref a_law_no_deed)
  a_law_odd : Addr
  fd_law_odd : FuncData
  F_law_odd : Fun G.K "_law_odd" "_law_odd" s_law_odd a_law_odd fd_law_odd
  b_law_odd : Binds G.K fd_law_odd ["_law_state", "_law_hand", "_law_puts"] []
  kp_law_odd : PySem.W.keepIn G.K (.ref a_law_odd) = true
  g_law_odd : mg "_law_odd" = some (.ref a_law_odd)
  a_law_looked : Addr
  fd_law_looked : FuncData
  F_law_looked : Fun G.K "_law_looked" "_law_looked" s_law_looked a_law_looked fd_law_looked
  b_law_looked : Binds G.K fd_law_looked ["_law_ledger", "_law_rows", "_law_way"] []
  kp_law_looked : PySem.W.keepIn G.K (.ref a_law_looked) = true
  g_law_looked : mg "_law_looked" = some (.ref a_law_looked)
  a_law : Addr
  fd_law : FuncData
  F_law : Fun G.K "law" "law" s_law a_law fd_law
  b_law : Binds G.K fd_law ["_law_script"] []
  kp_law : PySem.W.keepIn G.K (.ref a_law) = true
  g_law : mg "law" = some (.ref a_law)
  g_MailError : mg "MailError" = some (.ref (G.cl 0))
  ex_MailError : ∀ {i : Nat}, ([0, 1, 2, 3, 4, 5, 6] : List Nat).contains i = true → PySem.W.exmOne G.K (.ref (G.cl i)) (.ref (G.cl 0)) = some (([0, 1, 2, 3, 4, 5, 6] : List Nat).contains i)
  g_NoWord : mg "NoWord" = some (.ref (G.cl 1))
  g_NoLetter : mg "NoLetter" = some (.ref (G.cl 2))
  x_NoLetter : PySem.W.excIn G.K (G.cl 2) [.type "ValueError", .type "Exception", .type "BaseException", .type "object"] "ValueError.__new__" = true
  kp_NoLetter : PySem.W.keepIn G.K (.ref (G.cl 2)) = true
  r_NoLetter : ∀ {X : Cx}, X.K = G.K → Raises X (.ref (G.cl 2))
  ex_NoLetter : ∀ {i : Nat}, ([0, 1, 2, 3, 4, 5, 6] : List Nat).contains i = true → PySem.W.exmOne G.K (.ref (G.cl i)) (.ref (G.cl 2)) = some (([2] : List Nat).contains i)
  g_NoRule : mg "NoRule" = some (.ref (G.cl 3))
  g_NoName : mg "NoName" = some (.ref (G.cl 4))
  x_NoName : PySem.W.excIn G.K (G.cl 4) [.type "ValueError", .type "Exception", .type "BaseException", .type "object"] "ValueError.__new__" = true
  kp_NoName : PySem.W.keepIn G.K (.ref (G.cl 4)) = true
  r_NoName : ∀ {X : Cx}, X.K = G.K → Raises X (.ref (G.cl 4))
  g_NoParcel : mg "NoParcel" = some (.ref (G.cl 5))
  x_NoParcel : PySem.W.excIn G.K (G.cl 5) [.type "ValueError", .type "Exception", .type "BaseException", .type "object"] "ValueError.__new__" = true
  kp_NoParcel : PySem.W.keepIn G.K (.ref (G.cl 5)) = true
  r_NoParcel : ∀ {X : Cx}, X.K = G.K → Raises X (.ref (G.cl 5))
  g_NoRow : mg "NoRow" = some (.ref (G.cl 6))
  g_Letter : mg "Letter" = some (.ref (G.cl 7))
  cl_Letter : Cls G.K (G.cl 7)
  n_Letter_sender : NoAttr G.K (G.cl 7) "sender"
  n_Letter_title : NoAttr G.K (G.cl 7) "title"
  n_Letter_body : NoAttr G.K (G.cl 7) "body"
  n_Letter_day : NoAttr G.K (G.cl 7) "day"
  n_Letter_answers : NoAttr G.K (G.cl 7) "answers"
  fz_Letter : G.fz (G.cl 7) = some 5
  g_Ledger : mg "Ledger" = some (.ref (G.cl 8))
  cl_Ledger : Cls G.K (G.cl 8)
  n_Ledger_hand : NoAttr G.K (G.cl 8) "hand"
  n_Ledger_kept : NoAttr G.K (G.cl 8) "kept"
  fz_Ledger : G.fz (G.cl 8) = none
  ec_ : ∀ {i : Nat}, ([0, 1, 2, 3, 4, 5, 6] : List Nat).contains i = true → ExcC G.K (G.cl i)
  ki_NoLetter : ∀ {i : Nat}, ([0, 1, 2, 3, 4, 5, 6] : List Nat).contains i = true → PySem.W.kitOne G.K (.ref (G.cl i)) (.ref (G.cl 2)) = some (([2] : List Nat).contains i)
  ki_NoName : ∀ {i : Nat}, ([0, 1, 2, 3, 4, 5, 6] : List Nat).contains i = true → PySem.W.kitOne G.K (.ref (G.cl i)) (.ref (G.cl 4)) = some (([4] : List Nat).contains i)
  ki_NoParcel : ∀ {i : Nat}, ([0, 1, 2, 3, 4, 5, 6] : List Nat).contains i = true → PySem.W.kitOne G.K (.ref (G.cl i)) (.ref (G.cl 5)) = some (([5] : List Nat).contains i)
  ki_NoRow : ∀ {i : Nat}, ([0, 1, 2, 3, 4, 5, 6] : List Nat).contains i = true → PySem.W.kitOne G.K (.ref (G.cl i)) (.ref (G.cl 6)) = some (([6] : List Nat).contains i)
  ki_NoRule : ∀ {i : Nat}, ([0, 1, 2, 3, 4, 5, 6] : List Nat).contains i = true → PySem.W.kitOne G.K (.ref (G.cl i)) (.ref (G.cl 3)) = some (([3] : List Nat).contains i)
  ki_NoWord : ∀ {i : Nat}, ([0, 1, 2, 3, 4, 5, 6] : List Nat).contains i = true → PySem.W.kitOne G.K (.ref (G.cl i)) (.ref (G.cl 1)) = some (([1] : List Nat).contains i)
  ki_ValueError : ∀ {i : Nat}, ([0, 1, 2, 3, 4, 5, 6] : List Nat).contains i = true → PySem.W.kitOne G.K (.ref (G.cl i)) (.type "ValueError") = some (([0, 1, 2, 3, 4, 5, 6] : List Nat).contains i)
  z_ValueError : mg "ValueError" = none
  z_all : mg "all" = none
  z_bool : mg "bool" = none
  z_int : mg "int" = none
  z_isinstance : mg "isinstance" = none
  z_len : mg "len" = none
  z_list : mg "list" = none
  z_max : mg "max" = none
  z_range : mg "range" = none
  z_sorted : mg "sorted" = none
  z_str : mg "str" = none
  z_tuple : mg "tuple" = none
  t_FIGURES : Tok
  c_FIGURES : mg "FIGURES" = some (.str ("0123456789" : Str) t_FIGURES)
  t_MOST_BODY : Tok
  c_MOST_BODY : mg "MOST_BODY" = some (.int 400 t_MOST_BODY)
  t_MOST_DAY : Tok
  c_MOST_DAY : mg "MOST_DAY" = some (.int 9999 t_MOST_DAY)
  t_MOST_HAND : Tok
  c_MOST_HAND : mg "MOST_HAND" = some (.int 8 t_MOST_HAND)
  t_MOST_SIGNS : Tok
  c_MOST_SIGNS : mg "MOST_SIGNS" = some (.int 20 t_MOST_SIGNS)
  t_MOST_TITLE : Tok
  c_MOST_TITLE : mg "MOST_TITLE" = some (.int 60 t_MOST_TITLE)
  t_SMALL : Tok
  c_SMALL : mg "SMALL" = some (.str ("abcdefghijklmnopqrstuvwxyz" : Str) t_SMALL)
section
variable {P : Program} {w : World} {G : Gx} {mg : Str → Option Value} {base : Heap}
def sp_is_sign (G : Gx) : Sp := fun vs H Q E => ∃ (v_sign : Nat) (F : Asn G), vs = [(.str (sg (v_sign)))] ∧ Sep H ([F] : List (Asn G)) ∧ R.wp (m_is_sign v_sign) (fun r => ∀ H', Sep H' ([F] : List (Asn G)) → Q (.bl (r)) H') (fun _ => False)
abbrev N_is_sign : List Str := ["sign"]
theorem sc_is_sign : FnScope N_is_sign ["sign"] (defScope s_is_sign) := ⟨rfl, rfl, rfl, by decide +kernel, rfl, by decide +kernel, by decide +kernel⟩
theorem ok_is_sign (T : Txt G mg) : FnOk P w G.K mg base CX0 1 T.a_is_sign T.fd_is_sign ["sign"] (sp_is_sign G) := by
  have nd := sc_is_sign.nd
  refine Fun.ok T.F_is_sign sc_is_sign (fun vs H Q E h => ?_) (fun cdv A outer s H vs Q E hr h => ?_)
  · obtain ⟨v_sign, F, rfl, _⟩ := h; rfl
  · obtain ⟨v_sign, F, rfl, hS, hm⟩ := h
    refine ⟨_, (pss_one (ps_ret (pe_or (pe_cmpR op_inSg (pv 0) (pe_glob (v := .str ("abcdefghijklmnopqrstuvwxyz" : Str)) rfl T.c_SMALL ⟨_, rfl⟩) (by rfl)) (pe_one (pe_cmpR op_inSg (pv 0) (pe_glob (v := .str ("0123456789" : Str)) rfl T.c_FIGURES ⟨_, rfl⟩) (by rfl)))))), ?_⟩
    unfold m_is_sign at hm
    refine c_ret ?_
    refine ev_to (ev_orV (ev_inSg (c := v_sign) (ev_var rfl) ev_c) fun _ => (ev_inSg (c := v_sign) (ev_var rfl) ev_c)) ?_
    exact hm _ (hS.sel [0] (by decide) rfl)
def sp_is_word (G : Gx) : Sp := fun vs H Q E => ∃ (a_v_thing : V) (v_thing : Any) (F : Asn G), vs = [a_v_thing] ∧ Im.im G H a_v_thing v_thing ∧ Sep H ([F] : List (Asn G)) ∧ R.wp (m_is_word v_thing) (fun r => ∀ H', Sep H' ([F] : List (Asn G)) → Q (.bl (r)) H') (fun _ => False)
abbrev N_is_word : List Str := ["thing", "sign"]
theorem sc_is_word : FnScope N_is_word ["thing"] (defScope s_is_word) := ⟨rfl, rfl, rfl, by decide +kernel, rfl, by decide +kernel, by decide +kernel⟩
theorem ok_is_word (T : Txt G mg) : FnOk P w G.K mg base CX0 2 T.a_is_word T.fd_is_word ["thing"] (sp_is_word G) := by
  have nd := sc_is_word.nd
  refine Fun.ok T.F_is_word sc_is_word (fun vs H Q E h => ?_) (fun cdv A outer s H vs Q E hr h => ?_)
  · obtain ⟨a_v_thing, v_thing, F, rfl, _⟩ := h; rfl
  · obtain ⟨a_v_thing, v_thing, F, rfl, him_v_thing, hS, hm⟩ := h
    have hS := hS.addIm him_v_thing
    refine ⟨_, (pss_cons (ps_if (PW.pt (pw_or (pt_not (pt_val (pe_callB (isiK G.K) (by rfl) T.z_isinstance (by decide +kernel) (pa_cons (pv 0) (pa_cons (pe_bltn (v := .ty "str") (by rfl) T.z_str (by decide +kernel) rfl) pa_nil))))) (pw_or1 (pt_not (pt_chain op_le op_le pe_int (pe_callB (lenAnyK G.K) (by rfl) T.z_len PySem.boot_len (pa_cons (pv 0) pa_nil)) (pe_glob (v := .int 20) rfl T.c_MOST_SIGNS ⟨_, rfl⟩)))))) (pss_one (ps_ret pe_bl)) pss_nil)
      (pss_one (ps_ret (pe_callB (allK G.K rfl) (by rfl) T.z_all (by decide +kernel) (pa_cons (pe_fz (pe_lc (own := [("sign", 1)]) (g := gName 1) rfl nd (pi_str (pv 0)) (blkOk_by (own := [("sign", 1)]) (N := N_is_word) (sc := defScope s_is_word) (by decide +kernel)) (fun _ _ _ _ _ => pg_name (i := 1) nd rfl (Or.inl rfl)) (fun _ _ _ _ _ => pts_nil) (fun _ _ _ _ _ => (pe_call (ok_is_sign T) (hr.mono (by decide)) rfl T.g_is_sign T.kp_is_sign T.b_is_sign .nil pass0 (pa_cons (pv 1) pa_nil))))) pa_nil))))), ?_⟩
    unfold m_is_word at hm
    refine f_seq ?_
    refine f_if ?_
    refine f_or ?_
    refine et_to (et_not (et_B (ev_isAny (ev_var rfl) ev_c (hS.im (i := 0) rfl) (by decide)))) ?_
    refine orK_J hm hS (fun hb q hm nx => ?_) (fun b1 H hm hS => ?_)
    ·
      obtain ⟨n2, hn2, hm⟩ := wp_lenA hm
      refine et_to (et_not (et_test (ev_chainB (a := decide (1 ≤ n2)) (b := decide (n2 ≤ 20)) ev_c (ev_lenA (ev_var rfl) (hS.im (i := 0) rfl) hn2) (fun _ => ev_c) (fun Q q => r_I0 Q q) (fun _ Q q => r_I0 Q q)))) ?_
      exact nx _ _ hm (hS.sel [0, 1] (by decide) rfl)
    ·
      refine ifK_2 (fun hb3 => ?_) (fun hb3 => ?_)
      · have hm := R.wp_ifY hm hb3
        refine c_ret ?_
        refine ev_to ev_c ?_
        exact hm _ (hS.sel [1] (by decide) rfl)
      · have hm := R.wp_ifN hm (by first | (rw [hb3]; decide) | simpa using hb3)
        refine st_nx ?_
        refine sq_nx ?_
        refine c_ret ?_
        refine c_cb ?_
        refine c_cons ?_
        refine c_fz ?_
        refine c_lc ?_
        refine c_is ?_
        obtain ⟨s4, hs5, hm⟩ := Ml.wp_asStr hm
        have hv6 := v_str (hS.im (i := 0) rfl) hs5
        subst hv6
        refine ev_to (ev_var rfl) ?_
        refine k_is ?_
        obtain ⟨h7, hm⟩ := R.wp_need hm
        refine lc_sep (β := Bool) (fun (_ : Unit) => ([imA (.str (s4)) (v_thing : Any), F] : List (Asn G))) (s := ()) (im := (fun _ v (c : Nat) => v = .str (sg c))) hS (fun _ _ _ => wk_str) h7 hm (fun p8 _ ys11 x9 v10 H q Nx hS hx hm kS kN => ?_) (fun p8 t H hm hS => ?_)
        ·
          cases hx
          refine c_gLc (σ' := [some (.str (s4)), some (.str (sg (x9)))]) rfl rfl ?_
          refine c_yes ?_
          refine c_call ?_
          refine ea_to (ea_cons (ev_var rfl) ea_nil) ?_
          refine ⟨x9, star [lstA p8 (ys11 : List Bool), imA (.str (s4)) (v_thing : Any), F], rfl, Sep.unstar (M := []) (hS.sel [0, 1, 2] (by decide) rfl : Sep H (([] ++ [lstA p8 (ys11 : List Bool), imA (.str (s4)) (v_thing : Any), F] : List (Asn G)))), R.wp_mono (R.wp_bind hm) (fun r12 hm H hS => ?_) (fun _ z => z)⟩
          have hS : Sep H ([lstA p8 (ys11 : List Bool), imA (.str (s4)) (v_thing : Any), F] : List (Asn G)) := Sep.star (M := []) hS
          exact kS () _ _ _ hm rfl (hS.sel [0, 1, 2] (by decide) rfl)
        · revert hm hS; generalize t = t13; intro hm hS
          refine fz_no ?_
          refine c_nil ?_
          refine ⟨_, _, rfl, (hS.sqF (i := 0) rfl), ?_⟩
          exact hm _ (hS.sel [2] (by decide) rfl)
def sp_is_text (G : Gx) : Sp := fun vs H Q E => ∃ (a_v_thing : V) (v_thing : Any) (v_most : Int) (F : Asn G), vs = [a_v_thing, (.int (v_most))] ∧ Im.im G H a_v_thing v_thing ∧ Sep H ([F] : List (Asn G)) ∧ R.wp (m_is_text v_thing v_most) (fun r => ∀ H', Sep H' ([F] : List (Asn G)) → Q (.bl (r)) H') (fun _ => False)
abbrev N_is_text : List Str := ["thing", "most"]
theorem sc_is_text : FnScope N_is_text ["thing", "most"] (defScope s_is_text) := ⟨rfl, rfl, rfl, by decide +kernel, rfl, by decide +kernel, by decide +kernel⟩
theorem ok_is_text (T : Txt G mg) : FnOk P w G.K mg base CX0 1 T.a_is_text T.fd_is_text ["thing", "most"] (sp_is_text G) := by
  have nd := sc_is_text.nd
  refine Fun.ok T.F_is_text sc_is_text (fun vs H Q E h => ?_) (fun cdv A outer s H vs Q E hr h => ?_)
  · obtain ⟨a_v_thing, v_thing, v_most, F, rfl, _⟩ := h; rfl
  · obtain ⟨a_v_thing, v_thing, v_most, F, rfl, him_v_thing, hS, hm⟩ := h
    have hS := hS.addIm him_v_thing
    refine ⟨_, (pss_one (ps_ret (pe_and (pe_callB (isiK G.K) (by rfl) T.z_isinstance (by decide +kernel) (pa_cons (pv 0) (pa_cons (pe_bltn (v := .ty "str") (by rfl) T.z_str (by decide +kernel) rfl) pa_nil))) (pe_one (pe_cmpR op_le (pe_callB (lenAnyK G.K) (by rfl) T.z_len PySem.boot_len (pa_cons (pv 0) pa_nil)) (pv 1) (nomark _)))))), ?_⟩
    unfold m_is_text at hm
    refine c_ret ?_
    refine f_andV ?_
    refine ev_to (ev_isAny (ev_var rfl) ev_c (hS.im (i := 0) rfl) (by decide)) ?_
    refine andVK_J hm hS (fun hb q hm nx => ?_) (fun b1 H hm hS => ?_)
    ·
      obtain ⟨n2, hn2, hm⟩ := wp_lenA hm
      refine ev_to (ev_i0 (ev_lenA (ev_var rfl) (hS.im (i := 0) rfl) hn2) (ev_var rfl)) ?_
      exact nx _ _ hm (hS.sel [0, 1] (by decide) rfl)
    ·
      exact hm _ (hS.sel [1] (by decide) rfl)
def sp_is_day (G : Gx) : Sp := fun vs H Q E => ∃ (a_v_thing : V) (v_thing : Any) (F : Asn G), vs = [a_v_thing] ∧ Im.im G H a_v_thing v_thing ∧ Sep H ([F] : List (Asn G)) ∧ R.wp (m_is_day v_thing) (fun r => ∀ H', Sep H' ([F] : List (Asn G)) → Q (.bl (r)) H') (fun _ => False)
abbrev N_is_day : List Str := ["thing"]
theorem sc_is_day : FnScope N_is_day ["thing"] (defScope s_is_day) := ⟨rfl, rfl, rfl, by decide +kernel, rfl, by decide +kernel, by decide +kernel⟩
theorem ok_is_day (T : Txt G mg) : FnOk P w G.K mg base CX0 1 T.a_is_day T.fd_is_day ["thing"] (sp_is_day G) := by
  have nd := sc_is_day.nd
  refine Fun.ok T.F_is_day sc_is_day (fun vs H Q E h => ?_) (fun cdv A outer s H vs Q E hr h => ?_)
  · obtain ⟨a_v_thing, v_thing, F, rfl, _⟩ := h; rfl
  · obtain ⟨a_v_thing, v_thing, F, rfl, him_v_thing, hS, hm⟩ := h
    have hS := hS.addIm him_v_thing
    refine ⟨_, (pss_one (ps_ret (pe_and (pe_callB (isiK G.K) (by rfl) T.z_isinstance (by decide +kernel) (pa_cons (pv 0) (pa_cons (pe_bltn (v := .ty "int") (by rfl) T.z_int (by decide +kernel) rfl) pa_nil))) (pe_and (pe_not (pe_callB (isiK G.K) (by rfl) T.z_isinstance (by decide +kernel) (pa_cons (pv 0) (pa_cons (pe_bltn (v := .ty "bool") (by rfl) T.z_bool (by decide +kernel) rfl) pa_nil)))) (pe_one (pe_chain op_le op_le pe_int (pv 0) (pe_glob (v := .int 9999) rfl T.c_MOST_DAY ⟨_, rfl⟩))))))), ?_⟩
    unfold m_is_day at hm
    refine c_ret ?_
    refine f_andV ?_
    refine ev_to (ev_isAny (ev_var rfl) ev_c (hS.im (i := 0) rfl) (by decide)) ?_
    refine andVK_J hm hS (fun hb q hm nx => ?_) (fun b1 H hm hS => ?_)
    ·
      refine f_andV ?_
      refine ev_to (ev_notV (ev_isAny (ev_var rfl) ev_c (hS.im (i := 0) rfl) (by decide))) ?_
      refine andVK_J hm hS (fun hb q hm nx => ?_) (fun b2 H hm hS => ?_)
      ·
        obtain ⟨s3, hs4, hm⟩ := Ml.wp_asInt hm
        have hv5 := v_int (hS.im (i := 0) rfl) hs4
        subst hv5
        refine ev_to (ev_chainB (a := decide (0 ≤ s3)) (b := decide (s3 ≤ 9999)) ev_c (ev_var rfl) (fun _ => ev_c) (fun Q q => r_I0 Q q) (fun _ Q q => r_I0 Q q)) ?_
        -- changed: im_v_thing
        exact nx _ _ hm (hS.sel [0, 1] (by decide) rfl)
      ·
        exact nx _ _ hm (hS.sel [0, 1] (by decide) rfl)
    ·
      exact hm _ (hS.sel [1] (by decide) rfl)
def sp_Letter___init__ (G : Gx) : Sp := fun vs H Q E => ∃ (a_v_self d_v_self : Addr) (a_v_sender : V) (v_sender : Any) (a_v_title : V) (v_title : Any) (a_v_body : V) (v_body : Any) (a_v_day : V) (v_day : Any) (a_v_answers : V) (v_answers : Any) (F : Asn G), vs = [.ref a_v_self, a_v_sender, a_v_title, a_v_body, a_v_day, a_v_answers] ∧ Im.im G H a_v_sender v_sender ∧ Im.im G H a_v_title v_title ∧ Im.im G H a_v_body v_body ∧ Im.im G H a_v_day v_day ∧ Im.im G H a_v_answers v_answers ∧ Sep H ([cell a_v_self (.ins (G.cl 7) d_v_self []), F] : List (Asn G)) ∧ R.wp (m_Letter___init__ v_sender v_title v_body v_day v_answers) (fun r => ∀ H', Sep H' ([imA (.ref a_v_self) (r : Letter), F] : List (Asn G)) → Q .non H') (fun x => ∀ H', Sep H' ([F] : List (Asn G)) → Eok G x E H')
abbrev N_Letter___init__ : List Str := ["self", "sender", "title", "body", "day", "answers"]
theorem sc_Letter___init__ : FnScope N_Letter___init__ ["self", "sender", "title", "body", "day", "answers"] (defScope s_Letter___init__) := ⟨rfl, rfl, rfl, by decide +kernel, rfl, by decide +kernel, by decide +kernel⟩
theorem ok_Letter___init__ (T : Txt G mg) : FnOk P w G.K mg base (L2.CX P w) 3 T.a_Letter___init__ T.fd_Letter___init__ ["self", "sender", "title", "body", "day", "answers"] (sp_Letter___init__ G) := by
  have nd := sc_Letter___init__.nd
  refine FunD.ok T.F_Letter___init__ sc_Letter___init__ (fun vs H Q E h => ?_) (fun cdv A outer s H vs Q E hr h => ?_)
  · obtain ⟨a_v_self, d_v_self, a_v_sender, v_sender, a_v_title, v_title, a_v_body, v_body, a_v_day, v_day, a_v_answers, v_answers, F, rfl, _⟩ := h; rfl
  · obtain ⟨a_v_self, d_v_self, a_v_sender, v_sender, a_v_title, v_title, a_v_body, v_body, a_v_day, v_day, a_v_answers, v_answers, F, rfl, him_v_sender, him_v_title, him_v_body, him_v_day, him_v_answers, hS, hm⟩ := h
    have hS := hS.addIm him_v_sender
    have hS := hS.addIm him_v_title
    have hS := hS.addIm him_v_body
    have hS := hS.addIm him_v_day
    have hS := hS.addIm him_v_answers
    refine ⟨_, (pss_cons (ps_if (PW.pt (pw_or (pt_not (pt_val (pe_call (ok_is_word T) (hr.mono (by decide)) rfl T.g_is_word T.kp_is_word T.b_is_word .nil pass0 (pa_cons (pv 1) pa_nil)))) (pw_or (pt_not (pt_val (pe_call (ok_is_text T) (hr.mono (by decide)) rfl T.g_is_text T.kp_is_text T.b_is_text .nil pass0 (pa_cons (pv 2) (pa_cons (pe_glob (v := .int 60) rfl T.c_MOST_TITLE ⟨_, rfl⟩) pa_nil))))) (pw_or1 (pt_cmpR op_inSg pe_str (pv 2) (by rfl)))))) (pss_one (ps_raise rfl (takes_of rfl rfl rfl rfl) (pmk_own PySem.F.excBase_ValueError T.x_NoLetter T.g_NoLetter T.kp_NoLetter (T.r_NoLetter rfl) rfl))) pss_nil)
      (pss_cons (ps_if (PW.pt (pw_or (pt_not (pt_val (pe_call (ok_is_text T) (hr.mono (by decide)) rfl T.g_is_text T.kp_is_text T.b_is_text .nil pass0 (pa_cons (pv 3) (pa_cons (pe_glob (v := .int 400) rfl T.c_MOST_BODY ⟨_, rfl⟩) pa_nil))))) (pw_or1 (pt_not (pt_val (pe_call (ok_is_day T) (hr.mono (by decide)) rfl T.g_is_day T.kp_is_day T.b_is_day .nil pass0 (pa_cons (pv 4) pa_nil))))))) (pss_one (ps_raise rfl (takes_of rfl rfl rfl rfl) (pmk_own PySem.F.excBase_ValueError T.x_NoLetter T.g_NoLetter T.kp_NoLetter (T.r_NoLetter rfl) rfl))) pss_nil)
      (pss_cons (ps_if (PW.pt (pw_and (pt_cmpR (neDK G.K hr.units) (pv 5) pe_str (nomark _)) (pw_and1 (pt_not (pt_val (pe_call (ok_is_word T) (hr.mono (by decide)) rfl T.g_is_word T.kp_is_word T.b_is_word .nil pass0 (pa_cons (pv 5) pa_nil))))))) (pss_one (ps_raise rfl (takes_of rfl rfl rfl rfl) (pmk_own PySem.F.excBase_ValueError T.x_NoLetter T.g_NoLetter T.kp_NoLetter (T.r_NoLetter rfl) rfl))) pss_nil)
      (pss_cons (ps_fld (pv 0) (pv 1) rfl)
      (pss_cons (ps_fld (pv 0) (pv 2) rfl)
      (pss_cons (ps_fld (pv 0) (pv 3) rfl)
      (pss_cons (ps_fld (pv 0) (pv 4) rfl)
      (pss_one (ps_fld (pv 0) (pv 5) rfl))))))))), ?_⟩
    unfold m_Letter___init__ at hm
    refine f_seq ?_
    refine f_if ?_
    refine f_or ?_
    refine f_not ?_
    refine f_B ?_
    refine c_call ?_
    refine ea_to (ea_cons (ev_var rfl) ea_nil) ?_
    refine ⟨a_v_sender, (v_sender : Any), star [imA a_v_answers (v_answers : Any), imA a_v_day (v_day : Any), imA a_v_body (v_body : Any), imA a_v_title (v_title : Any), imA a_v_sender (v_sender : Any), cell a_v_self (.ins (G.cl 7) d_v_self []), F], rfl, (hS.im (i := 4) rfl), Sep.unstar (M := []) (hS.sel [0, 1, 2, 3, 4, 5, 6] (by decide) rfl : Sep H (([] ++ [imA a_v_answers (v_answers : Any), imA a_v_day (v_day : Any), imA a_v_body (v_body : Any), imA a_v_title (v_title : Any), imA a_v_sender (v_sender : Any), cell a_v_self (.ins (G.cl 7) d_v_self []), F] : List (Asn G)))), R.wp_mono (R.wp_noexc hm) (fun r1 hm H hS => ?_) (fun _ z => z)⟩
    have hS : Sep H ([imA a_v_answers (v_answers : Any), imA a_v_day (v_day : Any), imA a_v_body (v_body : Any), imA a_v_title (v_title : Any), imA a_v_sender (v_sender : Any), cell a_v_self (.ins (G.cl 7) d_v_self []), F] : List (Asn G)) := Sep.star (M := []) hS
    refine f_bl ?_
    refine f_nK ?_
    refine orK_J hm hS (fun hb q hm nx => ?_) (fun b2 H hm hS => ?_)
    ·
      refine f_or ?_
      refine f_not ?_
      refine f_B ?_
      refine c_call ?_
      refine ea_to (ea_cons (ev_var rfl) (ea_cons ev_c ea_nil)) ?_
      refine ⟨a_v_title, (v_title : Any), 60, star [imA a_v_answers (v_answers : Any), imA a_v_day (v_day : Any), imA a_v_body (v_body : Any), imA a_v_title (v_title : Any), imA a_v_sender (v_sender : Any), cell a_v_self (.ins (G.cl 7) d_v_self []), F], rfl, (hS.im (i := 3) rfl), Sep.unstar (M := []) (hS.sel [0, 1, 2, 3, 4, 5, 6] (by decide) rfl : Sep H (([] ++ [imA a_v_answers (v_answers : Any), imA a_v_day (v_day : Any), imA a_v_body (v_body : Any), imA a_v_title (v_title : Any), imA a_v_sender (v_sender : Any), cell a_v_self (.ins (G.cl 7) d_v_self []), F] : List (Asn G)))), R.wp_mono (R.wp_noexc hm) (fun r3 hm H hS => ?_) (fun _ z => z)⟩
      have hS : Sep H ([imA a_v_answers (v_answers : Any), imA a_v_day (v_day : Any), imA a_v_body (v_body : Any), imA a_v_title (v_title : Any), imA a_v_sender (v_sender : Any), cell a_v_self (.ins (G.cl 7) d_v_self []), F] : List (Asn G)) := Sep.star (M := []) hS
      refine f_bl ?_
      refine f_nK ?_
      refine orK_J hm hS (fun hb q hm nx => ?_) (fun b4 H hm hS => ?_)
      ·
        obtain ⟨s5, hs6, hm⟩ := Ml.wp_asStr hm
        have hv7 := v_str (hS.im (i := 3) rfl) hs6
        subst hv7
        refine et_to (et_test (ev_inSg (c := 10) ev_c (ev_var rfl))) ?_
        -- changed: im_v_title
        exact nx _ _ hm (hS.sel [0, 1, 2, 3, 4, 5, 6] (by decide) rfl)
      ·
        exact nx _ _ hm (hS.sel [0, 1, 2, 3, 4, 5, 6] (by decide) rfl)
    ·
      refine ifK_2 (fun hb8 => ?_) (fun hb8 => ?_)
      · have hm := R.wp_ifY hm hb8
        exact hm _ (hS.sel [6] (by decide) rfl)
      · have hm := R.wp_ifN hm (by first | (rw [hb8]; decide) | simpa using hb8)
        refine st_nx ?_
        refine sq_nx ?_
        refine f_seq ?_
        refine f_if ?_
        refine f_or ?_
        refine f_not ?_
        refine f_B ?_
        refine c_call ?_
        refine ea_to (ea_cons (ev_var rfl) (ea_cons ev_c ea_nil)) ?_
        refine ⟨a_v_body, (v_body : Any), 400, star [imA a_v_answers (v_answers : Any), imA a_v_day (v_day : Any), imA a_v_body (v_body : Any), imA a_v_title (v_title : Any), imA a_v_sender (v_sender : Any), cell a_v_self (.ins (G.cl 7) d_v_self []), F], rfl, (hS.im (i := 2) rfl), Sep.unstar (M := []) (hS.sel [0, 1, 2, 3, 4, 5, 6] (by decide) rfl : Sep H (([] ++ [imA a_v_answers (v_answers : Any), imA a_v_day (v_day : Any), imA a_v_body (v_body : Any), imA a_v_title (v_title : Any), imA a_v_sender (v_sender : Any), cell a_v_self (.ins (G.cl 7) d_v_self []), F] : List (Asn G)))), R.wp_mono (R.wp_noexc hm) (fun r9 hm H hS => ?_) (fun _ z => z)⟩
        have hS : Sep H ([imA a_v_answers (v_answers : Any), imA a_v_day (v_day : Any), imA a_v_body (v_body : Any), imA a_v_title (v_title : Any), imA a_v_sender (v_sender : Any), cell a_v_self (.ins (G.cl 7) d_v_self []), F] : List (Asn G)) := Sep.star (M := []) hS
        refine f_bl ?_
        refine f_nK ?_
        refine orK_J hm hS (fun hb q hm nx => ?_) (fun b10 H hm hS => ?_)
        ·
          refine f_not ?_
          refine f_B ?_
          refine c_call ?_
          refine ea_to (ea_cons (ev_var rfl) ea_nil) ?_
          refine ⟨a_v_day, (v_day : Any), star [imA a_v_answers (v_answers : Any), imA a_v_day (v_day : Any), imA a_v_body (v_body : Any), imA a_v_title (v_title : Any), imA a_v_sender (v_sender : Any), cell a_v_self (.ins (G.cl 7) d_v_self []), F], rfl, (hS.im (i := 1) rfl), Sep.unstar (M := []) (hS.sel [0, 1, 2, 3, 4, 5, 6] (by decide) rfl : Sep H (([] ++ [imA a_v_answers (v_answers : Any), imA a_v_day (v_day : Any), imA a_v_body (v_body : Any), imA a_v_title (v_title : Any), imA a_v_sender (v_sender : Any), cell a_v_self (.ins (G.cl 7) d_v_self []), F] : List (Asn G)))), R.wp_mono (R.wp_noexc hm) (fun r11 hm H hS => ?_) (fun _ z => z)⟩
          have hS : Sep H ([imA a_v_answers (v_answers : Any), imA a_v_day (v_day : Any), imA a_v_body (v_body : Any), imA a_v_title (v_title : Any), imA a_v_sender (v_sender : Any), cell a_v_self (.ins (G.cl 7) d_v_self []), F] : List (Asn G)) := Sep.star (M := []) hS
          refine f_bl ?_
          refine f_nK ?_
          exact nx _ _ hm (hS.sel [0, 1, 2, 3, 4, 5, 6] (by decide) rfl)
        ·
          refine ifK_2 (fun hb12 => ?_) (fun hb12 => ?_)
          · have hm := R.wp_ifY hm hb12
            exact hm _ (hS.sel [6] (by decide) rfl)
          · have hm := R.wp_ifN hm (by first | (rw [hb12]; decide) | simpa using hb12)
            refine st_nx ?_
            refine sq_nx ?_
            refine f_seq ?_
            refine f_if ?_
            refine f_and ?_
            obtain ⟨b13, hb13, hm⟩ := wp_eqA hm
            refine et_to (et_test (ev_neA (ev_var rfl) ev_c (hS.im (i := 0) rfl) (any_str.mpr rfl) hb13)) ?_
            refine andK_J hm hS (fun hb q hm nx => ?_) (fun b14 H hm hS => ?_)
            ·
              refine f_not ?_
              refine f_B ?_
              refine c_call ?_
              refine ea_to (ea_cons (ev_var rfl) ea_nil) ?_
              refine ⟨a_v_answers, (v_answers : Any), star [imA a_v_answers (v_answers : Any), imA a_v_day (v_day : Any), imA a_v_body (v_body : Any), imA a_v_title (v_title : Any), imA a_v_sender (v_sender : Any), cell a_v_self (.ins (G.cl 7) d_v_self []), F], rfl, (hS.im (i := 0) rfl), Sep.unstar (M := []) (hS.sel [0, 1, 2, 3, 4, 5, 6] (by decide) rfl : Sep H (([] ++ [imA a_v_answers (v_answers : Any), imA a_v_day (v_day : Any), imA a_v_body (v_body : Any), imA a_v_title (v_title : Any), imA a_v_sender (v_sender : Any), cell a_v_self (.ins (G.cl 7) d_v_self []), F] : List (Asn G)))), R.wp_mono (R.wp_noexc hm) (fun r15 hm H hS => ?_) (fun _ z => z)⟩
              have hS : Sep H ([imA a_v_answers (v_answers : Any), imA a_v_day (v_day : Any), imA a_v_body (v_body : Any), imA a_v_title (v_title : Any), imA a_v_sender (v_sender : Any), cell a_v_self (.ins (G.cl 7) d_v_self []), F] : List (Asn G)) := Sep.star (M := []) hS
              refine f_bl ?_
              refine f_nK ?_
              exact nx _ _ hm (hS.sel [0, 1, 2, 3, 4, 5, 6] (by decide) rfl)
            ·
              refine ifK_2 (fun hb16 => ?_) (fun hb16 => ?_)
              · have hm := R.wp_ifY hm hb16
                exact hm _ (hS.sel [6] (by decide) rfl)
              · have hm := R.wp_ifN hm (by first | (rw [hb16]; decide) | simpa using hb16)
                refine st_nx ?_
                refine sq_nx ?_
                refine f_seq ?_
                refine c_sfld ?_
                refine ev_to (ev_var rfl) ?_
                obtain ⟨s17, hs18, hm⟩ := Ml.wp_asStr hm
                have hv19 := v_str (hS.im (i := 4) rfl) hs18
                subst hv19
                refine ev_to (ev_var rfl) ?_
                refine k_sfld (fs' := [("sender", (.str (s17)))]) hS (i := 5) rfl T.cl_Letter T.n_Letter_sender rfl (by show 0 < 1000; decide) (by show decide (G.fz (G.cl 7) = some 1) = false; rw [T.fz_Letter]; rfl) rfl fun H hS => ?_
                have hS : Sep H ([imA a_v_answers (v_answers : Any), imA a_v_day (v_day : Any), imA a_v_body (v_body : Any), imA a_v_title (v_title : Any), imA (.str (s17)) (v_sender : Any), cell a_v_self (.ins (G.cl 7) d_v_self [("sender", (.str (s17)))]), F] : List (Asn G)) := hS
                refine sq_nx ?_
                refine f_seq ?_
                refine c_sfld ?_
                refine ev_to (ev_var rfl) ?_
                obtain ⟨s20, hs21, hm⟩ := Ml.wp_asStr hm
                have hv22 := v_str (hS.im (i := 3) rfl) hs21
                subst hv22
                refine ev_to (ev_var rfl) ?_
                refine k_sfld (fs' := [("sender", (.str (s17))), ("title", (.str (s20)))]) hS (i := 5) rfl T.cl_Letter T.n_Letter_title rfl (by show 1 < 1000; decide) (by show decide (G.fz (G.cl 7) = some 2) = false; rw [T.fz_Letter]; rfl) rfl fun H hS => ?_
                have hS : Sep H ([imA a_v_answers (v_answers : Any), imA a_v_day (v_day : Any), imA a_v_body (v_body : Any), imA (.str (s20)) (v_title : Any), imA (.str (s17)) (v_sender : Any), cell a_v_self (.ins (G.cl 7) d_v_self [("sender", (.str (s17))), ("title", (.str (s20)))]), F] : List (Asn G)) := hS
                refine sq_nx ?_
                refine f_seq ?_
                refine c_sfld ?_
                refine ev_to (ev_var rfl) ?_
                obtain ⟨s23, hs24, hm⟩ := Ml.wp_asStr hm
                have hv25 := v_str (hS.im (i := 2) rfl) hs24
                subst hv25
                refine ev_to (ev_var rfl) ?_
                refine k_sfld (fs' := [("sender", (.str (s17))), ("title", (.str (s20))), ("body", (.str (s23)))]) hS (i := 5) rfl T.cl_Letter T.n_Letter_body rfl (by show 2 < 1000; decide) (by show decide (G.fz (G.cl 7) = some 3) = false; rw [T.fz_Letter]; rfl) rfl fun H hS => ?_
                have hS : Sep H ([imA a_v_answers (v_answers : Any), imA a_v_day (v_day : Any), imA (.str (s23)) (v_body : Any), imA (.str (s20)) (v_title : Any), imA (.str (s17)) (v_sender : Any), cell a_v_self (.ins (G.cl 7) d_v_self [("sender", (.str (s17))), ("title", (.str (s20))), ("body", (.str (s23)))]), F] : List (Asn G)) := hS
                refine sq_nx ?_
                refine f_seq ?_
                refine c_sfld ?_
                refine ev_to (ev_var rfl) ?_
                obtain ⟨s26, hs27, hm⟩ := Ml.wp_asInt hm
                have hv28 := v_int (hS.im (i := 1) rfl) hs27
                subst hv28
                refine ev_to (ev_var rfl) ?_
                refine k_sfld (fs' := [("sender", (.str (s17))), ("title", (.str (s20))), ("body", (.str (s23))), ("day", (.int (s26)))]) hS (i := 5) rfl T.cl_Letter T.n_Letter_day rfl (by show 3 < 1000; decide) (by show decide (G.fz (G.cl 7) = some 4) = false; rw [T.fz_Letter]; rfl) rfl fun H hS => ?_
                have hS : Sep H ([imA a_v_answers (v_answers : Any), imA (.int (s26)) (v_day : Any), imA (.str (s23)) (v_body : Any), imA (.str (s20)) (v_title : Any), imA (.str (s17)) (v_sender : Any), cell a_v_self (.ins (G.cl 7) d_v_self [("sender", (.str (s17))), ("title", (.str (s20))), ("body", (.str (s23))), ("day", (.int (s26)))]), F] : List (Asn G)) := hS
                refine sq_nx ?_
                refine c_sfld ?_
                refine ev_to (ev_var rfl) ?_
                obtain ⟨s29, hs30, hm⟩ := Ml.wp_asStr hm
                have hv31 := v_str (hS.im (i := 0) rfl) hs30
                subst hv31
                refine ev_to (ev_var rfl) ?_
                refine k_sfldP (fs' := [("sender", (.str (s17))), ("title", (.str (s20))), ("body", (.str (s23))), ("day", (.int (s26))), ("answers", (.str (s29)))]) hS (i := 5) rfl T.cl_Letter T.n_Letter_answers rfl (by show 4 < 1000; decide) (by show decide (G.fz (G.cl 7) = some 5) = true; rw [T.fz_Letter]; rfl) rfl fun H hO hT hS => ?_
                have hS : Sep H ([imA (.str (s29)) (v_answers : Any), imA (.int (s26)) (v_day : Any), imA (.str (s23)) (v_body : Any), imA (.str (s20)) (v_title : Any), imA (.str (s17)) (v_sender : Any), F] : List (Asn G)) := hS
                have hS := hS.addIm (v := (.ref a_v_self)) (x := (⟨s17, s20, s23, s26, s29⟩ : Letter)) (mk_Letter T.fz_Letter hO)
                exact hm _ (hS.sel [0, 6] (by decide) rfl)
def sp_letter_of (G : Gx) : Sp := fun vs H Q E => ∃ (a_v_thing : V) (v_thing : Any) (F : Asn G), vs = [a_v_thing] ∧ Im.im G H a_v_thing v_thing ∧ Sep H ([F] : List (Asn G)) ∧ R.wp (m_letter_of v_thing) (fun r => ∀ (p : Addr) H', Sep H' ([imA (.ref p) (r : Letter), F] : List (Asn G)) → Q (.ref p) H') (fun x => ∀ H', Sep H' ([F] : List (Asn G)) → Eok G x E H')
abbrev N_letter_of : List Str := ["thing"]
theorem sc_letter_of : FnScope N_letter_of ["thing"] (defScope s_letter_of) := ⟨rfl, rfl, rfl, by decide +kernel, rfl, by decide +kernel, by decide +kernel⟩
theorem ok_letter_of (T : Txt G mg) : FnOk P w G.K mg base (L2.CX P w) 5 T.a_letter_of T.fd_letter_of ["thing"] (sp_letter_of G) := by
  have nd := sc_letter_of.nd
  refine Fun.okX T.F_letter_of sc_letter_of (fun vs H Q E h => ?_) (fun cdv A outer s H vs Q E hr h => ?_)
  · obtain ⟨a_v_thing, v_thing, F, rfl, _⟩ := h; rfl
  · obtain ⟨a_v_thing, v_thing, F, rfl, him_v_thing, hS, hm⟩ := h
    have hS := hS.addIm him_v_thing
    refine ⟨_, (pss_cons (ps_if (PW.pt (pw_or (pt_not (pt_val (pe_callB (isiK G.K) (by rfl) T.z_isinstance (by decide +kernel) (pa_cons (pv 0) (pa_cons (pe_bltn (v := .ty "tuple") (by rfl) T.z_tuple (by decide +kernel) rfl) pa_nil))))) (pw_or1 (pt_cmpR op_ne (pe_callB (lenAnyK G.K) (by rfl) T.z_len PySem.boot_len (pa_cons (pv 0) pa_nil)) pe_int (nomark _))))) (pss_one (ps_raise rfl (takes_of rfl rfl rfl rfl) (pmk_own PySem.F.excBase_ValueError T.x_NoLetter T.g_NoLetter T.kp_NoLetter (T.r_NoLetter rfl) rfl))) pss_nil)
      (pss_one (ps_ret (pe_make T.k_Letter (ok_Letter___init__ T) (hr.mono (by decide)) rfl T.g_Letter T.b_Letter___init__ .nil (passes_call (takes_of rfl rfl rfl rfl) (fun _ _ _ _ h => h)) (pa_cons (pe_ix (ix_tupK G.K) (pv 0) pe_int (fun _ _ => rfl)) (pa_cons (pe_ix (ix_tupK G.K) (pv 0) pe_int (fun _ _ => rfl)) (pa_cons (pe_ix (ix_tupK G.K) (pv 0) pe_int (fun _ _ => rfl)) (pa_cons (pe_ix (ix_tupK G.K) (pv 0) pe_int (fun _ _ => rfl)) (pa_cons (pe_ix (ix_tupK G.K) (pv 0) pe_int (fun _ _ => rfl)) pa_nil))))))))), ?_⟩
    unfold m_letter_of at hm
    refine f_seq ?_
    refine f_if ?_
    refine f_or ?_
    refine et_to (et_not (et_B (ev_isAny (ev_var rfl) ev_c (hS.im (i := 0) rfl) (by decide)))) ?_
    refine orK_J hm hS (fun hb q hm nx => ?_) (fun b1 H hm hS => ?_)
    ·
      obtain ⟨n2, hn2, hm⟩ := wp_lenA hm
      refine et_to (et_test (ev_neI (ev_lenA (ev_var rfl) (hS.im (i := 0) rfl) hn2) ev_c)) ?_
      exact nx _ _ hm (hS.sel [0, 1] (by decide) rfl)
    ·
      refine ifK_2 (fun hb3 => ?_) (fun hb3 => ?_)
      · have hm := R.wp_ifY hm hb3
        exact hm _ (hS.sel [1] (by decide) rfl)
      · have hm := R.wp_ifN hm (by first | (rw [hb3]; decide) | simpa using hb3)
        refine st_nx ?_
        refine sq_nx ?_
        refine c_ret ?_
        refine c_make ?_
        obtain ⟨xs4, h5, hm⟩ := Ml.wp_asTup hm
        obtain ⟨x6, hx6, hm⟩ := wp_idx hm
        obtain ⟨a7, vs8, he9, hg10, hM11⟩ := any_tupE (hS.im (i := 0) rfl) h5
        obtain ⟨u12, hu13, hi14⟩ := atI_im hM11 hx6
        obtain ⟨xs15, h16, hm⟩ := Ml.wp_asTup hm
        obtain ⟨x17, hx17, hm⟩ := wp_idx hm
        obtain ⟨a18, vs19, he20, hg21, hM22⟩ := any_tupE (hS.im (i := 0) rfl) h16
        obtain ⟨u23, hu24, hi25⟩ := atI_im hM22 hx17
        obtain ⟨xs26, h27, hm⟩ := Ml.wp_asTup hm
        obtain ⟨x28, hx28, hm⟩ := wp_idx hm
        obtain ⟨a29, vs30, he31, hg32, hM33⟩ := any_tupE (hS.im (i := 0) rfl) h27
        obtain ⟨u34, hu35, hi36⟩ := atI_im hM33 hx28
        obtain ⟨xs37, h38, hm⟩ := Ml.wp_asTup hm
        obtain ⟨x39, hx39, hm⟩ := wp_idx hm
        obtain ⟨a40, vs41, he42, hg43, hM44⟩ := any_tupE (hS.im (i := 0) rfl) h38
        obtain ⟨u45, hu46, hi47⟩ := atI_im hM44 hx39
        obtain ⟨xs48, h49, hm⟩ := Ml.wp_asTup hm
        obtain ⟨x50, hx50, hm⟩ := wp_idx hm
        obtain ⟨a51, vs52, he53, hg54, hM55⟩ := any_tupE (hS.im (i := 0) rfl) h49
        obtain ⟨u56, hu57, hi58⟩ := atI_im hM55 hx50
        refine ea_to (ea_cons (ev_ixT (ev_is (ev_var rfl) he9) ev_c hg10 hu13) (ea_cons (ev_ixT (ev_is (ev_var rfl) he20) ev_c hg21 hu24) (ea_cons (ev_ixT (ev_is (ev_var rfl) he31) ev_c hg32 hu35) (ea_cons (ev_ixT (ev_is (ev_var rfl) he42) ev_c hg43 hu46) (ea_cons (ev_ixT (ev_is (ev_var rfl) he53) ev_c hg54 hu57) ea_nil))))) ?_
        have hS := hS.addIm (v := u12) (x := (x6 : Any)) hi14
        have hS := hS.addIm (v := u23) (x := (x17 : Any)) hi25
        have hS := hS.addIm (v := u34) (x := (x28 : Any)) hi36
        have hS := hS.addIm (v := u45) (x := (x39 : Any)) hi47
        have hS := hS.addIm (v := u56) (x := (x50 : Any)) hi58
        intro p64 d65 np nd ne
        have hS := hS.newI (C := G.cl 7) np nd ne (by rw [T.fz_Letter]; decide)
        refine ⟨p64, d65, u12, (x6 : Any), u23, (x17 : Any), u34, (x28 : Any), u45, (x39 : Any), u56, (x50 : Any), star [imA u56 (x50 : Any), imA u45 (x39 : Any), imA u34 (x28 : Any), imA u23 (x17 : Any), imA u12 (x6 : Any), imA a_v_thing (v_thing : Any), F], rfl, (hS.im (i := 5) rfl), (hS.im (i := 4) rfl), (hS.im (i := 3) rfl), (hS.im (i := 2) rfl), (hS.im (i := 1) rfl), Sep.unstar (M := [cell p64 (.ins (G.cl 7) d65 [])]) (hS.sel [0, 1, 2, 3, 4, 5, 6, 7] (by decide) rfl : Sep _ (([cell p64 (.ins (G.cl 7) d65 [])] ++ [imA u56 (x50 : Any), imA u45 (x39 : Any), imA u34 (x28 : Any), imA u23 (x17 : Any), imA u12 (x6 : Any), imA a_v_thing (v_thing : Any), F] : List (Asn G)))), R.wp_mono (R.wp_bind hm) (fun r66 hm H hS => ⟨rfl, ?_⟩) (fun x hx H hS => ?_)⟩
        ·
          have hS : Sep H ([imA (.ref p64) (r66 : Letter), imA u56 (x50 : Any), imA u45 (x39 : Any), imA u34 (x28 : Any), imA u23 (x17 : Any), imA u12 (x6 : Any), imA a_v_thing (v_thing : Any), F] : List (Asn G)) := Sep.star (M := [imA (.ref p64) (r66 : Letter)]) hS
          exact hm _ _ (hS.sel [0, 7] (by decide) rfl)
        ·
          have hS : Sep H ([imA u56 (x50 : Any), imA u45 (x39 : Any), imA u34 (x28 : Any), imA u23 (x17 : Any), imA u12 (x6 : Any), imA a_v_thing (v_thing : Any), F] : List (Asn G)) := Sep.star (M := []) hS
          exact hx _ (hS.sel [6] (by decide) rfl)
def sp_is_hand (G : Gx) : Sp := fun vs H Q E => ∃ (a_v_thing : V) (v_thing : Any) (F : Asn G), vs = [a_v_thing] ∧ Im.im G H a_v_thing v_thing ∧ Sep H ([F] : List (Asn G)) ∧ R.wp (m_is_hand v_thing) (fun r => ∀ H', Sep H' ([F] : List (Asn G)) → Q (.bl (r)) H') (fun _ => False)
abbrev N_is_hand : List Str := ["thing", "sign"]
theorem sc_is_hand : FnScope N_is_hand ["thing"] (defScope s_is_hand) := ⟨rfl, rfl, rfl, by decide +kernel, rfl, by decide +kernel, by decide +kernel⟩
theorem ok_is_hand (T : Txt G mg) : FnOk P w G.K mg base CX0 1 T.a_is_hand T.fd_is_hand ["thing"] (sp_is_hand G) := by
  have nd := sc_is_hand.nd
  refine Fun.ok T.F_is_hand sc_is_hand (fun vs H Q E h => ?_) (fun cdv A outer s H vs Q E hr h => ?_)
  · obtain ⟨a_v_thing, v_thing, F, rfl, _⟩ := h; rfl
  · obtain ⟨a_v_thing, v_thing, F, rfl, him_v_thing, hS, hm⟩ := h
    have hS := hS.addIm him_v_thing
    refine ⟨_, (pss_cons (ps_if (PW.pt (pw_or (pt_not (pt_val (pe_callB (isiK G.K) (by rfl) T.z_isinstance (by decide +kernel) (pa_cons (pv 0) (pa_cons (pe_bltn (v := .ty "str") (by rfl) T.z_str (by decide +kernel) rfl) pa_nil))))) (pw_or1 (pt_not (pt_chain op_le op_le pe_int (pe_callB (lenAnyK G.K) (by rfl) T.z_len PySem.boot_len (pa_cons (pv 0) pa_nil)) (pe_glob (v := .int 8) rfl T.c_MOST_HAND ⟨_, rfl⟩)))))) (pss_one (ps_ret pe_bl)) pss_nil)
      (pss_one (ps_ret (pe_callB (allK G.K rfl) (by rfl) T.z_all (by decide +kernel) (pa_cons (pe_fz (pe_lc (own := [("sign", 1)]) (g := gName 1) rfl nd (pi_str (pv 0)) (blkOk_by (own := [("sign", 1)]) (N := N_is_hand) (sc := defScope s_is_hand) (by decide +kernel)) (fun _ _ _ _ _ => pg_name (i := 1) nd rfl (Or.inl rfl)) (fun _ _ _ _ _ => pts_nil) (fun _ _ _ _ _ => (pe_cmpR op_inSg (pv 1) (pe_glob (v := .str ("abcdefghijklmnopqrstuvwxyz" : Str)) rfl T.c_SMALL ⟨_, rfl⟩) (by rfl))))) pa_nil))))), ?_⟩
    unfold m_is_hand at hm
    refine f_seq ?_
    refine f_if ?_
    refine f_or ?_
    refine et_to (et_not (et_B (ev_isAny (ev_var rfl) ev_c (hS.im (i := 0) rfl) (by decide)))) ?_
    refine orK_J hm hS (fun hb q hm nx => ?_) (fun b1 H hm hS => ?_)
    ·
      obtain ⟨n2, hn2, hm⟩ := wp_lenA hm
      refine et_to (et_not (et_test (ev_chainB (a := decide (1 ≤ n2)) (b := decide (n2 ≤ 8)) ev_c (ev_lenA (ev_var rfl) (hS.im (i := 0) rfl) hn2) (fun _ => ev_c) (fun Q q => r_I0 Q q) (fun _ Q q => r_I0 Q q)))) ?_
      exact nx _ _ hm (hS.sel [0, 1] (by decide) rfl)
    ·
      refine ifK_2 (fun hb3 => ?_) (fun hb3 => ?_)
      · have hm := R.wp_ifY hm hb3
        refine c_ret ?_
        refine ev_to ev_c ?_
        exact hm _ (hS.sel [1] (by decide) rfl)
      · have hm := R.wp_ifN hm (by first | (rw [hb3]; decide) | simpa using hb3)
        refine st_nx ?_
        refine sq_nx ?_
        refine c_ret ?_
        refine c_cb ?_
        refine c_cons ?_
        refine c_fz ?_
        refine c_lc ?_
        refine c_is ?_
        obtain ⟨s4, hs5, hm⟩ := Ml.wp_asStr hm
        have hv6 := v_str (hS.im (i := 0) rfl) hs5
        subst hv6
        refine ev_to (ev_var rfl) ?_
        refine k_is ?_
        obtain ⟨h7, hm⟩ := R.wp_need hm
        refine lc_sep (β := Bool) (fun (_ : Unit) => ([imA (.str (s4)) (v_thing : Any), F] : List (Asn G))) (s := ()) (im := (fun _ v (c : Nat) => v = .str (sg c))) hS (fun _ _ _ => wk_str) h7 hm (fun p8 _ ys11 x9 v10 H q Nx hS hx hm kS kN => ?_) (fun p8 t H hm hS => ?_)
        ·
          cases hx
          refine c_gLc (σ' := [some (.str (s4)), some (.str (sg (x9)))]) rfl rfl ?_
          refine c_yes ?_
          refine ev_to (ev_inSg (c := x9) (ev_var rfl) ev_c) ?_
          exact kS () _ _ _ hm rfl (hS.sel [0, 1, 2] (by decide) rfl)
        · revert hm hS; generalize t = t12; intro hm hS
          refine fz_no ?_
          refine c_nil ?_
          refine ⟨_, _, rfl, (hS.sqF (i := 0) rfl), ?_⟩
          exact hm _ (hS.sel [2] (by decide) rfl)
def sp_is_parts (G : Gx) : Sp := fun vs H Q E => ∃ (a_v_thing : V) (v_thing : Any) (F : Asn G), vs = [a_v_thing] ∧ Im.im G H a_v_thing v_thing ∧ Sep H ([F] : List (Asn G)) ∧ R.wp (m_is_parts v_thing) (fun r => ∀ H', Sep H' ([F] : List (Asn G)) → Q (.bl (r)) H') (fun _ => False)
abbrev N_is_parts : List Str := ["thing"]
theorem sc_is_parts : FnScope N_is_parts ["thing"] (defScope s_is_parts) := ⟨rfl, rfl, rfl, by decide +kernel, rfl, by decide +kernel, by decide +kernel⟩
theorem ok_is_parts (T : Txt G mg) : FnOk P w G.K mg base CX0 6 T.a_is_parts T.fd_is_parts ["thing"] (sp_is_parts G) := by
  have nd := sc_is_parts.nd
  refine Fun.ok T.F_is_parts sc_is_parts (fun vs H Q E h => ?_) (fun cdv A outer s H vs Q E hr h => ?_)
  · obtain ⟨a_v_thing, v_thing, F, rfl, _⟩ := h; rfl
  · obtain ⟨a_v_thing, v_thing, F, rfl, him_v_thing, hS, hm⟩ := h
    have hS := hS.addIm him_v_thing
    refine ⟨_, (pss_cons (ps_try_only rfl rfl ⟨rfl, by decide, .inl T.g_NoLetter⟩ takes0 (fun W pn xe tk po => (pss_one (ps_expr (pe_callSD (ok_letter_of T) (hr.mono (by decide)) rfl T.g_letter_of T.kp_letter_of T.b_letter_of .nil (fun σ => passAt tk σ) (pa_cons (pv 0) pa_nil))))) (fun a oe cls d pn _ _ => (pss_one (ps_ret pe_bl))))
      (pss_one (ps_ret pe_bl))), ?_⟩
    unfold m_is_parts at hm
    refine f_seq ?_
    refine c_drop ?_
    refine c_callSD ?_
    refine ea_to (ea_cons (ev_var rfl) ea_nil) ?_
    refine ⟨a_v_thing, (v_thing : Any), star [imA a_v_thing (v_thing : Any), F], rfl, (hS.im (i := 0) rfl), Sep.unstar (M := []) (hS.sel [0, 1] (by decide) rfl : Sep H (([] ++ [imA a_v_thing (v_thing : Any), F] : List (Asn G)))), R.wp_mono (R.wp_tryC hm) (fun r1 hm p2 H hS => ?_) (fun x hx H hS => ?_)⟩
    ·
      have hS : Sep H ([imA (.ref p2) (r1 : Letter), imA a_v_thing (v_thing : Any), F] : List (Asn G)) := Sep.star (M := [imA (.ref p2) (r1 : Letter)]) hS
      refine sq_nx ?_
      refine c_ret ?_
      refine ev_to ev_c ?_
      exact hm _ (hS.sel [2] (by decide) rfl)
    ·
      have hS : Sep H ([imA a_v_thing (v_thing : Any), F] : List (Asn G)) := Sep.star (M := []) hS
      refine w_only (fun z => T.ex_NoLetter z) hx (fun hm ea na => ?_) (fun hm => ?_)
      ·
        refine c_ret ?_
        refine ev_to ev_c ?_
        exact hm _ (hS.sel [1] (by decide) rfl)
      ·
        exact hm.elim
def sp_is_deed (G : Gx) : Sp := fun vs H Q E => ∃ (a_v_thing : V) (v_thing : Any) (F : Asn G), vs = [a_v_thing] ∧ Im.im G H a_v_thing v_thing ∧ Sep H ([F] : List (Asn G)) ∧ R.wp (m_is_deed v_thing) (fun r => ∀ H', Sep H' ([F] : List (Asn G)) → Q (.bl (r)) H') (fun _ => False)
abbrev N_is_deed : List Str := ["thing"]
theorem sc_is_deed : FnScope N_is_deed ["thing"] (defScope s_is_deed) := ⟨rfl, rfl, rfl, by decide +kernel, rfl, by decide +kernel, by decide +kernel⟩
theorem ok_is_deed (T : Txt G mg) : FnOk P w G.K mg base CX0 7 T.a_is_deed T.fd_is_deed ["thing"] (sp_is_deed G) := by
  have nd := sc_is_deed.nd
  refine Fun.ok T.F_is_deed sc_is_deed (fun vs H Q E h => ?_) (fun cdv A outer s H vs Q E hr h => ?_)
  · obtain ⟨a_v_thing, v_thing, F, rfl, _⟩ := h; rfl
  · obtain ⟨a_v_thing, v_thing, F, rfl, him_v_thing, hS, hm⟩ := h
    have hS := hS.addIm him_v_thing
    refine ⟨_, (pss_cons (ps_if (PW.pt (pw_or (pt_not (pt_val (pe_callB (isiK G.K) (by rfl) T.z_isinstance (by decide +kernel) (pa_cons (pv 0) (pa_cons (pe_bltn (v := .ty "tuple") (by rfl) T.z_tuple (by decide +kernel) rfl) pa_nil))))) (pw_or (pt_cmpR op_lt (pe_callB (lenAnyK G.K) (by rfl) T.z_len PySem.boot_len (pa_cons (pv 0) pa_nil)) pe_int (nomark _)) (pw_or (pt_not (pt_val (pe_callB (isiK G.K) (by rfl) T.z_isinstance (by decide +kernel) (pa_cons (pe_ix (ix_tupK G.K) (pv 0) pe_int (fun _ _ => rfl)) (pa_cons (pe_bltn (v := .ty "str") (by rfl) T.z_str (by decide +kernel) rfl) pa_nil))))) (pw_or1 (pt_not (pt_val (pe_call (ok_is_word T) (hr.mono (by decide)) rfl T.g_is_word T.kp_is_word T.b_is_word .nil pass0 (pa_cons (pe_ix (ix_tupK G.K) (pv 0) pe_int (fun _ _ => rfl)) pa_nil))))))))) (pss_one (ps_ret pe_bl)) pss_nil)
      (pss_cons (ps_if (pt_cmpR (eqDK G.K hr.units) (pe_ix (ix_tupK G.K) (pv 0) pe_int (fun _ _ => rfl)) pe_str (nomark _)) (pss_one (ps_ret (pe_cmpR op_eq (pe_callB (lenAnyK G.K) (by rfl) T.z_len PySem.boot_len (pa_cons (pv 0) pa_nil)) pe_int (nomark _)))) pss_nil)
      (pss_cons (ps_if (pt_cmpR (eqDK G.K hr.units) (pe_ix (ix_tupK G.K) (pv 0) pe_int (fun _ _ => rfl)) pe_str (nomark _)) (pss_one (ps_ret (pe_and (pe_cmpR op_eq (pe_callB (lenAnyK G.K) (by rfl) T.z_len PySem.boot_len (pa_cons (pv 0) pa_nil)) pe_int (nomark _)) (pe_one (pe_call (ok_is_parts T) (hr.mono (by decide)) rfl T.g_is_parts T.kp_is_parts T.b_is_parts .nil pass0 (pa_cons (pe_ix (ix_tupK G.K) (pv 0) pe_int (fun _ _ => rfl)) pa_nil)))))) pss_nil)
      (pss_cons (ps_if (pt_cmpR (eqDK G.K hr.units) (pe_ix (ix_tupK G.K) (pv 0) pe_int (fun _ _ => rfl)) pe_str (nomark _)) (pss_one (ps_ret (pe_and (pe_cmpR op_eq (pe_callB (lenAnyK G.K) (by rfl) T.z_len PySem.boot_len (pa_cons (pv 0) pa_nil)) pe_int (nomark _)) (pe_one (pe_call (ok_is_word T) (hr.mono (by decide)) rfl T.g_is_word T.kp_is_word T.b_is_word .nil pass0 (pa_cons (pe_ix (ix_tupK G.K) (pv 0) pe_int (fun _ _ => rfl)) pa_nil)))))) pss_nil)
      (pss_one (ps_ret (pe_and (pe_cmpR (eqDK G.K hr.units) (pe_ix (ix_tupK G.K) (pv 0) pe_int (fun _ _ => rfl)) pe_str (nomark _)) (pe_and (pe_cmpR op_eq (pe_callB (lenAnyK G.K) (by rfl) T.z_len PySem.boot_len (pa_cons (pv 0) pa_nil)) pe_int (nomark _)) (pe_and (pe_call (ok_is_word T) (hr.mono (by decide)) rfl T.g_is_word T.kp_is_word T.b_is_word .nil pass0 (pa_cons (pe_ix (ix_tupK G.K) (pv 0) pe_int (fun _ _ => rfl)) pa_nil)) (pe_one (pe_callB (isiK G.K) (by rfl) T.z_isinstance (by decide +kernel) (pa_cons (pe_ix (ix_tupK G.K) (pv 0) pe_int (fun _ _ => rfl)) (pa_cons (pe_bltn (v := .ty "bool") (by rfl) T.z_bool (by decide +kernel) rfl) pa_nil))))))))))))), ?_⟩
    unfold m_is_deed at hm
    refine f_seq ?_
    refine f_if ?_
    refine f_or ?_
    refine et_to (et_not (et_B (ev_isAny (ev_var rfl) ev_c (hS.im (i := 0) rfl) (by decide)))) ?_
    refine orK_J hm hS (fun hb q hm nx => ?_) (fun b1 H hm hS => ?_)
    ·
      refine f_or ?_
      obtain ⟨n2, hn2, hm⟩ := wp_lenA hm
      refine et_to (et_test (ev_i0 (ev_lenA (ev_var rfl) (hS.im (i := 0) rfl) hn2) ev_c)) ?_
      refine orK_J hm hS (fun hb q hm nx => ?_) (fun b3 H hm hS => ?_)
      ·
        refine f_or ?_
        obtain ⟨xs4, h5, hm⟩ := Ml.wp_asTup hm
        obtain ⟨x6, hx6, hm⟩ := wp_idx hm
        obtain ⟨a7, vs8, he9, hg10, hM11⟩ := any_tupE (hS.im (i := 0) rfl) h5
        obtain ⟨u12, hu13, hi14⟩ := atI_im hM11 hx6
        refine et_to (et_not (et_B (ev_isAny (ev_ixT (ev_is (ev_var rfl) he9) ev_c hg10 hu13) ev_c hi14 (by decide)))) ?_
        refine orK_J hm hS (fun hb q hm nx => ?_) (fun b15 H hm hS => ?_)
        ·
          refine f_not ?_
          refine f_B ?_
          refine c_call ?_
          obtain ⟨xs16, h17, hm⟩ := Ml.wp_asTup hm
          obtain ⟨x18, hx18, hm⟩ := wp_idx hm
          obtain ⟨a19, vs20, he21, hg22, hM23⟩ := any_tupE (hS.im (i := 0) rfl) h17
          obtain ⟨u24, hu25, hi26⟩ := atI_im hM23 hx18
          refine ea_to (ea_cons (ev_ixT (ev_is (ev_var rfl) he21) ev_c hg22 hu25) ea_nil) ?_
          have hS := hS.addIm (v := u24) (x := (x18 : Any)) hi26
          refine ⟨u24, (x18 : Any), star [imA u24 (x18 : Any), imA a_v_thing (v_thing : Any), F], rfl, (hS.im (i := 0) rfl), Sep.unstar (M := []) (hS.sel [0, 1, 2] (by decide) rfl : Sep H (([] ++ [imA u24 (x18 : Any), imA a_v_thing (v_thing : Any), F] : List (Asn G)))), R.wp_mono (R.wp_bind hm) (fun r28 hm H hS => ?_) (fun _ z => z)⟩
          have hS : Sep H ([imA u24 (x18 : Any), imA a_v_thing (v_thing : Any), F] : List (Asn G)) := Sep.star (M := []) hS
          refine f_bl ?_
          refine f_nK ?_
          exact nx _ _ hm (hS.sel [1, 2] (by decide) rfl)
        ·
          exact nx _ _ hm (hS.sel [0, 1] (by decide) rfl)
      ·
        exact nx _ _ hm (hS.sel [0, 1] (by decide) rfl)
    ·
      refine ifK_2 (fun hb29 => ?_) (fun hb29 => ?_)
      · have hm := R.wp_ifY hm hb29
        refine c_ret ?_
        refine ev_to ev_c ?_
        exact hm _ (hS.sel [1] (by decide) rfl)
      · have hm := R.wp_ifN hm (by first | (rw [hb29]; decide) | simpa using hb29)
        refine st_nx ?_
        refine sq_nx ?_
        refine f_seq ?_
        refine f_if ?_
        obtain ⟨xs30, h31, hm⟩ := Ml.wp_asTup hm
        obtain ⟨x32, hx32, hm⟩ := wp_idx hm
        obtain ⟨a33, vs34, he35, hg36, hM37⟩ := any_tupE (hS.im (i := 0) rfl) h31
        obtain ⟨u38, hu39, hi40⟩ := atI_im hM37 hx32
        obtain ⟨b41, hb41, hm⟩ := wp_eqA hm
        refine et_to (et_test (ev_eqA (ev_ixT (ev_is (ev_var rfl) he35) ev_c hg36 hu39) ev_c hi40 (any_str.mpr rfl) hb41)) ?_
        refine ifK_2 (fun hb42 => ?_) (fun hb42 => ?_)
        · have hm := R.wp_ifY hm hb42
          refine c_ret ?_
          obtain ⟨n43, hn43, hm⟩ := wp_lenA hm
          refine ev_to (ev_eqI (ev_lenA (ev_var rfl) (hS.im (i := 0) rfl) hn43) ev_c) ?_
          exact hm _ (hS.sel [1] (by decide) rfl)
        · have hm := R.wp_ifN hm (by first | (rw [hb42]; decide) | simpa using hb42)
          refine st_nx ?_
          refine sq_nx ?_
          refine f_seq ?_
          refine f_if ?_
          obtain ⟨xs44, h45, hm⟩ := Ml.wp_asTup hm
          obtain ⟨x46, hx46, hm⟩ := wp_idx hm
          obtain ⟨a47, vs48, he49, hg50, hM51⟩ := any_tupE (hS.im (i := 0) rfl) h45
          obtain ⟨u52, hu53, hi54⟩ := atI_im hM51 hx46
          obtain ⟨b55, hb55, hm⟩ := wp_eqA hm
          refine et_to (et_test (ev_eqA (ev_ixT (ev_is (ev_var rfl) he49) ev_c hg50 hu53) ev_c hi54 (any_str.mpr rfl) hb55)) ?_
          refine ifK_2 (fun hb56 => ?_) (fun hb56 => ?_)
          · have hm := R.wp_ifY hm hb56
            refine c_ret ?_
            refine f_andV ?_
            obtain ⟨n57, hn57, hm⟩ := wp_lenA hm
            refine ev_to (ev_eqI (ev_lenA (ev_var rfl) (hS.im (i := 0) rfl) hn57) ev_c) ?_
            refine andVK_J hm hS (fun hb q hm nx => ?_) (fun b58 H hm hS => ?_)
            ·
              refine c_call ?_
              obtain ⟨xs59, h60, hm⟩ := Ml.wp_asTup hm
              obtain ⟨x61, hx61, hm⟩ := wp_idx hm
              obtain ⟨a62, vs63, he64, hg65, hM66⟩ := any_tupE (hS.im (i := 0) rfl) h60
              obtain ⟨u67, hu68, hi69⟩ := atI_im hM66 hx61
              refine ea_to (ea_cons (ev_ixT (ev_is (ev_var rfl) he64) ev_c hg65 hu68) ea_nil) ?_
              have hS := hS.addIm (v := u67) (x := (x61 : Any)) hi69
              refine ⟨u67, (x61 : Any), star [imA u67 (x61 : Any), imA a_v_thing (v_thing : Any), F], rfl, (hS.im (i := 0) rfl), Sep.unstar (M := []) (hS.sel [0, 1, 2] (by decide) rfl : Sep H (([] ++ [imA u67 (x61 : Any), imA a_v_thing (v_thing : Any), F] : List (Asn G)))), R.wp_mono (R.wp_bind hm) (fun r71 hm H hS => ?_) (fun _ z => z)⟩
              have hS : Sep H ([imA u67 (x61 : Any), imA a_v_thing (v_thing : Any), F] : List (Asn G)) := Sep.star (M := []) hS
              exact nx _ _ hm (hS.sel [1, 2] (by decide) rfl)
            ·
              exact hm _ (hS.sel [1] (by decide) rfl)
          · have hm := R.wp_ifN hm (by first | (rw [hb56]; decide) | simpa using hb56)
            refine st_nx ?_
            refine sq_nx ?_
            refine f_seq ?_
            refine f_if ?_
            obtain ⟨xs72, h73, hm⟩ := Ml.wp_asTup hm
            obtain ⟨x74, hx74, hm⟩ := wp_idx hm
            obtain ⟨a75, vs76, he77, hg78, hM79⟩ := any_tupE (hS.im (i := 0) rfl) h73
            obtain ⟨u80, hu81, hi82⟩ := atI_im hM79 hx74
            obtain ⟨b83, hb83, hm⟩ := wp_eqA hm
            refine et_to (et_test (ev_eqA (ev_ixT (ev_is (ev_var rfl) he77) ev_c hg78 hu81) ev_c hi82 (any_str.mpr rfl) hb83)) ?_
            refine ifK_2 (fun hb84 => ?_) (fun hb84 => ?_)
            · have hm := R.wp_ifY hm hb84
              refine c_ret ?_
              refine f_andV ?_
              obtain ⟨n85, hn85, hm⟩ := wp_lenA hm
              refine ev_to (ev_eqI (ev_lenA (ev_var rfl) (hS.im (i := 0) rfl) hn85) ev_c) ?_
              refine andVK_J hm hS (fun hb q hm nx => ?_) (fun b86 H hm hS => ?_)
              ·
                refine c_call ?_
                obtain ⟨xs87, h88, hm⟩ := Ml.wp_asTup hm
                obtain ⟨x89, hx89, hm⟩ := wp_idx hm
                obtain ⟨a90, vs91, he92, hg93, hM94⟩ := any_tupE (hS.im (i := 0) rfl) h88
                obtain ⟨u95, hu96, hi97⟩ := atI_im hM94 hx89
                refine ea_to (ea_cons (ev_ixT (ev_is (ev_var rfl) he92) ev_c hg93 hu96) ea_nil) ?_
                have hS := hS.addIm (v := u95) (x := (x89 : Any)) hi97
                refine ⟨u95, (x89 : Any), star [imA u95 (x89 : Any), imA a_v_thing (v_thing : Any), F], rfl, (hS.im (i := 0) rfl), Sep.unstar (M := []) (hS.sel [0, 1, 2] (by decide) rfl : Sep H (([] ++ [imA u95 (x89 : Any), imA a_v_thing (v_thing : Any), F] : List (Asn G)))), R.wp_mono (R.wp_bind hm) (fun r99 hm H hS => ?_) (fun _ z => z)⟩
                have hS : Sep H ([imA u95 (x89 : Any), imA a_v_thing (v_thing : Any), F] : List (Asn G)) := Sep.star (M := []) hS
                exact nx _ _ hm (hS.sel [1, 2] (by decide) rfl)
              ·
                exact hm _ (hS.sel [1] (by decide) rfl)
            · have hm := R.wp_ifN hm (by first | (rw [hb84]; decide) | simpa using hb84)
              refine st_nx ?_
              refine sq_nx ?_
              refine c_ret ?_
              refine f_andV ?_
              obtain ⟨xs100, h101, hm⟩ := Ml.wp_asTup hm
              obtain ⟨x102, hx102, hm⟩ := wp_idx hm
              obtain ⟨a103, vs104, he105, hg106, hM107⟩ := any_tupE (hS.im (i := 0) rfl) h101
              obtain ⟨u108, hu109, hi110⟩ := atI_im hM107 hx102
              obtain ⟨b111, hb111, hm⟩ := wp_eqA hm
              refine ev_to (ev_eqA (ev_ixT (ev_is (ev_var rfl) he105) ev_c hg106 hu109) ev_c hi110 (any_str.mpr rfl) hb111) ?_
              refine andVK_J hm hS (fun hb q hm nx => ?_) (fun b112 H hm hS => ?_)
              ·
                refine f_andV ?_
                obtain ⟨n113, hn113, hm⟩ := wp_lenA hm
                refine ev_to (ev_eqI (ev_lenA (ev_var rfl) (hS.im (i := 0) rfl) hn113) ev_c) ?_
                refine andVK_J hm hS (fun hb q hm nx => ?_) (fun b114 H hm hS => ?_)
                ·
                  refine f_andV ?_
                  refine c_call ?_
                  obtain ⟨xs115, h116, hm⟩ := Ml.wp_asTup hm
                  obtain ⟨x117, hx117, hm⟩ := wp_idx hm
                  obtain ⟨a118, vs119, he120, hg121, hM122⟩ := any_tupE (hS.im (i := 0) rfl) h116
                  obtain ⟨u123, hu124, hi125⟩ := atI_im hM122 hx117
                  refine ea_to (ea_cons (ev_ixT (ev_is (ev_var rfl) he120) ev_c hg121 hu124) ea_nil) ?_
                  have hS := hS.addIm (v := u123) (x := (x117 : Any)) hi125
                  refine ⟨u123, (x117 : Any), star [imA u123 (x117 : Any), imA a_v_thing (v_thing : Any), F], rfl, (hS.im (i := 0) rfl), Sep.unstar (M := []) (hS.sel [0, 1, 2] (by decide) rfl : Sep H (([] ++ [imA u123 (x117 : Any), imA a_v_thing (v_thing : Any), F] : List (Asn G)))), R.wp_mono (R.wp_bind hm) (fun r127 hm H hS => ?_) (fun _ z => z)⟩
                  have hS : Sep H ([imA u123 (x117 : Any), imA a_v_thing (v_thing : Any), F] : List (Asn G)) := Sep.star (M := []) hS
                  refine andVK_J hm hS (fun hb q hm nx => ?_) (fun b128 H hm hS => ?_)
                  ·
                    obtain ⟨xs129, h130, hm⟩ := Ml.wp_asTup hm
                    obtain ⟨x131, hx131, hm⟩ := wp_idx hm
                    obtain ⟨a132, vs133, he134, hg135, hM136⟩ := any_tupE (hS.im (i := 1) rfl) h130
                    obtain ⟨u137, hu138, hi139⟩ := atI_im hM136 hx131
                    refine ev_to (ev_isAny (ev_ixT (ev_is (ev_var rfl) he134) ev_c hg135 hu138) ev_c hi139 (by decide)) ?_
                    exact nx _ _ hm (hS.sel [0, 1, 2] (by decide) rfl)
                  ·
                    exact nx _ _ hm (hS.sel [1, 2] (by decide) rfl)
                ·
                  exact nx _ _ hm (hS.sel [0, 1] (by decide) rfl)
              ·
                exact hm _ (hS.sel [1] (by decide) rfl)
abbrev N_stamp_of : List Str := ["stamped"]
theorem sc_stamp_of : FnScope N_stamp_of ["stamped"] (defScope s_stamp_of) := ⟨rfl, rfl, rfl, by decide +kernel, rfl, by decide +kernel, by decide +kernel⟩
theorem key_stamp_of (T : Txt G mg) : KeyF P w G.K T.a_stamp_of := keyF_of T.F_stamp_of sc_stamp_of (by decide +kernel) rfl T.b_stamp_of (by decide)
def sp_need_follows (G : Gx) : Sp := fun vs H Q E => ∃ (a_v_rows : Addr) (v_rows : (List (T4 Int Str Int Any))) (a_v_stamped : Addr) (v_stamped : (T4 Int Str Int Any)) (F : Asn G), vs = [.ref a_v_rows, (.ref a_v_stamped)] ∧ Im.im G H (.ref a_v_stamped) v_stamped ∧ Sep H ([lstA a_v_rows (v_rows : (List (T4 Int Str Int Any))), F] : List (Asn G)) ∧ R.wp (m_need_follows v_rows v_stamped) (fun r => ∀ H', Sep H' ([lstA a_v_rows (v_rows : (List (T4 Int Str Int Any))), F] : List (Asn G)) → Q .non H') (fun x => ∀ H', Sep H' ([lstA a_v_rows (v_rows : (List (T4 Int Str Int Any))), F] : List (Asn G)) → Eok G x E H')
abbrev N_need_follows : List Str := ["rows", "stamped", "clock", "hand", "number", "deed", "one", "puts"]
theorem sc_need_follows : FnScope N_need_follows ["rows", "stamped"] (defScope s_need_follows) := ⟨rfl, rfl, rfl, by decide +kernel, rfl, by decide +kernel, by decide +kernel⟩
theorem ok_need_follows (T : Txt G mg) : FnOk P w G.K mg base (L2.CX P w) 1 T.a_need_follows T.fd_need_follows ["rows", "stamped"] (sp_need_follows G) := by
  have nd := sc_need_follows.nd
  refine Fun.okX T.F_need_follows sc_need_follows (fun vs H Q E h => ?_) (fun cdv A outer s H vs Q E hr h => ?_)
  · obtain ⟨a_v_rows, v_rows, a_v_stamped, v_stamped, F, rfl, _⟩ := h; rfl
  · obtain ⟨a_v_rows, v_rows, a_v_stamped, v_stamped, F, rfl, him_v_stamped, hS, hm⟩ := h
    have hS := hS.addIm him_v_stamped
    refine ⟨_, (pss_cons (ps_asg (pv 1) (pg_tupK (n := 4) G.K rfl rfl (pgs_cons (pg_name (i := 2) nd rfl (Or.inl rfl)) (pgs_cons (pg_name (i := 3) nd rfl (Or.inl rfl)) (pgs_cons (pg_name (i := 4) nd rfl (Or.inl rfl)) (pgs_cons (pg_name (i := 5) nd rfl (Or.inl rfl)) pgs_nil))))))
      (pss_cons (ps_if (pt_cmpR op_ne (pv 4) (pe_op op_add (pe_callB (lenSqK G.K) (by rfl) T.z_len PySem.boot_len (pa_cons (pe_fz (pv 0)) pa_nil)) pe_int) (nomark _)) (pss_one (ps_raise rfl (takes_of rfl rfl rfl rfl) (pmk_own PySem.F.excBase_ValueError T.x_NoParcel T.g_NoParcel T.kp_NoParcel (T.r_NoParcel rfl) rfl))) pss_nil)
      (pss_cons (ps_if (PW.pt (pw_and (pt_cmpR op_gt (pe_callB (lenSqK G.K) (by rfl) T.z_len PySem.boot_len (pa_cons (pe_fz (pv 0)) pa_nil)) pe_int (nomark _)) (pw_and1 (pt_cmpR op_le (pv 2) (pe_ix (ix_tupK G.K) (pe_ix (ix_listK G.K) (pe_fz (pv 0)) (pe_un un_neg pe_int) (fun _ _ => rfl)) pe_int (fun _ _ => rfl)) (nomark _))))) (pss_one (ps_raise rfl (takes_of rfl rfl rfl rfl) (pmk_own PySem.F.excBase_ValueError T.x_NoParcel T.g_NoParcel T.kp_NoParcel (T.r_NoParcel rfl) rfl))) pss_nil)
      (pss_cons (ps_setLc (i := 7) (own := [("one", 6)]) (g := gName 6) rfl nd rfl rfl (sw_true rfl rfl rfl (by decide +kernel)) (pi_listK G.K (pe_fz (pv 0))) (blkOk_by (own := [("one", 6)]) (N := N_need_follows) (sc := defScope s_need_follows) (by decide +kernel)) (fun _ _ _ _ _ => pg_name (i := 6) nd rfl (Or.inl rfl)) (fun _ _ _ _ _ => pts_one (pt_cmpR (eqDK G.K hr.units) (pe_ix (ix_tupK G.K) (pe_ix (ix_tupK G.K) (pv 6) pe_int (fun _ _ => rfl)) pe_int (fun _ _ => rfl)) pe_str (nomark _))) (fun _ _ _ _ _ => (pv 6)))
      (pss_one (ps_if (PW.pt (pw_and (pt_cmpR (eqDK G.K hr.units) (pe_ix (ix_tupK G.K) (pv 5) pe_int (fun _ _ => rfl)) pe_str (nomark _)) (pw_and1 (pt_cmpR (neDK G.K hr.units) (pe_ix (ix_tupK G.K) (pv 5) pe_int (fun _ _ => rfl)) (pe_op op_catS (pv 3) (pe_callTy call_str_int (by rfl) T.z_str (by decide +kernel) (pa_cons (pe_op op_add (pe_callB (lenSqK G.K) (by rfl) T.z_len PySem.boot_len (pa_cons (pe_fz (pv 7)) pa_nil)) pe_int) pa_nil))) (nomark _))))) (pss_one (ps_raise rfl (takes_of rfl rfl rfl rfl) (pmk_own PySem.F.excBase_ValueError T.x_NoParcel T.g_NoParcel T.kp_NoParcel (T.r_NoParcel rfl) rfl))) pss_nil)))))), ?_⟩
    unfold m_need_follows at hm
    refine f_seq ?_
    refine c_asgG ?_
    refine ev_to (ev_var rfl) ?_
    refine k_asgG ?_
    obtain ⟨u1, u2, u3, u4, hT9, h5, h6, h7, h8⟩ := im4 (hS.im (i := 0) rfl)
    obtain rfl : u1 = (.int (v_stamped.a)) := h5
    obtain rfl : u2 = (.str (v_stamped.b)) := h6
    obtain rfl : u3 = (.int (v_stamped.c)) := h7
    have hS := hS.addIm (v := u4) (x := (v_stamped.d : Any)) h8
    refine k_gT hT9 rfl ?_
    refine k_gC (σ' := [some (.ref a_v_rows), some (.ref a_v_stamped), some (.int (v_stamped.a)), none, none, none, none, none]) rfl ?_
    refine k_gC (σ' := [some (.ref a_v_rows), some (.ref a_v_stamped), some (.int (v_stamped.a)), some (.str (v_stamped.b)), none, none, none, none]) rfl ?_
    refine k_gC (σ' := [some (.ref a_v_rows), some (.ref a_v_stamped), some (.int (v_stamped.a)), some (.str (v_stamped.b)), some (.int (v_stamped.c)), none, none, none]) rfl ?_
    refine k_gC (σ' := [some (.ref a_v_rows), some (.ref a_v_stamped), some (.int (v_stamped.a)), some (.str (v_stamped.b)), some (.int (v_stamped.c)), some u4, none, none]) rfl ?_
    refine k_gE ?_
    refine sq_nx ?_
    refine f_seq ?_
    refine f_if ?_
    refine et_to (et_test (ev_neI (ev_var rfl) (ev_add (ev_lenG (ev_fz (ev_var rfl)) (hS.sq (i := 2) rfl)) ev_c))) ?_
    refine ifK_2 (fun hb11 => ?_) (fun hb11 => ?_)
    · have hm := R.wp_ifY hm hb11
      exact hm _ (hS.sel [2, 3] (by decide) rfl)
    · have hm := R.wp_ifN hm (by first | (rw [hb11]; decide) | simpa using hb11)
      refine st_nx ?_
      refine sq_nx ?_
      refine f_seq ?_
      refine f_if ?_
      refine f_and ?_
      refine et_to (et_test (ev_i0 (ev_lenG (ev_fz (ev_var rfl)) (hS.sq (i := 2) rfl)) ev_c)) ?_
      refine andK_J hm hS (fun hb q hm nx => ?_) (fun b12 H hm hS => ?_)
      ·
        obtain ⟨x13, hx13, hm⟩ := wp_idx hm
        obtain ⟨vs14, hq15, hM16⟩ := hS.sq (i := 2) rfl
        obtain ⟨u17, hu18, hi19⟩ := atI_im hM16 hx13
        obtain ⟨a20, rfl⟩ := isref hi19
        obtain ⟨u21, u22, u23, u24, hT29, h25, h26, h27, h28⟩ := im4 hi19
        obtain rfl : u21 = (.int (x13.a)) := h25
        obtain rfl : u22 = (.str (x13.b)) := h26
        obtain rfl : u23 = (.int (x13.c)) := h27
        refine et_to (et_test (ev_i0 (ev_var rfl) (ev_ixT (ev_ixSq (ev_fz (ev_var rfl)) (ev_un ev_c fun _ q => ⟨_, rfl, q⟩) hq15 hu18) ev_c hT29 rfl))) ?_
        exact nx _ _ hm (hS.sel [0, 1, 2, 3] (by decide) rfl)
      ·
        refine ifK_2 (fun hb30 => ?_) (fun hb30 => ?_)
        · have hm := R.wp_ifY hm hb30
          exact hm _ (hS.sel [2, 3] (by decide) rfl)
        · have hm := R.wp_ifN hm (by first | (rw [hb30]; decide) | simpa using hb30)
          refine st_nx ?_
          refine sq_nx ?_
          refine f_seq ?_
          refine c_asg ?_
          refine c_lc ?_
          refine c_il ?_
          refine ev_to (ev_fz (ev_var rfl)) ?_
          refine k_il hS (i := 2) rfl ?_
          obtain ⟨h31, hm⟩ := R.wp_need hm
          refine lc_sep (β := (T4 Int Str Int Any)) (fun (_ : Unit) => ([imA u4 (v_stamped.d : Any), imA (.ref a_v_stamped) (v_stamped : (T4 Int Str Int Any)), lstA a_v_rows (v_rows : (List (T4 Int Str Int Any))), F] : List (Asn G))) (s := ()) (im := (Im.im G)) hS (fun _ _ _ => wk_list fun _ _ h => h.sq (i := 3) rfl) h31 hm (fun p32 _ ys35 x33 v34 H q Nx hS hx hm kS kN => ?_) (fun p32 t H hm hS => ?_)
          ·
            obtain ⟨a36, rfl⟩ := isref hx
            have hS := hS.addIm (v := (.ref a36)) (x := (x33 : (T4 Int Str Int Any))) hx
            refine c_gLc (σ' := [some (.ref a_v_rows), some (.ref a_v_stamped), some (.int (v_stamped.a)), some (.str (v_stamped.b)), some (.int (v_stamped.c)), some u4, some (.ref a36), none]) rfl rfl ?_
            obtain ⟨u38, u39, u40, u41, hT46, h42, h43, h44, h45⟩ := im4 (hS.im (i := 0) rfl)
            obtain rfl : u38 = (.int (x33.a)) := h42
            obtain rfl : u39 = (.str (x33.b)) := h43
            obtain rfl : u40 = (.int (x33.c)) := h44
            obtain ⟨xs47, h48, hm⟩ := Ml.wp_asTup hm
            obtain ⟨x49, hx49, hm⟩ := wp_idx hm
            obtain ⟨a50, vs51, he52, hg53, hM54⟩ := any_tupE h45 h48
            obtain ⟨u55, hu56, hi57⟩ := atI_im hM54 hx49
            obtain ⟨b58, hb58, hm⟩ := wp_eqA hm
            refine et_to (et_test (ev_eqA (ev_ixT (ev_is (ev_ixT (ev_var rfl) ev_c hT46 rfl) he52) ev_c hg53 hu56) ev_c hi57 (any_str.mpr rfl) hb58)) ?_
            refine lc_if (fun hb59 => ?_) (fun hb59 => ?_)
            · have hm := R.wp_ifY hm hb59
              refine ev_to (ev_var rfl) ?_
              exact kS () _ _ _ hm (hS.im (i := 0) rfl) (hS.sel [1, 2, 3, 4, 5] (by decide) rfl)
            · have hm := R.wp_ifN hm (by first | (rw [hb59]; decide) | simpa using hb59)
              exact kN () _ hm (hS.sel [1, 2, 3, 4, 5] (by decide) rfl)
          · revert hm hS; generalize t = t60; intro hm hS
            refine c_set (σ' := [some (.ref a_v_rows), some (.ref a_v_stamped), some (.int (v_stamped.a)), some (.str (v_stamped.b)), some (.int (v_stamped.c)), some u4, none, some (.ref p32)]) rfl ?_
            refine sq_nx ?_
            refine f_if ?_
            refine f_and ?_
            obtain ⟨xs61, h62, hm⟩ := Ml.wp_asTup hm
            obtain ⟨x63, hx63, hm⟩ := wp_idx hm
            obtain ⟨a64, vs65, he66, hg67, hM68⟩ := any_tupE (hS.im (i := 1) rfl) h62
            obtain ⟨u69, hu70, hi71⟩ := atI_im hM68 hx63
            obtain ⟨b72, hb72, hm⟩ := wp_eqA hm
            refine et_to (et_test (ev_eqA (ev_ixT (ev_is (ev_var rfl) he66) ev_c hg67 hu70) ev_c hi71 (any_str.mpr rfl) hb72)) ?_
            refine andK_J hm hS (fun hb q hm nx => ?_) (fun b73 H hm hS => ?_)
            ·
              obtain ⟨xs74, h75, hm⟩ := Ml.wp_asTup hm
              obtain ⟨x76, hx76, hm⟩ := wp_idx hm
              obtain ⟨a77, vs78, he79, hg80, hM81⟩ := any_tupE (hS.im (i := 1) rfl) h75
              obtain ⟨u82, hu83, hi84⟩ := atI_im hM81 hx76
              obtain ⟨h85, hm⟩ := R.wp_need hm
              obtain ⟨h86, hm⟩ := R.wp_need hm
              obtain ⟨b87, hb87, hm⟩ := wp_eqA hm
              refine et_to (et_test (ev_neA (ev_ixT (ev_is (ev_var rfl) he79) ev_c hg80 hu83) (ev_catS (ev_var rfl) (ev_cb (ea_cons (ev_add (ev_lenG (ev_fz (ev_var rfl)) (hS.sq (i := 0) rfl)) ev_c) ea_nil) fun _ q => ⟨_, rfl, h85, q⟩) h86) hi84 (any_str.mpr rfl) hb87)) ?_
              exact nx _ _ hm (hS.sel [0, 1, 2, 3, 4] (by decide) rfl)
            ·
              refine ifK_2 (fun hb88 => ?_) (fun hb88 => ?_)
              · have hm := R.wp_ifY hm hb88
                exact hm _ (hS.sel [3, 4] (by decide) rfl)
              · have hm := R.wp_ifN hm (by first | (rw [hb88]; decide) | simpa using hb88)
                refine st_nx ?_
                exact hm _ (hS.sel [3, 4] (by decide) rfl)
def sp_Ledger___init__ (G : Gx) : Sp := fun vs H Q E => ∃ (a_v_self d_v_self : Addr) (a_v_hand : V) (v_hand : Any) (F : Asn G), vs = [.ref a_v_self, a_v_hand] ∧ Im.im G H a_v_hand v_hand ∧ Sep H ([cell a_v_self (.ins (G.cl 8) d_v_self []), F] : List (Asn G)) ∧ R.wp (m_Ledger___init__ v_hand) (fun r => ∀ H', Sep H' ([LedgerA a_v_self r, F] : List (Asn G)) → Q .non H') (fun x => ∀ H', Sep H' ([F] : List (Asn G)) → Eok G x E H')
abbrev N_Ledger___init__ : List Str := ["self", "hand"]
theorem sc_Ledger___init__ : FnScope N_Ledger___init__ ["self", "hand"] (defScope s_Ledger___init__) := ⟨rfl, rfl, rfl, by decide +kernel, rfl, by decide +kernel, by decide +kernel⟩
theorem ok_Ledger___init__ (T : Txt G mg) : FnOk P w G.K mg base (L2.CX P w) 2 T.a_Ledger___init__ T.fd_Ledger___init__ ["self", "hand"] (sp_Ledger___init__ G) := by
  have nd := sc_Ledger___init__.nd
  refine Fun.okX T.F_Ledger___init__ sc_Ledger___init__ (fun vs H Q E h => ?_) (fun cdv A outer s H vs Q E hr h => ?_)
  · obtain ⟨a_v_self, d_v_self, a_v_hand, v_hand, F, rfl, _⟩ := h; rfl
  · obtain ⟨a_v_self, d_v_self, a_v_hand, v_hand, F, rfl, him_v_hand, hS, hm⟩ := h
    have hS := hS.addIm him_v_hand
    refine ⟨_, (pss_cons (ps_if (pt_not (pt_val (pe_call (ok_is_hand T) (hr.mono (by decide)) rfl T.g_is_hand T.kp_is_hand T.b_is_hand .nil pass0 (pa_cons (pv 1) pa_nil)))) (pss_one (ps_raise rfl (takes_of rfl rfl rfl rfl) (pmk_own PySem.F.excBase_ValueError T.x_NoName T.g_NoName T.kp_NoName (T.r_NoName rfl) rfl))) pss_nil)
      (pss_cons (ps_fld (pv 0) (pv 1) rfl)
      (pss_one (ps_fld (pv 0) pe_dnewK rfl)))), ?_⟩
    unfold m_Ledger___init__ at hm
    refine f_seq ?_
    refine f_if ?_
    refine f_not ?_
    refine f_B ?_
    refine c_call ?_
    refine ea_to (ea_cons (ev_var rfl) ea_nil) ?_
    refine ⟨a_v_hand, (v_hand : Any), star [imA a_v_hand (v_hand : Any), cell a_v_self (.ins (G.cl 8) d_v_self []), F], rfl, (hS.im (i := 0) rfl), Sep.unstar (M := []) (hS.sel [0, 1, 2] (by decide) rfl : Sep H (([] ++ [imA a_v_hand (v_hand : Any), cell a_v_self (.ins (G.cl 8) d_v_self []), F] : List (Asn G)))), R.wp_mono (R.wp_noexc hm) (fun r1 hm H hS => ?_) (fun _ z => z)⟩
    have hS : Sep H ([imA a_v_hand (v_hand : Any), cell a_v_self (.ins (G.cl 8) d_v_self []), F] : List (Asn G)) := Sep.star (M := []) hS
    refine f_bl ?_
    refine f_nK ?_
    refine ifK_2 (fun hb2 => ?_) (fun hb2 => ?_)
    · have hm := R.wp_ifY hm hb2
      exact hm _ (hS.sel [2] (by decide) rfl)
    · have hm := R.wp_ifN hm (by first | (rw [hb2]; decide) | simpa using hb2)
      refine st_nx ?_
      refine sq_nx ?_
      refine f_seq ?_
      refine c_sfld ?_
      refine ev_to (ev_var rfl) ?_
      obtain ⟨s3, hs4, hm⟩ := Ml.wp_asStr hm
      have hv5 := v_str (hS.im (i := 0) rfl) hs4
      subst hv5
      refine ev_to (ev_var rfl) ?_
      refine k_sfld (fs' := [("hand", (.str (s3)))]) hS (i := 1) rfl T.cl_Ledger T.n_Ledger_hand rfl (by show 0 < 1000; decide) (by show decide (G.fz (G.cl 8) = some 1) = false; rw [T.fz_Ledger]; rfl) rfl fun H hS => ?_
      have hS : Sep H ([imA (.str (s3)) (v_hand : Any), cell a_v_self (.ins (G.cl 8) d_v_self [("hand", (.str (s3)))]), F] : List (Asn G)) := hS
      refine sq_nx ?_
      refine c_sfld ?_
      refine k_dnewE (κ := Str) (β := (List (T4 Int Str Int Any))) (E := lstA) hS fun p6 H hS => ?_
      refine ev_to (ev_var rfl) ?_
      refine k_sfld (fs' := [("hand", (.str (s3))), ("kept", (.ref p6))]) hS (i := 2) rfl T.cl_Ledger T.n_Ledger_kept rfl (by show 1 < 1000; decide) (by show decide (G.fz (G.cl 8) = some 2) = false; rw [T.fz_Ledger]; rfl) rfl fun H hS => ?_
      have hS : Sep H ([dictE lstA p6 (([] : (List (Str × (List (T4 Int Str Int Any))))) : (List (Str × (List (T4 Int Str Int Any))))), imA (.str (s3)) (v_hand : Any), cell a_v_self (.ins (G.cl 8) d_v_self [("hand", (.str (s3))), ("kept", (.ref p6))]), F] : List (Asn G)) := hS
      have hS : Sep H (LedgerA a_v_self (⟨s3, ([] : (List (Str × (List (T4 Int Str Int Any)))))⟩ : Ledger) :: [imA (.str (s3)) (v_hand : Any), F] : List (Asn G)) := pack_Ledger (hS.sel [2, 0, 1, 3] (by decide) rfl)
      exact hm _ (hS.sel [0, 2] (by decide) rfl)
def sp_Ledger_latest (G : Gx) : Sp := fun vs H Q E => ∃ (a_v_self d_v_self : Addr) (w_v_self_hand : V) (p_v_self_kept : Addr) (ps_v_self_kept : List Addr) (v_self_kept : (List (Str × (List (T4 Int Str Int Any))))) (F : Asn G), vs = [.ref a_v_self] ∧ Sep H ([cell a_v_self (.ins (G.cl 8) d_v_self [("hand", w_v_self_hand), ("kept", (.ref p_v_self_kept))]), dictP lstA p_v_self_kept ps_v_self_kept (v_self_kept : (List (Str × (List (T4 Int Str Int Any))))), F] : List (Asn G)) ∧ R.wp (m_Ledger_latest v_self_kept) (fun r => ∀ H', Sep H' ([cell a_v_self (.ins (G.cl 8) d_v_self [("hand", w_v_self_hand), ("kept", (.ref p_v_self_kept))]), dictP lstA p_v_self_kept ps_v_self_kept (v_self_kept : (List (Str × (List (T4 Int Str Int Any))))), F] : List (Asn G)) → Q (.int (r)) H') (fun _ => False)
abbrev N_Ledger_latest : List Str := ["self", "rows"]
theorem sc_Ledger_latest : FnScope N_Ledger_latest ["self"] (defScope s_Ledger_latest) := ⟨rfl, rfl, rfl, by decide +kernel, rfl, by decide +kernel, by decide +kernel⟩
theorem ok_Ledger_latest (T : Txt G mg) : FnOk P w G.K mg base CX0 1 T.a_Ledger_latest T.fd_Ledger_latest ["self"] (sp_Ledger_latest G) := by
  have nd := sc_Ledger_latest.nd
  refine Fun.ok T.F_Ledger_latest sc_Ledger_latest (fun vs H Q E h => ?_) (fun cdv A outer s H vs Q E hr h => ?_)
  · obtain ⟨a_v_self, d_v_self, w_v_self_hand, p_v_self_kept, ps_v_self_kept, v_self_kept, F, rfl, _⟩ := h; rfl
  · obtain ⟨a_v_self, d_v_self, w_v_self_hand, p_v_self_kept, ps_v_self_kept, v_self_kept, F, rfl, hS, hm⟩ := h
    refine ⟨_, (pss_one (ps_ret (pe_callBK (cr_maxDefK G.K rfl hr.units) (by rfl) T.z_max (by decide +kernel) (pa_cons (pe_fz (pe_lock (pe_lc (own := [("rows", 1)]) (g := gName 1) rfl nd (pi_values (pe_fld (pv 0) rfl)) (blkOk_by (own := [("rows", 1)]) (N := N_Ledger_latest) (sc := defScope s_Ledger_latest) (by decide +kernel)) (fun _ _ _ _ _ => pg_name (i := 1) nd rfl (Or.inl rfl)) (fun _ _ _ _ _ => pts_nil) (fun _ _ _ _ _ => (pe_ix (ix_tupK G.K) (pe_ix (ix_listK G.K) (pe_fz (pv 1)) (pe_un un_neg pe_int) (fun _ _ => rfl)) pe_int (fun _ _ => rfl)))))) pa_nil) (pk_cons pe_int pk_nil)))), ?_⟩
    unfold m_Ledger_latest at hm
    refine c_ret ?_
    refine c_ck ?_
    refine c_cons ?_
    refine c_fz ?_
    refine k_lockDP (hS.sel [1, 0, 2] (by decide) rfl : Sep _ (dictP lstA p_v_self_kept ps_v_self_kept (v_self_kept : (List (Str × (List (T4 Int Str Int Any))))) :: [cell a_v_self (.ins (G.cl 8) d_v_self [("hand", w_v_self_hand), ("kept", (.ref p_v_self_kept))]), F] : List (Asn G))) fun od1 H hS => ?_
    have hS : Sep H ([lockE lstA p_v_self_kept od1 ps_v_self_kept (v_self_kept : (List (Str × (List (T4 Int Str Int Any))))), cell a_v_self (.ins (G.cl 8) d_v_self [("hand", w_v_self_hand), ("kept", (.ref p_v_self_kept))]), F] : List (Asn G)) := hS
    refine c_lc ?_
    refine c_values ?_
    refine ev_to (ev_fld (ev_var rfl) (hS.getCell (i := 1) rfl) T.cl_Ledger T.n_Ledger_kept rfl) ?_
    have hl3 := (hS.cellL (i := 0) rfl).1.1
    refine k_valuesE (hS.cellL (i := 0) rfl).2 ?_
    obtain ⟨h4, hm⟩ := R.wp_need hm
    refine lc_sep (β := Int) (fun (_ : Unit) => ([lockE lstA p_v_self_kept od1 ps_v_self_kept (v_self_kept : (List (Str × (List (T4 Int Str Int Any))))), cell a_v_self (.ins (G.cl 8) d_v_self [("hand", w_v_self_hand), ("kept", (.ref p_v_self_kept))]), F] : List (Asn G))) (s := ()) (im := (imVD ps_v_self_kept (v_self_kept : (List (Str × (List (T4 Int Str Int Any))))))) hS (fun _ _ _ => wk_valsE hl3 fun _ _ h => (h.cellL (i := 1) rfl).2) h4 hm (fun p5 _ ys8 x6 v7 H q Nx hS hx hm kS kN => ?_) (fun p5 t H hm hS => ?_)
    ·
      obtain ⟨j9, p10, k11, hl12, hj13, hp14, rfl, hS⟩ := focusVL (hS.sel [1, 0, 2, 3] (by decide) rfl : Sep _ (lockE lstA p_v_self_kept od1 ps_v_self_kept (v_self_kept : (List (Str × (List (T4 Int Str Int Any))))) :: [lstA p5 (ys8 : List Int), cell a_v_self (.ins (G.cl 8) d_v_self [("hand", w_v_self_hand), ("kept", (.ref p_v_self_kept))]), F] : List (Asn G))) hx
      have hS : Sep H ([lstA p10 (x6 : (List (T4 Int Str Int Any))), lockH lstA p_v_self_kept od1 ps_v_self_kept (v_self_kept : (List (Str × (List (T4 Int Str Int Any))))) j9, lstA p5 (ys8 : List Int), cell a_v_self (.ins (G.cl 8) d_v_self [("hand", w_v_self_hand), ("kept", (.ref p_v_self_kept))]), F] : List (Asn G)) := hS
      refine c_gLc (σ' := [some (.ref a_v_self), some (.ref p10)]) rfl rfl ?_
      refine c_yes ?_
      obtain ⟨x15, hx15, hm⟩ := wp_idx hm
      obtain ⟨vs16, hq17, hM18⟩ := hS.sq (i := 0) rfl
      obtain ⟨u19, hu20, hi21⟩ := atI_im hM18 hx15
      obtain ⟨a22, rfl⟩ := isref hi21
      obtain ⟨u23, u24, u25, u26, hT31, h27, h28, h29, h30⟩ := im4 hi21
      obtain rfl : u23 = (.int (x15.a)) := h27
      obtain rfl : u24 = (.str (x15.b)) := h28
      obtain rfl : u25 = (.int (x15.c)) := h29
      refine ev_to (ev_ixT (ev_ixSq (ev_fz (ev_var rfl)) (ev_un ev_c fun _ q => ⟨_, rfl, q⟩) hq17 hu20) ev_c hT31 rfl) ?_
      have hS : Sep H ([lockE lstA p_v_self_kept od1 ps_v_self_kept (v_self_kept : (List (Str × (List (T4 Int Str Int Any))))), lstA p5 (ys8 : List Int), cell a_v_self (.ins (G.cl 8) d_v_self [("hand", w_v_self_hand), ("kept", (.ref p_v_self_kept))]), F] : List (Asn G)) := unfocDL0 hl12 hj13 hp14 (hS.sel [0, 1, 2, 3, 4] (by decide) rfl)
      exact kS () _ _ _ hm rfl (hS.sel [1, 0, 2, 3] (by decide) rfl)
    · revert hm hS; generalize t = t32; intro hm hS
      refine k_unlDP (hS.sel [1, 0, 2, 3] (by decide) rfl : Sep _ (lockE lstA p_v_self_kept od1 ps_v_self_kept (v_self_kept : (List (Str × (List (T4 Int Str Int Any))))) :: [lstA p5 (t32.2 : (List Int)), cell a_v_self (.ins (G.cl 8) d_v_self [("hand", w_v_self_hand), ("kept", (.ref p_v_self_kept))]), F] : List (Asn G))) fun H hS => ?_
      have hS : Sep H ([dictP lstA p_v_self_kept ps_v_self_kept (v_self_kept : (List (Str × (List (T4 Int Str Int Any))))), lstA p5 (t32.2 : (List Int)), cell a_v_self (.ins (G.cl 8) d_v_self [("hand", w_v_self_hand), ("kept", (.ref p_v_self_kept))]), F] : List (Asn G)) := hS
      refine fz_no ?_
      refine c_nil ?_
      refine k_maxDef (hS.sqF (i := 1) rfl) ev_c ?_
      exact hm _ (hS.sel [2, 0, 3] (by decide) rfl)
def sp_Ledger_do (G : Gx) : Sp := fun vs H Q E => ∃ (a_v_self : Addr) (v_self : Ledger) (a_v_deed : V) (v_deed : Any) (F : Asn G), vs = [.ref a_v_self, a_v_deed] ∧ Im.im G H a_v_deed v_deed ∧ Sep H ([LedgerA a_v_self v_self, F] : List (Asn G)) ∧ R.wp (m_Ledger_do v_self v_deed) (fun r => ∀ (p : Addr) H', Sep H' ([imA (.ref p) (r.1 : (T4 Int Str Int Any)), LedgerA a_v_self r.2, F] : List (Asn G)) → Q (.ref p) H') (fun x => ∀ H', Sep H' ([LedgerA a_v_self v_self, F] : List (Asn G)) → Eok G x E H')
abbrev N_Ledger_do : List Str := ["self", "deed", "rows", "stamped"]
theorem sc_Ledger_do : FnScope N_Ledger_do ["self", "deed"] (defScope s_Ledger_do) := ⟨rfl, rfl, rfl, by decide +kernel, rfl, by decide +kernel, by decide +kernel⟩
theorem ok_Ledger_do (T : Txt G mg) : FnOk P w G.K mg base (L2.CX P w) 8 T.a_Ledger_do T.fd_Ledger_do ["self", "deed"] (sp_Ledger_do G) := by
  have nd := sc_Ledger_do.nd
  refine Fun.okX T.F_Ledger_do sc_Ledger_do (fun vs H Q E h => ?_) (fun cdv A outer s H vs Q E hr h => ?_)
  · obtain ⟨a_v_self, v_self, a_v_deed, v_deed, F, rfl, _⟩ := h; rfl
  · obtain ⟨a_v_self, v_self, a_v_deed, v_deed, F, rfl, him_v_deed, hS, hm⟩ := h
    have hS := hS.addIm him_v_deed
    refine ⟨_, (pss_cons (ps_if (pt_not (pt_val (pe_call (ok_is_deed T) (hr.mono (by decide)) rfl T.g_is_deed T.kp_is_deed T.b_is_deed .nil pass0 (pa_cons (pv 1) pa_nil)))) (pss_one (ps_raise rfl (takes_of rfl rfl rfl rfl) (pmk_own PySem.F.excBase_ValueError T.x_NoParcel T.g_NoParcel T.kp_NoParcel (T.r_NoParcel rfl) rfl))) pss_nil)
      (pss_cons (ps_set (i := 2) nd rfl (Or.inl rfl) (pe_fz (pe_dget2 (hu_of hr) (pe_fld (pv 0) rfl) (pe_fld (pv 0) rfl) (pe_fz (pe_lst pa_nil)) m2)))
      (pss_cons (ps_set (i := 3) nd rfl (Or.inl rfl) (pe_tup (pa_cons (pe_op op_add (pe_meth0 (pv 0) T.cl_Ledger T.m_Ledger_latest (ok_Ledger_latest T) (hr.mono (by decide)) T.b_Ledger_latest .nil pass0) pe_int) (pa_cons (pe_fld (pv 0) rfl) (pa_cons (pe_op op_add (pe_callB (lenSqK G.K) (by rfl) T.z_len PySem.boot_len (pa_cons (pe_fz (pv 2)) pa_nil)) pe_int) (pa_cons (pv 1) pa_nil))))))
      (pss_cons (ps_expr (pe_call (ok_need_follows T) (hr.mono (by decide)) rfl T.g_need_follows T.kp_need_follows T.b_need_follows .nil (passes_call (takes_of rfl rfl rfl rfl) (fun _ _ _ _ h => h)) (pa_cons (pe_fz (pv 2)) (pa_cons (pv 3) pa_nil))))
      (pss_cons (ps_expr (pe_bmK G.K PySem.F.plainAttrs_list PySem.F.slot_list_append PySem.F.type_list_append mt_append (pe_fz (pe_dsetd (pe_fld (pv 0) rfl) (pe_fld (pv 0) rfl) (pe_fz (pe_lst pa_nil)) m2)) (pa_cons (pv 3) pa_nil)))
      (pss_one (ps_ret (pv 3)))))))), ?_⟩
    unfold m_Ledger_do at hm
    have hS : Sep H (LedgerA a_v_self v_self :: [imA a_v_deed (v_deed : Any), F] : List (Asn G)) := hS.sel [1, 0, 2] (by decide) rfl
    obtain ⟨dx1, p2, hS⟩ := open_Ledger hS
    have hS : Sep H ([cell a_v_self (.ins (G.cl 8) dx1 [("hand", (.str (v_self.hand))), ("kept", (.ref p2))]), dictE lstA p2 (v_self.kept : (List (Str × (List (T4 Int Str Int Any))))), imA a_v_deed (v_deed : Any), F] : List (Asn G)) := hS
    refine f_seq ?_
    refine f_if ?_
    refine f_not ?_
    refine f_B ?_
    refine c_call ?_
    refine ea_to (ea_cons (ev_var rfl) ea_nil) ?_
    refine ⟨a_v_deed, (v_deed : Any), star [cell a_v_self (.ins (G.cl 8) dx1 [("hand", (.str (v_self.hand))), ("kept", (.ref p2))]), dictE lstA p2 (v_self.kept : (List (Str × (List (T4 Int Str Int Any))))), imA a_v_deed (v_deed : Any), F], rfl, (hS.im (i := 2) rfl), Sep.unstar (M := []) (hS.sel [0, 1, 2, 3] (by decide) rfl : Sep H (([] ++ [cell a_v_self (.ins (G.cl 8) dx1 [("hand", (.str (v_self.hand))), ("kept", (.ref p2))]), dictE lstA p2 (v_self.kept : (List (Str × (List (T4 Int Str Int Any))))), imA a_v_deed (v_deed : Any), F] : List (Asn G)))), R.wp_mono (R.wp_noexc hm) (fun r3 hm H hS => ?_) (fun _ z => z)⟩
    have hS : Sep H ([cell a_v_self (.ins (G.cl 8) dx1 [("hand", (.str (v_self.hand))), ("kept", (.ref p2))]), dictE lstA p2 (v_self.kept : (List (Str × (List (T4 Int Str Int Any))))), imA a_v_deed (v_deed : Any), F] : List (Asn G)) := Sep.star (M := []) hS
    refine f_bl ?_
    refine f_nK ?_
    refine ifK_2 (fun hb4 => ?_) (fun hb4 => ?_)
    · have hm := R.wp_ifY hm hb4
      have hS : Sep H (LedgerA a_v_self v_self :: [imA a_v_deed (v_deed : Any), F] : List (Asn G)) := pack_Ledger (hS.sel [0, 1, 2, 3] (by decide) rfl)
      exact hm _ (hS.sel [0, 2] (by decide) rfl)
    · have hm := R.wp_ifN hm (by first | (rw [hb4]; decide) | simpa using hb4)
      refine st_nx ?_
      refine sq_nx ?_
      refine f_seq ?_
      refine c_asg ?_
      refine c_fz ?_
      refine c_dget2 ?_
      refine ev_to (ev_fld (ev_var rfl) (hS.getCell (i := 0) rfl) T.cl_Ledger T.n_Ledger_kept rfl) ?_
      refine k_get2a (isD_Ei hS (i := 1) rfl) ?_
      refine ev_to (ev_fld (ev_var rfl) (hS.getCell (i := 0) rfl) T.cl_Ledger T.n_Ledger_hand rfl) ?_
      refine k_get2b ?_
      refine c_fz ?_
      refine c_lst ?_
      refine ea_to ea_nil ?_
      refine k_lst (α := (T4 Int Str Int Any)) (vs := []) (xs := ([] : (List (T4 Int Str Int Any)))) hS True.intro (by show 0 ≤ sizeLine; decide) fun p5 H hS => ?_
      refine fz_no ?_
      refine k_get2P (k := v_self.hand) (hS.sel [2, 0, 1, 3, 4] (by decide) rfl : Sep _ (dictE lstA p2 (v_self.kept : (List (Str × (List (T4 Int Str Int Any))))) :: lstA p5 (([] : (List (T4 Int Str Int Any))) : (List (T4 Int Str Int Any))) :: [cell a_v_self (.ins (G.cl 8) dx1 [("hand", (.str (v_self.hand))), ("kept", (.ref p2))]), imA a_v_deed (v_deed : Any), F] : List (Asn G))) fun p7 ps8 R9 S10 hb11 hc12 hS => ?_
      have hS : Sep H ([lstA p7 ((dget v_self.kept v_self.hand).getD ([] : (List (T4 Int Str Int Any))) : (List (T4 Int Str Int Any))), R9, cell a_v_self (.ins (G.cl 8) dx1 [("hand", (.str (v_self.hand))), ("kept", (.ref p2))]), imA a_v_deed (v_deed : Any), F] : List (Asn G)) := hS
      refine fz_no ?_
      refine c_set (σ' := [some (.ref a_v_self), some a_v_deed, some (.ref p7), none]) rfl ?_
      refine sq_nx ?_
      refine f_seq ?_
      refine c_asg ?_
      refine c_tup ?_
      refine c_cons ?_
      refine c_op ?_
      refine c_meth ?_
      refine ev_to (ev_var rfl) ?_
      refine ⟨_, _, _, rfl, (hS.getCell (i := 2) rfl), rfl, ?_⟩
      refine ea_to ea_nil ?_
      have hS : Sep H ([dictP lstA p2 ps8 (v_self.kept : (List (Str × (List (T4 Int Str Int Any))))), S10, cell a_v_self (.ins (G.cl 8) dx1 [("hand", (.str (v_self.hand))), ("kept", (.ref p2))]), imA a_v_deed (v_deed : Any), F] : List (Asn G)) := hb11 _ _ (hS.sel [0, 1, 2, 3, 4] (by decide) rfl)
      refine ⟨a_v_self, dx1, (.str (v_self.hand)), p2, ps8, (v_self.kept : (List (Str × (List (T4 Int Str Int Any))))), star [S10, imA a_v_deed (v_deed : Any), F], rfl, Sep.unstar (M := [cell a_v_self (.ins (G.cl 8) dx1 [("hand", (.str (v_self.hand))), ("kept", (.ref p2))]), dictP lstA p2 ps8 (v_self.kept : (List (Str × (List (T4 Int Str Int Any)))))]) (hS.sel [2, 0, 1, 3, 4] (by decide) rfl : Sep H (([cell a_v_self (.ins (G.cl 8) dx1 [("hand", (.str (v_self.hand))), ("kept", (.ref p2))]), dictP lstA p2 ps8 (v_self.kept : (List (Str × (List (T4 Int Str Int Any)))))] ++ [S10, imA a_v_deed (v_deed : Any), F] : List (Asn G)))), R.wp_mono (R.wp_noexc hm) (fun r13 hm H hS => ?_) (fun _ z => z)⟩
      have hS : Sep H ([cell a_v_self (.ins (G.cl 8) dx1 [("hand", (.str (v_self.hand))), ("kept", (.ref p2))]), dictP lstA p2 ps8 (v_self.kept : (List (Str × (List (T4 Int Str Int Any))))), S10, imA a_v_deed (v_deed : Any), F] : List (Asn G)) := Sep.star (M := [cell a_v_self (.ins (G.cl 8) dx1 [("hand", (.str (v_self.hand))), ("kept", (.ref p2))]), dictP lstA p2 ps8 (v_self.kept : (List (Str × (List (T4 Int Str Int Any)))))]) hS
      have hS : Sep H ([lstA p7 ((dget v_self.kept v_self.hand).getD ([] : (List (T4 Int Str Int Any))) : (List (T4 Int Str Int Any))), R9, cell a_v_self (.ins (G.cl 8) dx1 [("hand", (.str (v_self.hand))), ("kept", (.ref p2))]), imA a_v_deed (v_deed : Any), F] : List (Asn G)) := hc12 _ _ (hS.sel [1, 2, 0, 3, 4] (by decide) rfl)
      refine ev_to ev_c ?_
      refine r_I0 _ ?_
      refine c_cons ?_
      refine ev_to (ev_fld (ev_var rfl) (hS.getCell (i := 2) rfl) T.cl_Ledger T.n_Ledger_hand rfl) ?_
      refine c_cons ?_
      refine ev_to (ev_add (ev_lenG (ev_fz (ev_var rfl)) (hS.sq (i := 0) rfl)) ev_c) ?_
      refine c_cons ?_
      refine ev_to (ev_var rfl) ?_
      refine c_nil ?_
      refine k_tupP (x := ((⟨r13 + 1, v_self.hand, (((dget v_self.kept v_self.hand).getD ([] : (List (T4 Int Str Int Any)))).length : Int) + 1, v_deed⟩ : T4 _ _ _ _) : (T4 Int Str Int Any))) hS (fun H' p h s => mk4 rfl rfl rfl (hS.im (i := 3) rfl) h s) (by show 4 ≤ sizeLine; decide) fun p14 H hS => ?_
      refine c_set (σ' := [some (.ref a_v_self), some a_v_deed, some (.ref p7), some (.ref p14)]) rfl ?_
      refine sq_nx ?_
      refine f_seq ?_
      refine c_drop ?_
      refine c_call ?_
      refine ea_to (ea_cons (ev_fz (ev_var rfl)) (ea_cons (ev_var rfl) ea_nil)) ?_
      refine ⟨p7, ((dget v_self.kept v_self.hand).getD ([] : (List (T4 Int Str Int Any))) : (List (T4 Int Str Int Any))), p14, ((⟨r13 + 1, v_self.hand, (((dget v_self.kept v_self.hand).getD ([] : (List (T4 Int Str Int Any)))).length : Int) + 1, v_deed⟩ : T4 _ _ _ _) : (T4 Int Str Int Any)), star [imA (.ref p14) ((⟨r13 + 1, v_self.hand, (((dget v_self.kept v_self.hand).getD ([] : (List (T4 Int Str Int Any)))).length : Int) + 1, v_deed⟩ : T4 _ _ _ _) : (T4 Int Str Int Any)), R9, cell a_v_self (.ins (G.cl 8) dx1 [("hand", (.str (v_self.hand))), ("kept", (.ref p2))]), imA a_v_deed (v_deed : Any), F], rfl, (hS.im (i := 0) rfl), Sep.unstar (M := [lstA p7 ((dget v_self.kept v_self.hand).getD ([] : (List (T4 Int Str Int Any))) : (List (T4 Int Str Int Any)))]) (hS.sel [1, 0, 2, 3, 4, 5] (by decide) rfl : Sep H (([lstA p7 ((dget v_self.kept v_self.hand).getD ([] : (List (T4 Int Str Int Any))) : (List (T4 Int Str Int Any)))] ++ [imA (.ref p14) ((⟨r13 + 1, v_self.hand, (((dget v_self.kept v_self.hand).getD ([] : (List (T4 Int Str Int Any)))).length : Int) + 1, v_deed⟩ : T4 _ _ _ _) : (T4 Int Str Int Any)), R9, cell a_v_self (.ins (G.cl 8) dx1 [("hand", (.str (v_self.hand))), ("kept", (.ref p2))]), imA a_v_deed (v_deed : Any), F] : List (Asn G)))), R.wp_mono (R.wp_bind hm) (fun r16 hm H hS => ?_) (fun x hx H hS => ?_)⟩
      ·
        have hS : Sep H ([lstA p7 ((dget v_self.kept v_self.hand).getD ([] : (List (T4 Int Str Int Any))) : (List (T4 Int Str Int Any))), imA (.ref p14) ((⟨r13 + 1, v_self.hand, (((dget v_self.kept v_self.hand).getD ([] : (List (T4 Int Str Int Any)))).length : Int) + 1, v_deed⟩ : T4 _ _ _ _) : (T4 Int Str Int Any)), R9, cell a_v_self (.ins (G.cl 8) dx1 [("hand", (.str (v_self.hand))), ("kept", (.ref p2))]), imA a_v_deed (v_deed : Any), F] : List (Asn G)) := Sep.star (M := [lstA p7 ((dget v_self.kept v_self.hand).getD ([] : (List (T4 Int Str Int Any))) : (List (T4 Int Str Int Any)))]) hS
        refine sq_nx ?_
        refine f_seq ?_
        refine c_drop ?_
        have hS : Sep H ([dictE lstA p2 (v_self.kept : (List (Str × (List (T4 Int Str Int Any))))), imA (.ref p14) ((⟨r13 + 1, v_self.hand, (((dget v_self.kept v_self.hand).getD ([] : (List (T4 Int Str Int Any)))).length : Int) + 1, v_deed⟩ : T4 _ _ _ _) : (T4 Int Str Int Any)), cell a_v_self (.ins (G.cl 8) dx1 [("hand", (.str (v_self.hand))), ("kept", (.ref p2))]), imA a_v_deed (v_deed : Any), F] : List (Asn G)) := dictP_E (drop2 (hb11 _ _ (hS.sel [0, 2, 1, 3, 4, 5] (by decide) rfl)))
        refine c_bm ?_
        refine c_fz ?_
        refine c_dsetd ?_
        refine ev_to (ev_fld (ev_var rfl) (hS.getCell (i := 2) rfl) T.cl_Ledger T.n_Ledger_kept rfl) ?_
        refine k_setda (isD_Ei hS (i := 0) rfl) ?_
        refine ev_to (ev_fld (ev_var rfl) (hS.getCell (i := 2) rfl) T.cl_Ledger T.n_Ledger_hand rfl) ?_
        refine k_setdb ?_
        refine c_fz ?_
        refine c_lst ?_
        refine ea_to ea_nil ?_
        refine k_lst (α := (T4 Int Str Int Any)) (vs := []) (xs := ([] : (List (T4 Int Str Int Any)))) hS True.intro (by show 0 ≤ sizeLine; decide) fun p17 H hS => ?_
        refine fz_no ?_
        obtain ⟨h19, hm⟩ := R.wp_need hm
        refine k_setdE3 (k := v_self.hand) (hS.sel [1, 0, 2, 3, 4, 5] (by decide) rfl : Sep _ (dictE lstA p2 (v_self.kept : (List (Str × (List (T4 Int Str Int Any))))) :: lstA p17 (([] : (List (T4 Int Str Int Any))) : (List (T4 Int Str Int Any))) :: [imA (.ref p14) ((⟨r13 + 1, v_self.hand, (((dget v_self.kept v_self.hand).getD ([] : (List (T4 Int Str Int Any)))).length : Int) + 1, v_deed⟩ : T4 _ _ _ _) : (T4 Int Str Int Any)), cell a_v_self (.ins (G.cl 8) dx1 [("hand", (.str (v_self.hand))), ("kept", (.ref p2))]), imA a_v_deed (v_deed : Any), F] : List (Asn G))) h19 fun ps20 p21 j22 H hl23 hj24 hp25 hS => ?_
        have hS : Sep H ([lstA p21 ((dget v_self.kept v_self.hand).getD ([] : (List (T4 Int Str Int Any))) : (List (T4 Int Str Int Any))), dictXH id lstA p2 ps20 (setE v_self.kept v_self.hand ([] : (List (T4 Int Str Int Any))) : (List (Str × (List (T4 Int Str Int Any))))) j22, imA (.ref p14) ((⟨r13 + 1, v_self.hand, (((dget v_self.kept v_self.hand).getD ([] : (List (T4 Int Str Int Any)))).length : Int) + 1, v_deed⟩ : T4 _ _ _ _) : (T4 Int Str Int Any)), cell a_v_self (.ins (G.cl 8) dx1 [("hand", (.str (v_self.hand))), ("kept", (.ref p2))]), imA a_v_deed (v_deed : Any), F] : List (Asn G)) := hS
        refine fz_no ?_
        refine ⟨tyL hS (i := 0) rfl, ?_⟩
        refine ea_to (ea_cons (ev_var rfl) ea_nil) ?_
        obtain ⟨h26, hm⟩ := R.wp_need hm
        refine k_append (x := (⟨r13 + 1, v_self.hand, (((dget v_self.kept v_self.hand).getD ([] : (List (T4 Int Str Int Any)))).length : Int) + 1, v_deed⟩ : T4 _ _ _ _)) hS (i := 0) rfl (hS.im (i := 2) rfl) h26 rfl fun H hS => ?_
        have hS : Sep H ([dictE lstA p2 (dput (setE v_self.kept v_self.hand ([] : (List (T4 Int Str Int Any)))) v_self.hand (((dget v_self.kept v_self.hand).getD ([] : (List (T4 Int Str Int Any)))) ++ [(⟨r13 + 1, v_self.hand, (((dget v_self.kept v_self.hand).getD ([] : (List (T4 Int Str Int Any)))).length : Int) + 1, v_deed⟩ : T4 _ _ _ _)]) : (List (Str × (List (T4 Int Str Int Any))))), imA (.ref p14) ((⟨r13 + 1, v_self.hand, (((dget v_self.kept v_self.hand).getD ([] : (List (T4 Int Str Int Any)))).length : Int) + 1, v_deed⟩ : T4 _ _ _ _) : (T4 Int Str Int Any)), cell a_v_self (.ins (G.cl 8) dx1 [("hand", (.str (v_self.hand))), ("kept", (.ref p2))]), imA a_v_deed (v_deed : Any), F] : List (Asn G)) := unfocDE (z := (((dget v_self.kept v_self.hand).getD ([] : (List (T4 Int Str Int Any)))) ++ [(⟨r13 + 1, v_self.hand, (((dget v_self.kept v_self.hand).getD ([] : (List (T4 Int Str Int Any)))).length : Int) + 1, v_deed⟩ : T4 _ _ _ _)] : (List (T4 Int Str Int Any)))) hl23 hj24 hp25 (hS.sel [0, 1, 2, 3, 4, 5] (by decide) rfl)
        refine sq_nx ?_
        refine c_ret ?_
        refine ev_to (ev_var rfl) ?_
        have hS : Sep H (LedgerA a_v_self (⟨v_self.hand, dput (setE v_self.kept v_self.hand ([] : (List (T4 Int Str Int Any)))) v_self.hand (((dget v_self.kept v_self.hand).getD ([] : (List (T4 Int Str Int Any)))) ++ [(⟨r13 + 1, v_self.hand, (((dget v_self.kept v_self.hand).getD ([] : (List (T4 Int Str Int Any)))).length : Int) + 1, v_deed⟩ : T4 _ _ _ _)])⟩ : Ledger) :: [imA (.ref p14) ((⟨r13 + 1, v_self.hand, (((dget v_self.kept v_self.hand).getD ([] : (List (T4 Int Str Int Any)))).length : Int) + 1, v_deed⟩ : T4 _ _ _ _) : (T4 Int Str Int Any)), imA a_v_deed (v_deed : Any), F] : List (Asn G)) := pack_Ledger (hS.sel [2, 0, 1, 3, 4] (by decide) rfl)
        exact hm _ _ (hS.sel [1, 0, 3] (by decide) rfl)
      ·
        have hS : Sep H ([lstA p7 ((dget v_self.kept v_self.hand).getD ([] : (List (T4 Int Str Int Any))) : (List (T4 Int Str Int Any))), imA (.ref p14) ((⟨r13 + 1, v_self.hand, (((dget v_self.kept v_self.hand).getD ([] : (List (T4 Int Str Int Any)))).length : Int) + 1, v_deed⟩ : T4 _ _ _ _) : (T4 Int Str Int Any)), R9, cell a_v_self (.ins (G.cl 8) dx1 [("hand", (.str (v_self.hand))), ("kept", (.ref p2))]), imA a_v_deed (v_deed : Any), F] : List (Asn G)) := Sep.star (M := [lstA p7 ((dget v_self.kept v_self.hand).getD ([] : (List (T4 Int Str Int Any))) : (List (T4 Int Str Int Any)))]) hS
        have hS : Sep H ([dictE lstA p2 (v_self.kept : (List (Str × (List (T4 Int Str Int Any))))), imA (.ref p14) ((⟨r13 + 1, v_self.hand, (((dget v_self.kept v_self.hand).getD ([] : (List (T4 Int Str Int Any)))).length : Int) + 1, v_deed⟩ : T4 _ _ _ _) : (T4 Int Str Int Any)), cell a_v_self (.ins (G.cl 8) dx1 [("hand", (.str (v_self.hand))), ("kept", (.ref p2))]), imA a_v_deed (v_deed : Any), F] : List (Asn G)) := dictP_E (drop2 (hb11 _ _ (hS.sel [0, 2, 1, 3, 4, 5] (by decide) rfl)))
        have hS : Sep H (LedgerA a_v_self v_self :: [imA (.ref p14) ((⟨r13 + 1, v_self.hand, (((dget v_self.kept v_self.hand).getD ([] : (List (T4 Int Str Int Any)))).length : Int) + 1, v_deed⟩ : T4 _ _ _ _) : (T4 Int Str Int Any)), imA a_v_deed (v_deed : Any), F] : List (Asn G)) := pack_Ledger (hS.sel [2, 0, 1, 3, 4] (by decide) rfl)
        exact hx _ (hS.sel [0, 3] (by decide) rfl)
def sp_Ledger_have (G : Gx) : Sp := fun vs H Q E => ∃ (a_v_self : Addr) (v_self : Ledger) (F : Asn G), vs = [.ref a_v_self] ∧ Sep H ([LedgerA a_v_self v_self, F] : List (Asn G)) ∧ R.wp (m_Ledger_have v_self) (fun r => ∀ p H', Sep H' ([dictA p (r : (List (Str × Int))), LedgerA a_v_self v_self, F] : List (Asn G)) → Q (.ref p) H') (fun _ => False)
abbrev N_Ledger_have : List Str := ["self", "found", "hand", "rows"]
theorem sc_Ledger_have : FnScope N_Ledger_have ["self"] (defScope s_Ledger_have) := ⟨rfl, rfl, rfl, by decide +kernel, rfl, by decide +kernel, by decide +kernel⟩
theorem ok_Ledger_have (T : Txt G mg) : FnOk P w G.K mg base CX0 1 T.a_Ledger_have T.fd_Ledger_have ["self"] (sp_Ledger_have G) := by
  have nd := sc_Ledger_have.nd
  refine Fun.ok T.F_Ledger_have sc_Ledger_have (fun vs H Q E h => ?_) (fun cdv A outer s H vs Q E hr h => ?_)
  · obtain ⟨a_v_self, v_self, F, rfl, _⟩ := h; rfl
  · obtain ⟨a_v_self, v_self, F, rfl, hS, hm⟩ := h
    refine ⟨_, (pss_cons (ps_set (i := 1) nd rfl (Or.inl rfl) pe_dnewK)
      (pss_cons (ps_lock (ps_for PassesOwn.never rfl (pi_items (pe_fld (pv 0) rfl)) (pg_tupK (n := 2) G.K rfl rfl (pgs_cons (pg_name (i := 2) nd rfl (Or.inl rfl)) (pgs_cons (pg_name (i := 3) nd rfl (Or.inl rfl)) pgs_nil))) (pss_one (ps_asg (pe_callB (lenSqK G.K) (by rfl) T.z_len PySem.boot_len (pa_cons (pe_fz (pv 3)) pa_nil)) (pg_sub (pv 1) (pv 2) (set_dict (hu_of hr)))))))
      (pss_one (ps_ret (pv 1))))), ?_⟩
    unfold m_Ledger_have at hm
    have hS : Sep H (LedgerA a_v_self v_self :: [F] : List (Asn G)) := hS.sel [0, 1] (by decide) rfl
    obtain ⟨dx1, p2, hS⟩ := open_Ledger hS
    have hS : Sep H ([cell a_v_self (.ins (G.cl 8) dx1 [("hand", (.str (v_self.hand))), ("kept", (.ref p2))]), dictE lstA p2 (v_self.kept : (List (Str × (List (T4 Int Str Int Any))))), F] : List (Asn G)) := hS
    refine f_seq ?_
    refine c_asg ?_
    refine k_dnew (κ := Str) (β := Int) hS fun p3 H hS => ?_
    refine c_set (σ' := [some (.ref a_v_self), some (.ref p3), none, none]) rfl ?_
    refine sq_nx ?_
    refine f_seq ?_
    refine k_lockSDE (hS.sel [2, 0, 1, 3] (by decide) rfl : Sep _ (dictE lstA p2 (v_self.kept : (List (Str × (List (T4 Int Str Int Any))))) :: [dictA p3 (([] : (List (Str × Int))) : (List (Str × Int))), cell a_v_self (.ins (G.cl 8) dx1 [("hand", (.str (v_self.hand))), ("kept", (.ref p2))]), F] : List (Asn G))) fun od4 ps5 H hS => ?_
    have hS : Sep H ([lockE lstA p2 od4 ps5 (v_self.kept : (List (Str × (List (T4 Int Str Int Any))))), dictA p3 (([] : (List (Str × Int))) : (List (Str × Int))), cell a_v_self (.ins (G.cl 8) dx1 [("hand", (.str (v_self.hand))), ("kept", (.ref p2))]), F] : List (Asn G)) := hS
    refine c_for ?_
    refine c_items ?_
    refine ev_to (ev_fld (ev_var rfl) (hS.getCell (i := 2) rfl) T.cl_Ledger T.n_Ledger_kept rfl) ?_
    have hl6 := (hS.cellL (i := 0) rfl).1.1
    refine k_itemsE (hS.cellL (i := 0) rfl).2 ?_
    refine k_for (τ := (List (Str × Int))) (fun (s7 : (List (Str × Int))) (σ : L2.St) (H : Hp) => ∃ (w10 w11 : Option V), σ = [some (.ref a_v_self), some (.ref p3), w10, w11] ∧ Sep H ([lockE lstA p2 od4 ps5 (v_self.kept : (List (Str × (List (T4 Int Str Int Any))))), dictA p3 (s7 : (List (Str × Int))), cell a_v_self (.ins (G.cl 8) dx1 [("hand", (.str (v_self.hand))), ("kept", (.ref p2))]), F] : List (Asn G))) (im := (imID ps5 (v_self.kept : (List (Str × (List (T4 Int Str Int Any))))))) (s := (([] : (List (Str × Int))))) (fun _ => wk_itemsE hl6 (fun _ _ ⟨_, _, _, h⟩ => (h.cellL (i := 0) rfl).2) (fun _ _ _ ⟨y0_, y1_, y2_, h⟩ s => ⟨y0_, y1_, y2_, h.more s⟩)) ⟨_, _, rfl, hS.sel [0, 1, 2, 3] (by decide) rfl⟩ hm (fun s7 x8 v9 σ H q N hI hx hm nx => ?_) (fun s7 σ H hm hI => ?_)
    ·
      obtain ⟨w10, w11, rfl, hS⟩ := hI
      obtain ⟨j12, p13, T14, hl15, hj16, hp17, rfl, hT18, hS⟩ := focusIL (hS.sel [0, 1, 2, 3] (by decide) rfl : Sep _ (lockE lstA p2 od4 ps5 (v_self.kept : (List (Str × (List (T4 Int Str Int Any))))) :: [dictA p3 (s7 : (List (Str × Int))), cell a_v_self (.ins (G.cl 8) dx1 [("hand", (.str (v_self.hand))), ("kept", (.ref p2))]), F] : List (Asn G))) hx
      have hS : Sep H ([lstA p13 (x8.2 : (List (T4 Int Str Int Any))), lockH lstA p2 od4 ps5 (v_self.kept : (List (Str × (List (T4 Int Str Int Any))))) j12, dictA p3 (s7 : (List (Str × Int))), cell a_v_self (.ins (G.cl 8) dx1 [("hand", (.str (v_self.hand))), ("kept", (.ref p2))]), F] : List (Asn G)) := hS
      refine k_gT hT18 rfl ?_
      refine k_gC (σ' := [some (.ref a_v_self), some (.ref p3), some (.str (x8.1)), w11]) rfl ?_
      refine k_gC (σ' := [some (.ref a_v_self), some (.ref p3), some (.str (x8.1)), some (.ref p13)]) rfl ?_
      refine k_gE ?_
      refine c_asgS ?_
      refine ev_to (ev_lenG (ev_fz (ev_var rfl)) (hS.sq (i := 0) rfl)) ?_
      refine ev_to (ev_var rfl) ?_
      refine ev_to (ev_var rfl) ?_
      obtain ⟨h19, hm⟩ := R.wp_need hm
      refine k_setD (k := x8.1) (y := (x8.2.length : Int)) hS (i := 2) rfl rfl h19 rfl fun H hS => ?_
      have hS : Sep H ([lstA p13 (x8.2 : (List (T4 Int Str Int Any))), lockH lstA p2 od4 ps5 (v_self.kept : (List (Str × (List (T4 Int Str Int Any))))) j12, dictA p3 (dput s7 x8.1 (x8.2.length : Int) : (List (Str × Int))), cell a_v_self (.ins (G.cl 8) dx1 [("hand", (.str (v_self.hand))), ("kept", (.ref p2))]), F] : List (Asn G)) := hS
      have hS : Sep H ([lockE lstA p2 od4 ps5 (v_self.kept : (List (Str × (List (T4 Int Str Int Any))))), dictA p3 (dput s7 x8.1 (x8.2.length : Int) : (List (Str × Int))), cell a_v_self (.ins (G.cl 8) dx1 [("hand", (.str (v_self.hand))), ("kept", (.ref p2))]), F] : List (Asn G)) := unfocDL0 hl15 hj16 hp17 (hS.sel [0, 1, 2, 3, 4] (by decide) rfl)
      exact nx _ _ _ hm ⟨_, _, rfl, hS.sel [0, 1, 2, 3] (by decide) rfl⟩
    · obtain ⟨w10, w11, rfl, hS⟩ := hI
      refine k_unlSDE (hS.sel [0, 1, 2, 3] (by decide) rfl : Sep _ (lockE lstA p2 od4 ps5 (v_self.kept : (List (Str × (List (T4 Int Str Int Any))))) :: [dictA p3 (s7 : (List (Str × Int))), cell a_v_self (.ins (G.cl 8) dx1 [("hand", (.str (v_self.hand))), ("kept", (.ref p2))]), F] : List (Asn G))) rfl fun H hS => ?_
      have hS : Sep H ([dictE lstA p2 (v_self.kept : (List (Str × (List (T4 Int Str Int Any))))), dictA p3 (s7 : (List (Str × Int))), cell a_v_self (.ins (G.cl 8) dx1 [("hand", (.str (v_self.hand))), ("kept", (.ref p2))]), F] : List (Asn G)) := hS
      refine sq_nx ?_
      refine c_ret ?_
      refine ev_to (ev_var rfl) ?_
      have hS : Sep H (LedgerA a_v_self v_self :: [dictA p3 (s7 : (List (Str × Int))), F] : List (Asn G)) := pack_Ledger (hS.sel [2, 0, 1, 3] (by decide) rfl)
      exact hm _ _ (hS.sel [1, 0, 2] (by decide) rfl)
def sp_Ledger_told (G : Gx) : Sp := fun vs H Q E => ∃ (a_v_self : Addr) (v_self : Ledger) (a_v_have : V) (v_have : Any) (F : Asn G), vs = [.ref a_v_self, a_v_have] ∧ Im.im G H a_v_have v_have ∧ Sep H ([LedgerA a_v_self v_self, F] : List (Asn G)) ∧ R.wp (m_Ledger_told v_self v_have) (fun r => ∀ p H', Sep H' ([lstA p (r : (List (T4 Int Str Int Any))), LedgerA a_v_self v_self, F] : List (Asn G)) → Q (.ref p) H') (fun _ => False)
abbrev N_Ledger_told : List Str := ["self", "have", "found", "hand", "rows", "many"]
theorem sc_Ledger_told : FnScope N_Ledger_told ["self", "have"] (defScope s_Ledger_told) := ⟨rfl, rfl, rfl, by decide +kernel, rfl, by decide +kernel, by decide +kernel⟩
theorem ok_Ledger_told (T : Txt G mg) : FnOk P w G.K mg base CX0 2 T.a_Ledger_told T.fd_Ledger_told ["self", "have"] (sp_Ledger_told G) := by
  have nd := sc_Ledger_told.nd
  refine FunD.ok0 T.F_Ledger_told sc_Ledger_told (fun vs H Q E h => ?_) (fun cdv A outer s H vs Q E hr h => ?_)
  · obtain ⟨a_v_self, v_self, a_v_have, v_have, F, rfl, _⟩ := h; rfl
  · obtain ⟨a_v_self, v_self, a_v_have, v_have, F, rfl, him_v_have, hS, hm⟩ := h
    have hS := hS.addIm him_v_have
    refine ⟨_, (pss_cons (ps_set (i := 2) nd rfl (Or.inl rfl) (pe_fz (pe_lst pa_nil)))
      (pss_cons (ps_lock (ps_for PassesOwn.never rfl (pi_items (pe_fld (pv 0) rfl)) (pg_tupK (n := 2) G.K rfl rfl (pgs_cons (pg_name (i := 3) nd rfl (Or.inl rfl)) (pgs_cons (pg_name (i := 4) nd rfl (Or.inl rfl)) pgs_nil))) (pss_cons (ps_set (i := 5) nd rfl (Or.inl rfl) pe_int)
      (pss_cons (ps_if (pt_cmp (pc_notN (pv 1))) (pss_one (ps_set (i := 5) nd rfl (Or.inl rfl) (pe_dget2 (hu_of hr) (pv 1) (pv 3) pe_int m2))) pss_nil)
      (pss_one (ps_expr (pe_bmK G.K PySem.F.plainAttrs_list PySem.F.slot_list_extend PySem.F.type_list_extend mt_extend (pe_fz (pv 2)) (pa_cons (pe_fz (pe_slice (sl_listK G.K) (pe_fz (pv 4)) (po_some (pv 5)) po_none)) pa_nil))))))))
      (pss_one (ps_ret (pe_fz (pe_callBK (cr_sortK (key_stamp_of T) hr.units (dpR hr) G.K) (by rfl) T.z_sorted (by decide +kernel) (pa_cons (pe_fz (pv 2)) pa_nil) (pk_cons (pe_glob (v := .ref T.a_stamp_of) rfl T.g_stamp_of rfl) pk_nil))))))), ?_⟩
    unfold m_Ledger_told at hm
    have hS : Sep H (LedgerA a_v_self v_self :: [imA a_v_have (v_have : Any), F] : List (Asn G)) := hS.sel [1, 0, 2] (by decide) rfl
    obtain ⟨dx1, p2, hS⟩ := open_Ledger hS
    have hS : Sep H ([cell a_v_self (.ins (G.cl 8) dx1 [("hand", (.str (v_self.hand))), ("kept", (.ref p2))]), dictE lstA p2 (v_self.kept : (List (Str × (List (T4 Int Str Int Any))))), imA a_v_have (v_have : Any), F] : List (Asn G)) := hS
    refine f_seq ?_
    refine c_asg ?_
    refine c_fz ?_
    refine c_lst ?_
    refine ea_to ea_nil ?_
    refine k_lst (α := (T4 Int Str Int Any)) (vs := []) (xs := ([] : (List (T4 Int Str Int Any)))) hS True.intro (by show 0 ≤ sizeLine; decide) fun p3 H hS => ?_
    refine fz_no ?_
    refine c_set (σ' := [some (.ref a_v_self), some a_v_have, some (.ref p3), none, none, none]) rfl ?_
    refine sq_nx ?_
    refine f_seq ?_
    refine k_lockSDE (hS.sel [2, 0, 1, 3, 4] (by decide) rfl : Sep _ (dictE lstA p2 (v_self.kept : (List (Str × (List (T4 Int Str Int Any))))) :: [lstA p3 (([] : (List (T4 Int Str Int Any))) : (List (T4 Int Str Int Any))), cell a_v_self (.ins (G.cl 8) dx1 [("hand", (.str (v_self.hand))), ("kept", (.ref p2))]), imA a_v_have (v_have : Any), F] : List (Asn G))) fun od4 ps5 H hS => ?_
    have hS : Sep H ([lockE lstA p2 od4 ps5 (v_self.kept : (List (Str × (List (T4 Int Str Int Any))))), lstA p3 (([] : (List (T4 Int Str Int Any))) : (List (T4 Int Str Int Any))), cell a_v_self (.ins (G.cl 8) dx1 [("hand", (.str (v_self.hand))), ("kept", (.ref p2))]), imA a_v_have (v_have : Any), F] : List (Asn G)) := hS
    refine c_for ?_
    refine c_items ?_
    refine ev_to (ev_fld (ev_var rfl) (hS.getCell (i := 2) rfl) T.cl_Ledger T.n_Ledger_kept rfl) ?_
    have hl6 := (hS.cellL (i := 0) rfl).1.1
    refine k_itemsE (hS.cellL (i := 0) rfl).2 ?_
    refine k_for (τ := (List (T4 Int Str Int Any))) (fun (s7 : (List (T4 Int Str Int Any))) (σ : L2.St) (H : Hp) => ∃ (w10 w11 w12 : Option V), σ = [some (.ref a_v_self), some a_v_have, some (.ref p3), w10, w11, w12] ∧ Sep H ([lockE lstA p2 od4 ps5 (v_self.kept : (List (Str × (List (T4 Int Str Int Any))))), lstA p3 (s7 : (List (T4 Int Str Int Any))), cell a_v_self (.ins (G.cl 8) dx1 [("hand", (.str (v_self.hand))), ("kept", (.ref p2))]), imA a_v_have (v_have : Any), F] : List (Asn G))) (im := (imID ps5 (v_self.kept : (List (Str × (List (T4 Int Str Int Any))))))) (s := (([] : (List (T4 Int Str Int Any))))) (fun _ => wk_itemsE hl6 (fun _ _ ⟨_, _, _, _, h⟩ => (h.cellL (i := 0) rfl).2) (fun _ _ _ ⟨y0_, y1_, y2_, y3_, h⟩ s => ⟨y0_, y1_, y2_, y3_, h.more s⟩)) ⟨_, _, _, rfl, hS.sel [0, 1, 2, 3, 4] (by decide) rfl⟩ hm (fun s7 x8 v9 σ H q N hI hx hm nx => ?_) (fun s7 σ H hm hI => ?_)
    ·
      obtain ⟨w10, w11, w12, rfl, hS⟩ := hI
      obtain ⟨j13, p14, T15, hl16, hj17, hp18, rfl, hT19, hS⟩ := focusIL (hS.sel [0, 1, 2, 3, 4] (by decide) rfl : Sep _ (lockE lstA p2 od4 ps5 (v_self.kept : (List (Str × (List (T4 Int Str Int Any))))) :: [lstA p3 (s7 : (List (T4 Int Str Int Any))), cell a_v_self (.ins (G.cl 8) dx1 [("hand", (.str (v_self.hand))), ("kept", (.ref p2))]), imA a_v_have (v_have : Any), F] : List (Asn G))) hx
      have hS : Sep H ([lstA p14 (x8.2 : (List (T4 Int Str Int Any))), lockH lstA p2 od4 ps5 (v_self.kept : (List (Str × (List (T4 Int Str Int Any))))) j13, lstA p3 (s7 : (List (T4 Int Str Int Any))), cell a_v_self (.ins (G.cl 8) dx1 [("hand", (.str (v_self.hand))), ("kept", (.ref p2))]), imA a_v_have (v_have : Any), F] : List (Asn G)) := hS
      refine k_gT hT19 rfl ?_
      refine k_gC (σ' := [some (.ref a_v_self), some a_v_have, some (.ref p3), some (.str (x8.1)), w11, w12]) rfl ?_
      refine k_gC (σ' := [some (.ref a_v_self), some a_v_have, some (.ref p3), some (.str (x8.1)), some (.ref p14), w12]) rfl ?_
      refine k_gE ?_
      refine f_seq ?_
      refine c_asg ?_
      refine ev_to ev_c ?_
      refine c_set (σ' := [some (.ref a_v_self), some a_v_have, some (.ref p3), some (.str (x8.1)), some (.ref p14), some (.int (0))]) rfl ?_
      refine sq_nx ?_
      refine f_seq ?_
      refine f_if ?_
      refine et_to (et_B (ev_notN (ev_var rfl) (hS.im (i := 4) rfl))) ?_
      refine ifK_J (τ := Int) (fun (s20 : Int) (σ : L2.St) (H : Hp) => σ = [some (.ref a_v_self), some a_v_have, some (.ref p3), some (.str (x8.1)), some (.ref p14), some (.int (s20))] ∧ Sep H ([lstA p14 (x8.2 : (List (T4 Int Str Int Any))), lockH lstA p2 od4 ps5 (v_self.kept : (List (Str × (List (T4 Int Str Int Any))))) j13, lstA p3 (s7 : (List (T4 Int Str Int Any))), cell a_v_self (.ins (G.cl 8) dx1 [("hand", (.str (v_self.hand))), ("kept", (.ref p2))]), imA a_v_have (v_have : Any), F] : List (Asn G))) hm (fun hb q hm nx => ?_) (fun hb q hm nx => ?_) (fun s20 σ H hm hI => ?_)
      ·
        refine c_asg ?_
        exact hm.elim
      ·
        refine st_nx ?_
        exact nx _ _ _ hm ⟨rfl, hS.sel [0, 1, 2, 3, 4, 5] (by decide) rfl⟩
      · obtain ⟨rfl, hS⟩ := hI
        refine sq_nx ?_
        refine c_drop ?_
        refine c_bm ?_
        refine ev_to (ev_fz (ev_var rfl)) ⟨tyL hS (i := 2) rfl, ?_⟩
        refine c_cons ?_
        refine c_fz ?_
        refine c_sl ?_
        refine ev_to (ev_fz (ev_var rfl)) ?_
        refine eo_to (eo_some (ev_var rfl)) ?_
        refine eo_to eo_no ?_
        refine k_slG hS (hS.sq (i := 0) rfl) fun p21 H hS => ?_
        refine fz_no ?_
        refine c_nil ?_
        obtain ⟨h22, hm⟩ := R.wp_need hm
        refine k_extend hS (i := 3) (j := 0) rfl rfl h22 rfl fun H hS => ?_
        have hS : Sep H ([lstA p21 (cutL x8.2 (some (s20)) none : (List (T4 Int Str Int Any))), lstA p14 (x8.2 : (List (T4 Int Str Int Any))), lockH lstA p2 od4 ps5 (v_self.kept : (List (Str × (List (T4 Int Str Int Any))))) j13, lstA p3 (s7 ++ (cutL x8.2 (some (s20)) none) : (List (T4 Int Str Int Any))), cell a_v_self (.ins (G.cl 8) dx1 [("hand", (.str (v_self.hand))), ("kept", (.ref p2))]), imA a_v_have (v_have : Any), F] : List (Asn G)) := hS
        have hS : Sep H ([lockE lstA p2 od4 ps5 (v_self.kept : (List (Str × (List (T4 Int Str Int Any))))), lstA p21 (cutL x8.2 (some (s20)) none : (List (T4 Int Str Int Any))), lstA p3 (s7 ++ (cutL x8.2 (some (s20)) none) : (List (T4 Int Str Int Any))), cell a_v_self (.ins (G.cl 8) dx1 [("hand", (.str (v_self.hand))), ("kept", (.ref p2))]), imA a_v_have (v_have : Any), F] : List (Asn G)) := unfocDL0 hl16 hj17 hp18 (hS.sel [1, 2, 0, 3, 4, 5, 6] (by decide) rfl)
        exact nx _ _ _ hm ⟨_, _, _, rfl, hS.sel [0, 2, 3, 4, 5] (by decide) rfl⟩
    · obtain ⟨w10, w11, w12, rfl, hS⟩ := hI
      refine k_unlSDE (hS.sel [0, 1, 2, 3, 4] (by decide) rfl : Sep _ (lockE lstA p2 od4 ps5 (v_self.kept : (List (Str × (List (T4 Int Str Int Any))))) :: [lstA p3 (s7 : (List (T4 Int Str Int Any))), cell a_v_self (.ins (G.cl 8) dx1 [("hand", (.str (v_self.hand))), ("kept", (.ref p2))]), imA a_v_have (v_have : Any), F] : List (Asn G))) rfl fun H hS => ?_
      have hS : Sep H ([dictE lstA p2 (v_self.kept : (List (Str × (List (T4 Int Str Int Any))))), lstA p3 (s7 : (List (T4 Int Str Int Any))), cell a_v_self (.ins (G.cl 8) dx1 [("hand", (.str (v_self.hand))), ("kept", (.ref p2))]), imA a_v_have (v_have : Any), F] : List (Asn G)) := hS
      refine sq_nx ?_
      refine c_ret ?_
      refine c_fz ?_
      refine c_ck ?_
      refine ea_to (ea_cons (ev_fz (ev_var rfl)) ea_nil) ?_
      obtain ⟨h24, hm⟩ := R.wp_need hm
      refine c_kw1 (k_sortK hS (i := 1) rfl h24 fun p23 H hS => ?_)
      refine fz_no ?_
      have hS : Sep H (LedgerA a_v_self v_self :: [lstA p23 (sortSt s7 : (List (T4 Int Str Int Any))), lstA p3 (s7 : (List (T4 Int Str Int Any))), imA a_v_have (v_have : Any), F] : List (Asn G)) := pack_Ledger (hS.sel [3, 1, 0, 2, 4, 5] (by decide) rfl)
      exact hm _ _ (hS.sel [1, 0, 4] (by decide) rfl)
def sp_law_begin (G : Gx) : Sp := fun vs H Q E => ∃ (a_v_law_script : V) (v_law_script : Script) (F : Asn G), vs = [a_v_law_script] ∧ Im.im G H a_v_law_script v_law_script ∧ Sep H ([F] : List (Asn G)) ∧ R.wp (m_law_begin v_law_script) (fun r => ∀ p H', Sep H' ([stA p (r : T3 Int Script Int), F] : List (Asn G)) → Q (.ref p) H') (fun _ => False)
abbrev N_law_begin : List Str := ["_law_script"]
theorem sc_law_begin : FnScope N_law_begin ["_law_script"] (defScope s_law_begin) := ⟨rfl, rfl, rfl, by decide +kernel, rfl, by decide +kernel, by decide +kernel⟩
theorem ok_law_begin (T : Txt G mg) : FnOk P w G.K mg base CX0 1 T.a_law_begin T.fd_law_begin ["_law_script"] (sp_law_begin G) := by
  have nd := sc_law_begin.nd
  refine Fun.ok T.F_law_begin sc_law_begin (fun vs H Q E h => ?_) (fun cdv A outer s H vs Q E hr h => ?_)
  · obtain ⟨a_v_law_script, v_law_script, F, rfl, _⟩ := h; rfl
  · obtain ⟨a_v_law_script, v_law_script, F, rfl, him_v_law_script, hS, hm⟩ := h
    obtain ⟨ad_v_law_script, rfl, _⟩ := im_script him_v_law_script
    have hS := hS.addIm him_v_law_script
    refine ⟨_, (pss_one (ps_ret (pe_fz (pe_lst (pa_cons (pe_op op_add (pe_callB (lenSqK G.K) (by rfl) T.z_len PySem.boot_len (pa_cons (pv 0) pa_nil)) pe_int) (pa_cons (pv 0) (pa_cons pe_int pa_nil))))))), ?_⟩
    unfold m_law_begin at hm
    refine c_ret ?_
    refine c_fz ?_
    refine c_lst ?_
    refine ea_to (ea_cons (ev_add (ev_lenLm (ev_var rfl) (sq_script (hS.im (i := 0) rfl))) ev_c) (ea_cons (ev_var rfl) (ea_cons ev_c ea_nil))) ?_
    refine k_lst (α := StV) (vs := [(.int ((v_law_script.ns.length : Int) + 7)), (.ref ad_v_law_script), (.int (0))]) (xs := stL (⟨(v_law_script.ns.length : Int) + 7, v_law_script, 0⟩ : T3 Int Script Int)) hS ⟨rfl, st_im (hS.im (i := 0) rfl), rfl, True.intro⟩ (by show 3 ≤ sizeLine; decide) fun p1 H hS => ?_
    have hS : Sep H ([stA p1 ((⟨(v_law_script.ns.length : Int) + 7, v_law_script, 0⟩ : T3 Int Script Int) : T3 Int Script Int), imA (.ref ad_v_law_script) v_law_script, F] : List (Asn G)) := hS
    refine fz_no ?_
    exact hm _ _ (hS.sel [0, 2] (by decide) rfl)
def sp_law_next (G : Gx) : Sp := fun vs H Q E => ∃ (a_v_law_state : Addr) (v_law_state : (T3 Int Script Int)) (F : Asn G), vs = [.ref a_v_law_state] ∧ Sep H ([stA a_v_law_state (v_law_state : T3 Int Script Int), F] : List (Asn G)) ∧ R.wp (m_law_next v_law_state) (fun r => ∀ H', Sep H' ([stA a_v_law_state (r.2 : T3 Int Script Int), F] : List (Asn G)) → Q (.int (r.1)) H') (fun _ => False)
abbrev N_law_next : List Str := ["_law_state", "_law_cell"]
theorem sc_law_next : FnScope N_law_next ["_law_state"] (defScope s_law_next) := ⟨rfl, rfl, rfl, by decide +kernel, rfl, by decide +kernel, by decide +kernel⟩
theorem ok_law_next (T : Txt G mg) : FnOk P w G.K mg base CX0 1 T.a_law_next T.fd_law_next ["_law_state"] (sp_law_next G) := by
  have nd := sc_law_next.nd
  refine Fun.ok T.F_law_next sc_law_next (fun vs H Q E h => ?_) (fun cdv A outer s H vs Q E hr h => ?_)
  · obtain ⟨a_v_law_state, v_law_state, F, rfl, _⟩ := h; rfl
  · obtain ⟨a_v_law_state, v_law_state, F, rfl, hS, hm⟩ := h
    refine ⟨_, (pss_cons (ps_set (i := 1) nd rfl (Or.inl rfl) pe_int)
      (pss_cons (ps_if (pt_cmpR op_gt (pe_callB (lenSqK G.K) (by rfl) T.z_len PySem.boot_len (pa_cons (pe_ix (ix_listK G.K) (pv 0) pe_int (fun _ _ => rfl)) pa_nil)) pe_int (nomark _)) (pss_one (ps_set (i := 1) nd rfl (Or.inl rfl) (pe_ix (ix_listK G.K) (pe_ix (ix_listK G.K) (pv 0) pe_int (fun _ _ => rfl)) (pe_op op_mod (pe_ix (ix_listK G.K) (pv 0) pe_int (fun _ _ => rfl)) (pe_callB (lenSqK G.K) (by rfl) T.z_len PySem.boot_len (pa_cons (pe_ix (ix_listK G.K) (pv 0) pe_int (fun _ _ => rfl)) pa_nil))) (fun _ _ => rfl)))) pss_nil)
      (pss_cons (ps_asg (pe_op op_add (pe_ix (ix_listK G.K) (pv 0) pe_int (fun _ _ => rfl)) pe_int) (pg_sub (pv 0) pe_int set_list))
      (pss_cons (ps_asg (pe_op op_mod (pe_op op_add (pe_op op_add (pe_op op_mul (pe_ix (ix_listK G.K) (pv 0) pe_int (fun _ _ => rfl)) pe_int) (pv 1)) (pe_ix (ix_listK G.K) (pv 0) pe_int (fun _ _ => rfl))) pe_int) (pg_sub (pv 0) pe_int set_list))
      (pss_one (ps_ret (pe_op op_fdiv (pe_ix (ix_listK G.K) (pv 0) pe_int (fun _ _ => rfl)) pe_int))))))), ?_⟩
    unfold m_law_next at hm
    refine f_seq ?_
    refine c_asg ?_
    refine ev_to ev_c ?_
    refine c_set (σ' := [some (.ref a_v_law_state), some (.int (0))]) rfl ?_
    refine sq_nx ?_
    refine f_seq ?_
    refine f_if ?_
    obtain ⟨ad1, hq2, hi3⟩ := st_get hS (i := 0) rfl
    refine et_to (et_test (ev_i0 (ev_lenLm (ev_ixSq (ev_var rfl) ev_c hq2 rfl) (sq_script hi3)) ev_c)) ?_
    refine ifK_J (τ := Int) (fun (s4 : Int) (σ : L2.St) (H : Hp) => σ = [some (.ref a_v_law_state), some (.int (s4))] ∧ Sep H ([stA a_v_law_state (v_law_state : T3 Int Script Int), F] : List (Asn G))) hm (fun hb q hm nx => ?_) (fun hb q hm nx => ?_) (fun s4 σ H hm hI => ?_)
    ·
      refine c_asg ?_
      obtain ⟨ad5, hq6, hi7⟩ := st_get hS (i := 0) rfl
      obtain ⟨ad8, hq9, hi10⟩ := st_get hS (i := 0) rfl
      obtain ⟨ad11, hq12, hi13⟩ := st_get hS (i := 0) rfl
      obtain ⟨h14, hm⟩ := R.wp_need hm
      obtain ⟨x15, hx15, hm⟩ := wp_idx hm
      refine ev_to (ev_ixSq (ev_ixSq (ev_var rfl) ev_c hq6 rfl) (ev_mod (ev_ixSq (ev_var rfl) ev_c hq9 rfl) (ev_lenLm (ev_ixSq (ev_var rfl) ev_c hq12 rfl) (sq_script hi13)) h14) (sq_script hi7) (atI_map hx15)) ?_
      refine c_set (σ' := [some (.ref a_v_law_state), some (.int (x15))]) rfl ?_
      exact nx _ _ _ hm ⟨rfl, hS.sel [0, 1] (by decide) rfl⟩
    ·
      refine st_nx ?_
      exact nx _ _ _ hm ⟨rfl, hS.sel [0, 1] (by decide) rfl⟩
    · obtain ⟨rfl, hS⟩ := hI
      refine sq_nx ?_
      refine f_seq ?_
      refine c_asgS ?_
      obtain ⟨ad16, hq17, hi18⟩ := st_get hS (i := 0) rfl
      refine ev_to (ev_add (ev_ixSq (ev_var rfl) ev_c hq17 rfl) ev_c) ?_
      refine ev_to (ev_var rfl) ?_
      refine ev_to ev_c ?_
      refine k_setL (x := StV.i (v_law_state.c + 1)) hS (n := 0) rfl rfl 2 rfl rfl fun H hS => ?_
      have hS : Sep H ([stA a_v_law_state (⟨v_law_state.a, v_law_state.b, v_law_state.c + 1⟩ : T3 Int Script Int), F] : List (Asn G)) := hS
      obtain ⟨y19, hy19, hm⟩ := wp_let hm
      have hS : Sep H ([stA a_v_law_state (y19 : T3 Int Script Int), F] : List (Asn G)) := by rw [← hy19]; exact hS
      refine sq_nx ?_
      refine f_seq ?_
      refine c_asgS ?_
      obtain ⟨ad20, hq21, hi22⟩ := st_get hS (i := 0) rfl
      obtain ⟨ad23, hq24, hi25⟩ := st_get hS (i := 0) rfl
      refine ev_to (ev_mod (ev_add (ev_add (ev_mul (ev_ixSq (ev_var rfl) ev_c hq21 rfl) ev_c (.inr (by constructor <;> decide))) (ev_var rfl)) (ev_ixSq (ev_var rfl) ev_c hq24 rfl)) ev_c (by decide)) ?_
      refine ev_to (ev_var rfl) ?_
      refine ev_to ev_c ?_
      refine k_setL (x := StV.i ((((y19.a * 48271) + s4) + y19.c) % 2147483647)) hS (n := 0) rfl rfl 0 rfl rfl fun H hS => ?_
      have hS : Sep H ([stA a_v_law_state (⟨(((y19.a * 48271) + s4) + y19.c) % 2147483647, y19.b, y19.c⟩ : T3 Int Script Int), F] : List (Asn G)) := hS
      obtain ⟨y26, hy26, hm⟩ := wp_let hm
      have hS : Sep H ([stA a_v_law_state (y26 : T3 Int Script Int), F] : List (Asn G)) := by rw [← hy26]; exact hS
      refine sq_nx ?_
      refine c_ret ?_
      obtain ⟨ad27, hq28, hi29⟩ := st_get hS (i := 0) rfl
      refine ev_to (ev_fdiv (ev_ixSq (ev_var rfl) ev_c hq28 rfl) ev_c ⟨by decide, by decide⟩) ?_
      exact hm _ (hS.sel [0, 1] (by decide) rfl)
def sp_law_word (G : Gx) : Sp := fun vs H Q E => ∃ (a_v_law_state : Addr) (v_law_state : (T3 Int Script Int)) (v_law_signs : Str) (v_law_most : Int) (F : Asn G), vs = [.ref a_v_law_state, (.str (v_law_signs)), (.int (v_law_most))] ∧ Sep H ([stA a_v_law_state (v_law_state : T3 Int Script Int), F] : List (Asn G)) ∧ R.wp (m_law_word v_law_state v_law_signs v_law_most) (fun r => ∀ H', Sep H' ([stA a_v_law_state (r.2 : T3 Int Script Int), F] : List (Asn G)) → Q (.str (r.1)) H') (fun _ => False)
abbrev N_law_word : List Str := ["_law_state", "_law_signs", "_law_most", "_law_size", "_law_k"]
theorem sc_law_word : FnScope N_law_word ["_law_state", "_law_signs", "_law_most"] (defScope s_law_word) := ⟨rfl, rfl, rfl, by decide +kernel, rfl, by decide +kernel, by decide +kernel⟩
theorem ok_law_word (T : Txt G mg) : FnOk P w G.K mg base CX0 2 T.a_law_word T.fd_law_word ["_law_state", "_law_signs", "_law_most"] (sp_law_word G) := by
  have nd := sc_law_word.nd
  refine Fun.ok T.F_law_word sc_law_word (fun vs H Q E h => ?_) (fun cdv A outer s H vs Q E hr h => ?_)
  · obtain ⟨a_v_law_state, v_law_state, v_law_signs, v_law_most, F, rfl, _⟩ := h; rfl
  · obtain ⟨a_v_law_state, v_law_state, v_law_signs, v_law_most, F, rfl, hS, hm⟩ := h
    refine ⟨_, (pss_cons (ps_set (i := 3) nd rfl (Or.inl rfl) (pe_ix (ix_listK G.K) (pe_fz (pe_lst (pa_cons pe_int (pa_cons pe_int (pa_cons (pv 2) (pa_cons (pe_op op_add pe_int (pe_op op_mod (pe_call (ok_law_next T) (hr.mono (by decide)) rfl T.g_law_next T.kp_law_next T.b_law_next .nil pass0 (pa_cons (pv 0) pa_nil)) (pv 2))) pa_nil)))))) (pe_op op_mod (pe_call (ok_law_next T) (hr.mono (by decide)) rfl T.g_law_next T.kp_law_next T.b_law_next .nil pass0 (pa_cons (pv 0) pa_nil)) pe_int) (fun _ _ => rfl)))
      (pss_cons (ps_if (pt_cmpR op_gt (pv 3) (pv 2) (nomark _)) (pss_one (ps_set (i := 3) nd rfl (Or.inl rfl) (pv 2))) pss_nil)
      (pss_one (ps_ret (pe_m1 PySem.F.slot_str_join PySem.F.type_str_join (joinK G.K) pe_str (pe_fz (pe_lc (own := [("_law_k", 4)]) (g := gName 4) rfl nd (pi_range1 rfl T.z_range (pa_cons (pv 3) pa_nil)) (blkOk_by (own := [("_law_k", 4)]) (N := N_law_word) (sc := defScope s_law_word) (by decide +kernel)) (fun _ _ _ _ _ => pg_name (i := 4) nd rfl (Or.inl rfl)) (fun _ _ _ _ _ => pts_nil) (fun _ _ _ _ _ => (pe_ix ix_str (pv 1) (pe_op op_mod (pe_call (ok_law_next T) (hr.mono (by decide)) rfl T.g_law_next T.kp_law_next T.b_law_next .nil pass0 (pa_cons (pv 0) pa_nil)) (pe_callB call_lenS (by rfl) T.z_len PySem.boot_len (pa_cons (pv 1) pa_nil))) (fun _ _ => rfl)))))))))), ?_⟩
    unfold m_law_word at hm
    refine f_seq ?_
    refine c_asg ?_
    refine c_op ?_
    refine c_fz ?_
    refine c_lst ?_
    refine c_cons ?_
    refine ev_to ev_c ?_
    refine c_cons ?_
    refine ev_to ev_c ?_
    refine c_cons ?_
    refine ev_to (ev_var rfl) ?_
    refine c_cons ?_
    refine c_op ?_
    refine ev_to ev_c ?_
    refine c_op ?_
    refine c_call ?_
    refine ea_to (ea_cons (ev_var rfl) ea_nil) ?_
    refine ⟨a_v_law_state, (v_law_state : (T3 Int Script Int)), star [F], rfl, Sep.unstar (M := [stA a_v_law_state (v_law_state : T3 Int Script Int)]) (hS.sel [0, 1] (by decide) rfl : Sep H (([stA a_v_law_state (v_law_state : T3 Int Script Int)] ++ [F] : List (Asn G)))), R.wp_mono (R.wp_bind hm) (fun r1 hm H hS => ?_) (fun _ z => z)⟩
    have hS : Sep H ([stA a_v_law_state (r1.2 : T3 Int Script Int), F] : List (Asn G)) := Sep.star (M := [stA a_v_law_state (r1.2 : T3 Int Script Int)]) hS
    refine ev_to (ev_var rfl) ?_
    obtain ⟨h2, hm⟩ := R.wp_need hm
    refine r_mod h2 ?_
    refine r_I0 _ ?_
    refine c_nil ?_
    refine k_lst (α := Int) (vs := [(.int (1)), (.int (2)), (.int (v_law_most)), (.int (1 + (r1.1 % v_law_most)))]) (xs := [1, 2, v_law_most, 1 + (r1.1 % v_law_most)]) hS ⟨rfl, ⟨rfl, ⟨rfl, ⟨rfl, True.intro⟩⟩⟩⟩ (by show 4 ≤ sizeLine; decide) fun p3 H hS => ?_
    refine fz_no ?_
    refine c_op ?_
    refine c_call ?_
    refine ea_to (ea_cons (ev_var rfl) ea_nil) ?_
    refine ⟨a_v_law_state, (r1.2 : (T3 Int Script Int)), star [lstA p3 ([1, 2, v_law_most, 1 + (r1.1 % v_law_most)] : (List Int)), F], rfl, Sep.unstar (M := [stA a_v_law_state (r1.2 : T3 Int Script Int)]) (hS.sel [1, 0, 2] (by decide) rfl : Sep H (([stA a_v_law_state (r1.2 : T3 Int Script Int)] ++ [lstA p3 ([1, 2, v_law_most, 1 + (r1.1 % v_law_most)] : (List Int)), F] : List (Asn G)))), R.wp_mono (R.wp_bind hm) (fun r4 hm H hS => ?_) (fun _ z => z)⟩
    have hS : Sep H ([stA a_v_law_state (r4.2 : T3 Int Script Int), lstA p3 ([1, 2, v_law_most, 1 + (r1.1 % v_law_most)] : (List Int)), F] : List (Asn G)) := Sep.star (M := [stA a_v_law_state (r4.2 : T3 Int Script Int)]) hS
    refine ev_to ev_c ?_
    refine r_mod (by decide) ?_
    obtain ⟨x5, hx5, hm⟩ := wp_idx hm
    refine r_ixSq (hS.sqF (i := 1) rfl) (atI_map hx5) _ ?_
    refine c_set (σ' := [some (.ref a_v_law_state), some (.str (v_law_signs)), some (.int (v_law_most)), some (.int (x5)), none]) rfl ?_
    refine sq_nx ?_
    refine f_seq ?_
    refine f_if ?_
    refine et_to (et_test (ev_i0 (ev_var rfl) (ev_var rfl))) ?_
    refine ifK_J (τ := Int) (fun (s6 : Int) (σ : L2.St) (H : Hp) => σ = [some (.ref a_v_law_state), some (.str (v_law_signs)), some (.int (v_law_most)), some (.int (s6)), none] ∧ Sep H ([stA a_v_law_state (r4.2 : T3 Int Script Int), lstA p3 ([1, 2, v_law_most, 1 + (r1.1 % v_law_most)] : (List Int)), F] : List (Asn G))) hm (fun hb q hm nx => ?_) (fun hb q hm nx => ?_) (fun s6 σ H hm hI => ?_)
    ·
      refine c_asg ?_
      refine ev_to (ev_var rfl) ?_
      refine c_set (σ' := [some (.ref a_v_law_state), some (.str (v_law_signs)), some (.int (v_law_most)), some (.int (v_law_most)), none]) rfl ?_
      exact nx _ _ _ hm ⟨rfl, hS.sel [0, 1, 2] (by decide) rfl⟩
    ·
      refine st_nx ?_
      exact nx _ _ _ hm ⟨rfl, hS.sel [0, 1, 2] (by decide) rfl⟩
    · obtain ⟨rfl, hS⟩ := hI
      refine sq_nx ?_
      refine c_ret ?_
      refine c_m1 ev_c ?_
      refine c_fz ?_
      refine c_lc ?_
      refine c_rng1 ?_
      refine ea_to (ea_cons (ev_var rfl) ea_nil) ?_
      obtain ⟨h7, hm⟩ := R.wp_need hm
      refine k_rng1 h7.1 h7.2 ?_
      obtain ⟨h8, hm⟩ := R.wp_need hm
      refine lc_sep (β := Str) (fun (s13 : (T3 Int Script Int)) => ([stA a_v_law_state (s13 : T3 Int Script Int), lstA p3 ([1, 2, v_law_most, 1 + (r1.1 % v_law_most)] : (List Int)), F] : List (Asn G))) (s := r4.2) (im := (fun _ v (x : Int) => v = .int x)) hS (fun _ _ _ => wk_range) h8 hm (fun p9 s13 ys12 x10 v11 H q Nx hS hx hm kS kN => ?_) (fun p9 t H hm hS => ?_)
      ·
        cases hx
        refine c_gLc (σ' := [some (.ref a_v_law_state), some (.str (v_law_signs)), some (.int (v_law_most)), some (.int (s6)), some (.int (x10))]) rfl rfl ?_
        refine c_yes ?_
        refine c_op ?_
        refine ev_to (ev_var rfl) ?_
        refine c_op ?_
        refine c_call ?_
        refine ea_to (ea_cons (ev_var rfl) ea_nil) ?_
        refine ⟨a_v_law_state, (s13 : (T3 Int Script Int)), star [lstA p9 (ys12 : List Str), lstA p3 ([1, 2, v_law_most, 1 + (r1.1 % v_law_most)] : (List Int)), F], rfl, Sep.unstar (M := [stA a_v_law_state (s13 : T3 Int Script Int)]) (hS.sel [1, 0, 2, 3] (by decide) rfl : Sep H (([stA a_v_law_state (s13 : T3 Int Script Int)] ++ [lstA p9 (ys12 : List Str), lstA p3 ([1, 2, v_law_most, 1 + (r1.1 % v_law_most)] : (List Int)), F] : List (Asn G)))), R.wp_mono (R.wp_bind hm) (fun r14 hm H hS => ?_) (fun _ z => z)⟩
        have hS : Sep H ([stA a_v_law_state (r14.2 : T3 Int Script Int), lstA p9 (ys12 : List Str), lstA p3 ([1, 2, v_law_most, 1 + (r1.1 % v_law_most)] : (List Int)), F] : List (Asn G)) := Sep.star (M := [stA a_v_law_state (r14.2 : T3 Int Script Int)]) hS
        obtain ⟨h15, hm⟩ := R.wp_need hm
        refine ev_to (ev_lenS (ev_var rfl) h15) ?_
        obtain ⟨h16, hm⟩ := R.wp_need hm
        refine r_mod h16 ?_
        obtain ⟨h17, hm⟩ := R.wp_need hm
        obtain ⟨c18, hc18, hm⟩ := wp_idx hm
        refine ev_op2 (ev_ixS ev_c ev_c h17 hc18) ?_
        exact kS r14.2 _ _ _ hm rfl (hS.sel [1, 0, 2, 3] (by decide) rfl)
      · revert hm hS; generalize t = t19; intro hm hS
        refine fz_no ?_
        obtain ⟨h20, hm⟩ := R.wp_need hm
        refine ⟨_, _, _, rfl, rfl, .inl (hS.sqF (i := 0) rfl), h20, ?_⟩
        exact hm _ (hS.sel [1, 3] (by decide) rfl)
def sp_law_any_word (G : Gx) : Sp := fun vs H Q E => ∃ (a_v_law_state : Addr) (v_law_state : (T3 Int Script Int)) (F : Asn G), vs = [.ref a_v_law_state] ∧ Sep H ([stA a_v_law_state (v_law_state : T3 Int Script Int), F] : List (Asn G)) ∧ R.wp (m_law_any_word v_law_state) (fun r => ∀ H', Sep H' ([stA a_v_law_state (r.2 : T3 Int Script Int), F] : List (Asn G)) → Q (.str (r.1)) H') (fun _ => False)
abbrev N_law_any_word : List Str := ["_law_state"]
theorem sc_law_any_word : FnScope N_law_any_word ["_law_state"] (defScope s_law_any_word) := ⟨rfl, rfl, rfl, by decide +kernel, rfl, by decide +kernel, by decide +kernel⟩
theorem ok_law_any_word (T : Txt G mg) : FnOk P w G.K mg base CX0 3 T.a_law_any_word T.fd_law_any_word ["_law_state"] (sp_law_any_word G) := by
  have nd := sc_law_any_word.nd
  refine Fun.ok T.F_law_any_word sc_law_any_word (fun vs H Q E h => ?_) (fun cdv A outer s H vs Q E hr h => ?_)
  · obtain ⟨a_v_law_state, v_law_state, F, rfl, _⟩ := h; rfl
  · obtain ⟨a_v_law_state, v_law_state, F, rfl, hS, hm⟩ := h
    refine ⟨_, (pss_one (ps_ret (pe_call (ok_law_word T) (hr.mono (by decide)) rfl T.g_law_word T.kp_law_word T.b_law_word .nil pass0 (pa_cons (pv 0) (pa_cons pe_str (pa_cons pe_int pa_nil)))))), ?_⟩
    unfold m_law_any_word at hm
    refine c_ret ?_
    refine c_call ?_
    refine ea_to (ea_cons (ev_var rfl) (ea_cons ev_c (ea_cons ev_c ea_nil))) ?_
    refine ⟨a_v_law_state, (v_law_state : (T3 Int Script Int)), ("abcdefghijklmnopqrstuvwxyz0123456789" : Str), 20, star [F], rfl, Sep.unstar (M := [stA a_v_law_state (v_law_state : T3 Int Script Int)]) (hS.sel [0, 1] (by decide) rfl : Sep H (([stA a_v_law_state (v_law_state : T3 Int Script Int)] ++ [F] : List (Asn G)))), R.wp_mono (R.wp_bind hm) (fun r1 hm H hS => ?_) (fun _ z => z)⟩
    have hS : Sep H ([stA a_v_law_state (r1.2 : T3 Int Script Int), F] : List (Asn G)) := Sep.star (M := [stA a_v_law_state (r1.2 : T3 Int Script Int)]) hS
    exact hm _ (hS.sel [0, 1] (by decide) rfl)
def sp_law_hands (G : Gx) : Sp := fun vs H Q E => ∃ (a_v_law_state : Addr) (v_law_state : (T3 Int Script Int)) (v_law_many : Int) (F : Asn G), vs = [.ref a_v_law_state, (.int (v_law_many))] ∧ Sep H ([stA a_v_law_state (v_law_state : T3 Int Script Int), F] : List (Asn G)) ∧ R.wp (m_law_hands v_law_state v_law_many) (fun r => ∀ p H', Sep H' ([lstA p (r.1 : (List Str)), stA a_v_law_state (r.2 : T3 Int Script Int), F] : List (Asn G)) → Q (.ref p) H') (fun _ => False)
abbrev N_law_hands : List Str := ["_law_state", "_law_many", "_law_letters", "_law_base", "_law_at", "_law_first", "_law_found", "_law_k"]
theorem sc_law_hands : FnScope N_law_hands ["_law_state", "_law_many"] (defScope s_law_hands) := ⟨rfl, rfl, rfl, by decide +kernel, rfl, by decide +kernel, by decide +kernel⟩
theorem ok_law_hands (T : Txt G mg) : FnOk P w G.K mg base CX0 3 T.a_law_hands T.fd_law_hands ["_law_state", "_law_many"] (sp_law_hands G) := by
  have nd := sc_law_hands.nd
  refine Fun.ok T.F_law_hands sc_law_hands (fun vs H Q E h => ?_) (fun cdv A outer s H vs Q E hr h => ?_)
  · obtain ⟨a_v_law_state, v_law_state, v_law_many, F, rfl, _⟩ := h; rfl
  · obtain ⟨a_v_law_state, v_law_state, v_law_many, F, rfl, hS, hm⟩ := h
    refine ⟨_, (pss_cons (ps_set (i := 2) nd rfl (Or.inl rfl) pe_str)
      (pss_cons (ps_set (i := 3) nd rfl (Or.inl rfl) (pe_call (ok_law_word T) (hr.mono (by decide)) rfl T.g_law_word T.kp_law_word T.b_law_word .nil pass0 (pa_cons (pv 0) (pa_cons (pv 2) (pa_cons pe_int pa_nil)))))
      (pss_cons (ps_set (i := 4) nd rfl (Or.inl rfl) (pe_op op_mod (pe_call (ok_law_next T) (hr.mono (by decide)) rfl T.g_law_next T.kp_law_next T.b_law_next .nil pass0 (pa_cons (pv 0) pa_nil)) (pe_op op_add (pe_callB call_lenS (by rfl) T.z_len PySem.boot_len (pa_cons (pv 3) pa_nil)) pe_int)))
      (pss_cons (ps_set (i := 5) nd rfl (Or.inl rfl) (pe_op op_mod (pe_call (ok_law_next T) (hr.mono (by decide)) rfl T.g_law_next T.kp_law_next T.b_law_next .nil pass0 (pa_cons (pv 0) pa_nil)) pe_int))
      (pss_cons (ps_set (i := 6) nd rfl (Or.inl rfl) (pe_fz (pe_lst pa_nil)))
      (pss_cons (ps_for PassesOwn.never rfl (pi_range1 rfl T.z_range (pa_cons (pv 1) pa_nil)) (pg_name (i := 7) nd rfl (Or.inl rfl)) (pss_one (ps_expr (pe_bmK G.K PySem.F.plainAttrs_list PySem.F.slot_list_append PySem.F.type_list_append mt_append (pe_fz (pv 6)) (pa_cons (pe_op op_catS (pe_op op_catS (pe_slice sl_str (pv 3) po_none (po_some (pv 4))) (pe_ix ix_str (pv 2) (pe_op op_mod (pe_op op_add (pv 5) (pe_op op_mul pe_int (pv 7))) pe_int) (fun _ _ => rfl))) (pe_slice sl_str (pv 3) (po_some (pv 4)) po_none)) pa_nil)))))
      (pss_cons (ps_if (pt_cmpR op_eq (pe_op op_mod (pe_call (ok_law_next T) (hr.mono (by decide)) rfl T.g_law_next T.kp_law_next T.b_law_next .nil pass0 (pa_cons (pv 0) pa_nil)) pe_int) pe_int (nomark _)) (pss_one (ps_asg (pe_slice sl_str (pe_ix (ix_listK G.K) (pe_fz (pv 6)) pe_int (fun _ _ => rfl)) po_none (po_some (pe_op op_add (pv 4) pe_int))) (pg_sub (pe_fz (pv 6)) pe_int set_list))) pss_nil)
      (pss_one (ps_ret (pe_fz (pv 6))))))))))), ?_⟩
    unfold m_law_hands at hm
    refine f_seq ?_
    refine c_asg ?_
    refine ev_to ev_c ?_
    refine c_set (σ' := [some (.ref a_v_law_state), some (.int (v_law_many)), some (.str (("abcdefghijklmnopqrstuvwxyz" : Str))), none, none, none, none, none]) rfl ?_
    refine sq_nx ?_
    refine f_seq ?_
    refine c_asg ?_
    refine c_call ?_
    refine ea_to (ea_cons (ev_var rfl) (ea_cons (ev_var rfl) (ea_cons ev_c ea_nil))) ?_
    refine ⟨a_v_law_state, (v_law_state : (T3 Int Script Int)), ("abcdefghijklmnopqrstuvwxyz" : Str), 7, star [F], rfl, Sep.unstar (M := [stA a_v_law_state (v_law_state : T3 Int Script Int)]) (hS.sel [0, 1] (by decide) rfl : Sep H (([stA a_v_law_state (v_law_state : T3 Int Script Int)] ++ [F] : List (Asn G)))), R.wp_mono (R.wp_bind hm) (fun r1 hm H hS => ?_) (fun _ z => z)⟩
    have hS : Sep H ([stA a_v_law_state (r1.2 : T3 Int Script Int), F] : List (Asn G)) := Sep.star (M := [stA a_v_law_state (r1.2 : T3 Int Script Int)]) hS
    refine c_set (σ' := [some (.ref a_v_law_state), some (.int (v_law_many)), some (.str (("abcdefghijklmnopqrstuvwxyz" : Str))), some (.str (r1.1)), none, none, none, none]) rfl ?_
    refine sq_nx ?_
    refine f_seq ?_
    refine c_asg ?_
    refine c_op ?_
    refine c_call ?_
    refine ea_to (ea_cons (ev_var rfl) ea_nil) ?_
    refine ⟨a_v_law_state, (r1.2 : (T3 Int Script Int)), star [F], rfl, Sep.unstar (M := [stA a_v_law_state (r1.2 : T3 Int Script Int)]) (hS.sel [0, 1] (by decide) rfl : Sep H (([stA a_v_law_state (r1.2 : T3 Int Script Int)] ++ [F] : List (Asn G)))), R.wp_mono (R.wp_bind hm) (fun r2 hm H hS => ?_) (fun _ z => z)⟩
    have hS : Sep H ([stA a_v_law_state (r2.2 : T3 Int Script Int), F] : List (Asn G)) := Sep.star (M := [stA a_v_law_state (r2.2 : T3 Int Script Int)]) hS
    obtain ⟨h3, hm⟩ := R.wp_need hm
    refine ev_to (ev_add (ev_lenS (ev_var rfl) h3) ev_c) ?_
    obtain ⟨h4, hm⟩ := R.wp_need hm
    refine r_mod h4 ?_
    obtain ⟨y5, hy5, hm⟩ := wp_let hm
    refine n_is (w := (.int (y5))) (by first | rw [hy5] | (subst hy5; rfl)) ?_
    refine c_set (σ' := [some (.ref a_v_law_state), some (.int (v_law_many)), some (.str (("abcdefghijklmnopqrstuvwxyz" : Str))), some (.str (r1.1)), some (.int (y5)), none, none, none]) rfl ?_
    refine sq_nx ?_
    refine f_seq ?_
    refine c_asg ?_
    refine c_op ?_
    refine c_call ?_
    refine ea_to (ea_cons (ev_var rfl) ea_nil) ?_
    refine ⟨a_v_law_state, (r2.2 : (T3 Int Script Int)), star [F], rfl, Sep.unstar (M := [stA a_v_law_state (r2.2 : T3 Int Script Int)]) (hS.sel [0, 1] (by decide) rfl : Sep H (([stA a_v_law_state (r2.2 : T3 Int Script Int)] ++ [F] : List (Asn G)))), R.wp_mono (R.wp_bind hm) (fun r6 hm H hS => ?_) (fun _ z => z)⟩
    have hS : Sep H ([stA a_v_law_state (r6.2 : T3 Int Script Int), F] : List (Asn G)) := Sep.star (M := [stA a_v_law_state (r6.2 : T3 Int Script Int)]) hS
    refine ev_to ev_c ?_
    refine r_mod (by decide) ?_
    obtain ⟨y7, hy7, hm⟩ := wp_let hm
    refine n_is (w := (.int (y7))) (by first | rw [hy7] | (subst hy7; rfl)) ?_
    refine c_set (σ' := [some (.ref a_v_law_state), some (.int (v_law_many)), some (.str (("abcdefghijklmnopqrstuvwxyz" : Str))), some (.str (r1.1)), some (.int (y5)), some (.int (y7)), none, none]) rfl ?_
    refine sq_nx ?_
    refine f_seq ?_
    refine c_asg ?_
    refine c_fz ?_
    refine c_lst ?_
    refine ea_to ea_nil ?_
    refine k_lst (α := Str) (vs := []) (xs := ([] : (List Str))) hS True.intro (by show 0 ≤ sizeLine; decide) fun p8 H hS => ?_
    refine fz_no ?_
    refine c_set (σ' := [some (.ref a_v_law_state), some (.int (v_law_many)), some (.str (("abcdefghijklmnopqrstuvwxyz" : Str))), some (.str (r1.1)), some (.int (y5)), some (.int (y7)), some (.ref p8), none]) rfl ?_
    refine sq_nx ?_
    refine f_seq ?_
    refine c_for ?_
    refine c_rng1 ?_
    refine ea_to (ea_cons (ev_var rfl) ea_nil) ?_
    obtain ⟨h9, hm⟩ := R.wp_need hm
    refine k_rng1 h9.1 h9.2 ?_
    refine k_for (τ := (List Str)) (fun (s10 : (List Str)) (σ : L2.St) (H : Hp) => ∃ (w13 : Option V), σ = [some (.ref a_v_law_state), some (.int (v_law_many)), some (.str (("abcdefghijklmnopqrstuvwxyz" : Str))), some (.str (r1.1)), some (.int (y5)), some (.int (y7)), some (.ref p8), w13] ∧ Sep H ([lstA p8 (s10 : (List Str)), stA a_v_law_state (r6.2 : T3 Int Script Int), F] : List (Asn G))) (im := (fun _ v (x : Int) => v = .int x)) (s := (([] : (List Str)))) (fun _ => wk_range) ⟨_, rfl, hS.sel [0, 1, 2] (by decide) rfl⟩ hm (fun s10 x11 v12 σ H q N hI hx hm nx => ?_) (fun s10 σ H hm hI => ?_)
    ·
      obtain ⟨w13, rfl, hS⟩ := hI
      cases hx
      refine c_gN (σ' := [some (.ref a_v_law_state), some (.int (v_law_many)), some (.str (("abcdefghijklmnopqrstuvwxyz" : Str))), some (.str (r1.1)), some (.int (y5)), some (.int (y7)), some (.ref p8), some (.int (x11))]) rfl ?_
      refine c_drop ?_
      refine c_bm ?_
      refine ev_to (ev_fz (ev_var rfl)) ⟨tyL hS (i := 0) rfl, ?_⟩
      obtain ⟨h14, hm⟩ := R.wp_need hm
      obtain ⟨c15, hc15, hm⟩ := wp_idx hm
      obtain ⟨h16, hm⟩ := R.wp_need hm
      obtain ⟨h17, hm⟩ := R.wp_need hm
      obtain ⟨h18, hm⟩ := R.wp_need hm
      refine ea_to (ea_cons (ev_catS (ev_catS (ev_slS (ev_var rfl) eo_no (eo_some (ev_var rfl)) h14) (ev_ixS (ev_var rfl) (ev_mod (ev_add (ev_var rfl) (ev_mul ev_c (ev_var rfl) (.inl (by constructor <;> decide)))) ev_c (by decide)) (by decide +kernel) hc15) h16) (ev_slS (ev_var rfl) (eo_some (ev_var rfl)) eo_no h17) h18) ea_nil) ?_
      obtain ⟨h19, hm⟩ := R.wp_need hm
      refine k_append (x := ((cutS r1.1 none (some (y5))) ++ (sg (c15))) ++ (cutS r1.1 (some (y5)) none)) hS (i := 0) rfl rfl h19 rfl fun H hS => ?_
      exact nx _ _ _ hm ⟨_, rfl, hS.sel [0, 1, 2] (by decide) rfl⟩
    · obtain ⟨w13, rfl, hS⟩ := hI
      refine sq_nx ?_
      refine f_seq ?_
      refine f_if ?_
      refine f_test ?_
      refine c_op ?_
      refine c_op ?_
      refine c_call ?_
      refine ea_to (ea_cons (ev_var rfl) ea_nil) ?_
      refine ⟨a_v_law_state, (r6.2 : (T3 Int Script Int)), star [lstA p8 (s10 : (List Str)), F], rfl, Sep.unstar (M := [stA a_v_law_state (r6.2 : T3 Int Script Int)]) (hS.sel [1, 0, 2] (by decide) rfl : Sep H (([stA a_v_law_state (r6.2 : T3 Int Script Int)] ++ [lstA p8 (s10 : (List Str)), F] : List (Asn G)))), R.wp_mono (R.wp_bind hm) (fun r20 hm H hS => ?_) (fun _ z => z)⟩
      have hS : Sep H ([stA a_v_law_state (r20.2 : T3 Int Script Int), lstA p8 (s10 : (List Str)), F] : List (Asn G)) := Sep.star (M := [stA a_v_law_state (r20.2 : T3 Int Script Int)]) hS
      refine ev_to ev_c ?_
      refine r_mod (by decide) ?_
      refine ev_to ev_c ?_
      refine ev_op2 (ev_eqI ev_c ev_c) ?_
      refine f_bl ?_
      refine ifK_J (τ := (List Str)) (fun (s21 : (List Str)) (σ : L2.St) (H : Hp) => σ = [some (.ref a_v_law_state), some (.int (v_law_many)), some (.str (("abcdefghijklmnopqrstuvwxyz" : Str))), some (.str (r1.1)), some (.int (y5)), some (.int (y7)), some (.ref p8), w13] ∧ Sep H ([stA a_v_law_state (r20.2 : T3 Int Script Int), lstA p8 (s21 : (List Str)), F] : List (Asn G))) hm (fun hb q hm nx => ?_) (fun hb q hm nx => ?_) (fun s21 σ H hm hI => ?_)
      ·
        refine c_asgS ?_
        obtain ⟨x22, hx22, hm⟩ := wp_idx hm
        obtain ⟨h23, hm⟩ := R.wp_need hm
        refine ev_to (ev_slS (ev_ixSq (ev_fz (ev_var rfl)) ev_c (hS.sqF (i := 1) rfl) (atI_map hx22)) eo_no (eo_some (ev_add (ev_var rfl) ev_c)) h23) ?_
        obtain ⟨j24, hj24, hm⟩ := wp_ix hm
        refine ev_to (ev_fz (ev_var rfl)) ?_
        refine ev_to ev_c ?_
        refine k_setL (x := cutS x22 none (some (y5 + 1))) hS (n := 1) rfl rfl j24 hj24 rfl fun H hS => ?_
        exact nx _ _ _ hm ⟨rfl, hS.sel [0, 1, 2] (by decide) rfl⟩
      ·
        refine st_nx ?_
        exact nx _ _ _ hm ⟨rfl, hS.sel [0, 1, 2] (by decide) rfl⟩
      · obtain ⟨rfl, hS⟩ := hI
        refine sq_nx ?_
        refine c_ret ?_
        refine ev_to (ev_fz (ev_var rfl)) ?_
        exact hm _ _ (hS.sel [1, 0, 2] (by decide) rfl)
def sp_law_parts (G : Gx) : Sp := fun vs H Q E => ∃ (a_v_law_state : Addr) (v_law_state : (T3 Int Script Int)) (F : Asn G), vs = [.ref a_v_law_state] ∧ Sep H ([stA a_v_law_state (v_law_state : T3 Int Script Int), F] : List (Asn G)) ∧ R.wp (m_law_parts v_law_state) (fun r => ∀ (p : Addr) H', Sep H' ([imA (.ref p) (r.1 : (T5 Str Str Str Int Str)), stA a_v_law_state (r.2 : T3 Int Script Int), F] : List (Asn G)) → Q (.ref p) H') (fun _ => False)
abbrev N_law_parts : List Str := ["_law_state", "_law_signs", "_law_title", "_law_body", "_law_answers", "_law_day"]
theorem sc_law_parts : FnScope N_law_parts ["_law_state"] (defScope s_law_parts) := ⟨rfl, rfl, rfl, by decide +kernel, rfl, by decide +kernel, by decide +kernel⟩
theorem ok_law_parts (T : Txt G mg) : FnOk P w G.K mg base CX0 4 T.a_law_parts T.fd_law_parts ["_law_state"] (sp_law_parts G) := by
  have nd := sc_law_parts.nd
  refine Fun.ok T.F_law_parts sc_law_parts (fun vs H Q E h => ?_) (fun cdv A outer s H vs Q E hr h => ?_)
  · obtain ⟨a_v_law_state, v_law_state, F, rfl, _⟩ := h; rfl
  · obtain ⟨a_v_law_state, v_law_state, F, rfl, hS, hm⟩ := h
    refine ⟨_, (pss_cons (ps_set (i := 1) nd rfl (Or.inl rfl) pe_str)
      (pss_cons (ps_set (i := 2) nd rfl (Or.inl rfl) (pe_call (ok_law_word T) (hr.mono (by decide)) rfl T.g_law_word T.kp_law_word T.b_law_word .nil pass0 (pa_cons (pv 0) (pa_cons (pv 1) (pa_cons pe_int pa_nil)))))
      (pss_cons (ps_set (i := 3) nd rfl (Or.inl rfl) (pe_call (ok_law_word T) (hr.mono (by decide)) rfl T.g_law_word T.kp_law_word T.b_law_word .nil pass0 (pa_cons (pv 0) (pa_cons (pe_op op_catS (pv 1) pe_str) (pa_cons pe_int pa_nil)))))
      (pss_cons (ps_set (i := 4) nd rfl (Or.inl rfl) (pe_ix (ix_listK G.K) (pe_fz (pe_lst (pa_cons pe_str (pa_cons (pe_call (ok_law_any_word T) (hr.mono (by decide)) rfl T.g_law_any_word T.kp_law_any_word T.b_law_any_word .nil pass0 (pa_cons (pv 0) pa_nil)) pa_nil)))) (pe_op op_mod (pe_call (ok_law_next T) (hr.mono (by decide)) rfl T.g_law_next T.kp_law_next T.b_law_next .nil pass0 (pa_cons (pv 0) pa_nil)) pe_int) (fun _ _ => rfl)))
      (pss_cons (ps_set (i := 5) nd rfl (Or.inl rfl) (pe_ix (ix_listK G.K) (pe_fz (pe_lst (pa_cons (pe_op op_mod (pe_call (ok_law_next T) (hr.mono (by decide)) rfl T.g_law_next T.kp_law_next T.b_law_next .nil pass0 (pa_cons (pv 0) pa_nil)) pe_int) (pa_cons pe_int (pa_cons pe_int pa_nil))))) (pe_op op_mod (pe_call (ok_law_next T) (hr.mono (by decide)) rfl T.g_law_next T.kp_law_next T.b_law_next .nil pass0 (pa_cons (pv 0) pa_nil)) pe_int) (fun _ _ => rfl)))
      (pss_one (ps_ret (pe_tup (pa_cons (pe_call (ok_law_any_word T) (hr.mono (by decide)) rfl T.g_law_any_word T.kp_law_any_word T.b_law_any_word .nil pass0 (pa_cons (pv 0) pa_nil)) (pa_cons (pv 2) (pa_cons (pv 3) (pa_cons (pv 5) (pa_cons (pv 4) pa_nil))))))))))))), ?_⟩
    unfold m_law_parts at hm
    refine f_seq ?_
    refine c_asg ?_
    refine ev_to ev_c ?_
    refine c_set (σ' := [some (.ref a_v_law_state), some (.str ((" abcXYZ019!-.,;:'~" : Str))), none, none, none, none]) rfl ?_
    refine sq_nx ?_
    refine f_seq ?_
    refine c_asg ?_
    refine c_call ?_
    refine ea_to (ea_cons (ev_var rfl) (ea_cons (ev_var rfl) (ea_cons ev_c ea_nil))) ?_
    refine ⟨a_v_law_state, (v_law_state : (T3 Int Script Int)), (" abcXYZ019!-.,;:'~" : Str), 60, star [F], rfl, Sep.unstar (M := [stA a_v_law_state (v_law_state : T3 Int Script Int)]) (hS.sel [0, 1] (by decide) rfl : Sep H (([stA a_v_law_state (v_law_state : T3 Int Script Int)] ++ [F] : List (Asn G)))), R.wp_mono (R.wp_bind hm) (fun r1 hm H hS => ?_) (fun _ z => z)⟩
    have hS : Sep H ([stA a_v_law_state (r1.2 : T3 Int Script Int), F] : List (Asn G)) := Sep.star (M := [stA a_v_law_state (r1.2 : T3 Int Script Int)]) hS
    refine c_set (σ' := [some (.ref a_v_law_state), some (.str ((" abcXYZ019!-.,;:'~" : Str))), some (.str (r1.1)), none, none, none]) rfl ?_
    refine sq_nx ?_
    refine f_seq ?_
    refine c_asg ?_
    refine c_call ?_
    obtain ⟨h2, hm⟩ := R.wp_need hm
    refine ea_to (ea_cons (ev_var rfl) (ea_cons (ev_catS (ev_var rfl) ev_c h2) (ea_cons ev_c ea_nil))) ?_
    refine ⟨a_v_law_state, (r1.2 : (T3 Int Script Int)), ((" abcXYZ019!-.,;:'~" : Str) ++ ("\n" : Str)), 60, star [F], rfl, Sep.unstar (M := [stA a_v_law_state (r1.2 : T3 Int Script Int)]) (hS.sel [0, 1] (by decide) rfl : Sep H (([stA a_v_law_state (r1.2 : T3 Int Script Int)] ++ [F] : List (Asn G)))), R.wp_mono (R.wp_bind hm) (fun r3 hm H hS => ?_) (fun _ z => z)⟩
    have hS : Sep H ([stA a_v_law_state (r3.2 : T3 Int Script Int), F] : List (Asn G)) := Sep.star (M := [stA a_v_law_state (r3.2 : T3 Int Script Int)]) hS
    refine c_set (σ' := [some (.ref a_v_law_state), some (.str ((" abcXYZ019!-.,;:'~" : Str))), some (.str (r1.1)), some (.str (r3.1)), none, none]) rfl ?_
    refine sq_nx ?_
    refine f_seq ?_
    refine c_asg ?_
    refine c_op ?_
    refine c_fz ?_
    refine c_lst ?_
    refine c_cons ?_
    refine ev_to ev_c ?_
    refine c_cons ?_
    refine c_call ?_
    refine ea_to (ea_cons (ev_var rfl) ea_nil) ?_
    refine ⟨a_v_law_state, (r3.2 : (T3 Int Script Int)), star [F], rfl, Sep.unstar (M := [stA a_v_law_state (r3.2 : T3 Int Script Int)]) (hS.sel [0, 1] (by decide) rfl : Sep H (([stA a_v_law_state (r3.2 : T3 Int Script Int)] ++ [F] : List (Asn G)))), R.wp_mono (R.wp_bind hm) (fun r4 hm H hS => ?_) (fun _ z => z)⟩
    have hS : Sep H ([stA a_v_law_state (r4.2 : T3 Int Script Int), F] : List (Asn G)) := Sep.star (M := [stA a_v_law_state (r4.2 : T3 Int Script Int)]) hS
    refine c_nil ?_
    refine k_lst (α := Str) (vs := [(.str (("" : Str))), (.str (r4.1))]) (xs := [("" : Str), r4.1]) hS ⟨rfl, ⟨rfl, True.intro⟩⟩ (by show 2 ≤ sizeLine; decide) fun p5 H hS => ?_
    refine fz_no ?_
    refine c_op ?_
    refine c_call ?_
    refine ea_to (ea_cons (ev_var rfl) ea_nil) ?_
    refine ⟨a_v_law_state, (r4.2 : (T3 Int Script Int)), star [lstA p5 ([("" : Str), r4.1] : (List Str)), F], rfl, Sep.unstar (M := [stA a_v_law_state (r4.2 : T3 Int Script Int)]) (hS.sel [1, 0, 2] (by decide) rfl : Sep H (([stA a_v_law_state (r4.2 : T3 Int Script Int)] ++ [lstA p5 ([("" : Str), r4.1] : (List Str)), F] : List (Asn G)))), R.wp_mono (R.wp_bind hm) (fun r6 hm H hS => ?_) (fun _ z => z)⟩
    have hS : Sep H ([stA a_v_law_state (r6.2 : T3 Int Script Int), lstA p5 ([("" : Str), r4.1] : (List Str)), F] : List (Asn G)) := Sep.star (M := [stA a_v_law_state (r6.2 : T3 Int Script Int)]) hS
    refine ev_to ev_c ?_
    refine r_mod (by decide) ?_
    obtain ⟨x7, hx7, hm⟩ := wp_idx hm
    refine r_ixSq (hS.sqF (i := 1) rfl) (atI_map hx7) _ ?_
    refine c_set (σ' := [some (.ref a_v_law_state), some (.str ((" abcXYZ019!-.,;:'~" : Str))), some (.str (r1.1)), some (.str (r3.1)), some (.str (x7)), none]) rfl ?_
    refine sq_nx ?_
    refine f_seq ?_
    refine c_asg ?_
    refine c_op ?_
    refine c_fz ?_
    refine c_lst ?_
    refine c_cons ?_
    refine c_op ?_
    refine c_call ?_
    refine ea_to (ea_cons (ev_var rfl) ea_nil) ?_
    refine ⟨a_v_law_state, (r6.2 : (T3 Int Script Int)), star [lstA p5 ([("" : Str), r4.1] : (List Str)), F], rfl, Sep.unstar (M := [stA a_v_law_state (r6.2 : T3 Int Script Int)]) (hS.sel [0, 1, 2] (by decide) rfl : Sep H (([stA a_v_law_state (r6.2 : T3 Int Script Int)] ++ [lstA p5 ([("" : Str), r4.1] : (List Str)), F] : List (Asn G)))), R.wp_mono (R.wp_bind hm) (fun r8 hm H hS => ?_) (fun _ z => z)⟩
    have hS : Sep H ([stA a_v_law_state (r8.2 : T3 Int Script Int), lstA p5 ([("" : Str), r4.1] : (List Str)), F] : List (Asn G)) := Sep.star (M := [stA a_v_law_state (r8.2 : T3 Int Script Int)]) hS
    refine ev_to ev_c ?_
    refine r_mod (by decide) ?_
    refine c_cons ?_
    refine ev_to ev_c ?_
    refine c_cons ?_
    refine ev_to ev_c ?_
    refine c_nil ?_
    refine k_lst (α := Int) (vs := [(.int (r8.1 % 10000)), (.int (0)), (.int (9999))]) (xs := [r8.1 % 10000, 0, 9999]) hS ⟨rfl, ⟨rfl, ⟨rfl, True.intro⟩⟩⟩ (by show 3 ≤ sizeLine; decide) fun p9 H hS => ?_
    refine fz_no ?_
    refine c_op ?_
    refine c_call ?_
    refine ea_to (ea_cons (ev_var rfl) ea_nil) ?_
    refine ⟨a_v_law_state, (r8.2 : (T3 Int Script Int)), star [lstA p9 ([r8.1 % 10000, 0, 9999] : (List Int)), lstA p5 ([("" : Str), r4.1] : (List Str)), F], rfl, Sep.unstar (M := [stA a_v_law_state (r8.2 : T3 Int Script Int)]) (hS.sel [1, 0, 2, 3] (by decide) rfl : Sep H (([stA a_v_law_state (r8.2 : T3 Int Script Int)] ++ [lstA p9 ([r8.1 % 10000, 0, 9999] : (List Int)), lstA p5 ([("" : Str), r4.1] : (List Str)), F] : List (Asn G)))), R.wp_mono (R.wp_bind hm) (fun r10 hm H hS => ?_) (fun _ z => z)⟩
    have hS : Sep H ([stA a_v_law_state (r10.2 : T3 Int Script Int), lstA p9 ([r8.1 % 10000, 0, 9999] : (List Int)), lstA p5 ([("" : Str), r4.1] : (List Str)), F] : List (Asn G)) := Sep.star (M := [stA a_v_law_state (r10.2 : T3 Int Script Int)]) hS
    refine ev_to ev_c ?_
    refine r_mod (by decide) ?_
    obtain ⟨x11, hx11, hm⟩ := wp_idx hm
    refine r_ixSq (hS.sqF (i := 1) rfl) (atI_map hx11) _ ?_
    refine c_set (σ' := [some (.ref a_v_law_state), some (.str ((" abcXYZ019!-.,;:'~" : Str))), some (.str (r1.1)), some (.str (r3.1)), some (.str (x7)), some (.int (x11))]) rfl ?_
    refine sq_nx ?_
    refine c_ret ?_
    refine c_tup ?_
    refine c_cons ?_
    refine c_call ?_
    refine ea_to (ea_cons (ev_var rfl) ea_nil) ?_
    refine ⟨a_v_law_state, (r10.2 : (T3 Int Script Int)), star [lstA p9 ([r8.1 % 10000, 0, 9999] : (List Int)), lstA p5 ([("" : Str), r4.1] : (List Str)), F], rfl, Sep.unstar (M := [stA a_v_law_state (r10.2 : T3 Int Script Int)]) (hS.sel [0, 1, 2, 3] (by decide) rfl : Sep H (([stA a_v_law_state (r10.2 : T3 Int Script Int)] ++ [lstA p9 ([r8.1 % 10000, 0, 9999] : (List Int)), lstA p5 ([("" : Str), r4.1] : (List Str)), F] : List (Asn G)))), R.wp_mono (R.wp_bind hm) (fun r12 hm H hS => ?_) (fun _ z => z)⟩
    have hS : Sep H ([stA a_v_law_state (r12.2 : T3 Int Script Int), lstA p9 ([r8.1 % 10000, 0, 9999] : (List Int)), lstA p5 ([("" : Str), r4.1] : (List Str)), F] : List (Asn G)) := Sep.star (M := [stA a_v_law_state (r12.2 : T3 Int Script Int)]) hS
    refine c_cons ?_
    refine ev_to (ev_var rfl) ?_
    refine c_cons ?_
    refine ev_to (ev_var rfl) ?_
    refine c_cons ?_
    refine ev_to (ev_var rfl) ?_
    refine c_cons ?_
    refine ev_to (ev_var rfl) ?_
    refine c_nil ?_
    refine k_tupP (x := ((⟨r12.1, r1.1, r3.1, x11, x7⟩ : T5 _ _ _ _ _) : (T5 Str Str Str Int Str))) hS (fun H' p h s => mk5 rfl rfl rfl rfl rfl h s) (by show 5 ≤ sizeLine; decide) fun p13 H hS => ?_
    exact hm _ _ (hS.sel [0, 1, 4] (by decide) rfl)
def sp_law_deed (G : Gx) : Sp := fun vs H Q E => ∃ (a_v_law_state : Addr) (v_law_state : (T3 Int Script Int)) (a_v_law_names : Addr) (v_law_names : (List Str)) (v_law_hand : Str) (v_law_puts : Int) (F : Asn G), vs = [.ref a_v_law_state, .ref a_v_law_names, (.str (v_law_hand)), (.int (v_law_puts))] ∧ Sep H ([stA a_v_law_state (v_law_state : T3 Int Script Int), lstA a_v_law_names (v_law_names : (List Str)), F] : List (Asn G)) ∧ R.wp (m_law_deed v_law_state v_law_names v_law_hand v_law_puts) (fun r => ∀ (p : V) H', Sep H' ([imA p (r.1 : Any), stA a_v_law_state (r.2 : T3 Int Script Int), lstA a_v_law_names (v_law_names : (List Str)), F] : List (Asn G)) → Q p H') (fun _ => False)
abbrev N_law_deed : List Str := ["_law_state", "_law_names", "_law_hand", "_law_puts", "_law_kind", "_law_name"]
theorem sc_law_deed : FnScope N_law_deed ["_law_state", "_law_names", "_law_hand", "_law_puts"] (defScope s_law_deed) := ⟨rfl, rfl, rfl, by decide +kernel, rfl, by decide +kernel, by decide +kernel⟩
theorem ok_law_deed (T : Txt G mg) : FnOk P w G.K mg base CX0 5 T.a_law_deed T.fd_law_deed ["_law_state", "_law_names", "_law_hand", "_law_puts"] (sp_law_deed G) := by
  have nd := sc_law_deed.nd
  refine Fun.ok T.F_law_deed sc_law_deed (fun vs H Q E h => ?_) (fun cdv A outer s H vs Q E hr h => ?_)
  · obtain ⟨a_v_law_state, v_law_state, a_v_law_names, v_law_names, v_law_hand, v_law_puts, F, rfl, _⟩ := h; rfl
  · obtain ⟨a_v_law_state, v_law_state, a_v_law_names, v_law_names, v_law_hand, v_law_puts, F, rfl, hS, hm⟩ := h
    refine ⟨_, (pss_cons (ps_set (i := 4) nd rfl (Or.inl rfl) (pe_op op_mod (pe_call (ok_law_next T) (hr.mono (by decide)) rfl T.g_law_next T.kp_law_next T.b_law_next .nil pass0 (pa_cons (pv 0) pa_nil)) pe_int))
      (pss_cons (ps_if (pt_cmpR op_lt (pv 4) pe_int (nomark _)) (pss_one (ps_ret (pe_tup (pa_cons pe_str (pa_cons (pe_op op_catS (pv 2) (pe_callTy call_str_int (by rfl) T.z_str (by decide +kernel) (pa_cons (pe_op op_add (pv 3) pe_int) pa_nil))) (pa_cons (pe_call (ok_law_parts T) (hr.mono (by decide)) rfl T.g_law_parts T.kp_law_parts T.b_law_parts .nil pass0 (pa_cons (pv 0) pa_nil)) pa_nil)))))) pss_nil)
      (pss_cons (ps_set (i := 5) nd rfl (Or.inl rfl) (pe_ix (ix_listK G.K) (pe_fz (pe_lst (pa_cons (pe_call (ok_law_any_word T) (hr.mono (by decide)) rfl T.g_law_any_word T.kp_law_any_word T.b_law_any_word .nil pass0 (pa_cons (pv 0) pa_nil)) (pa_cons (pe_ix (ix_listK G.K) (pe_fz (pe_op op_catR (pe_fz (pv 1)) (pe_fz (pe_lst (pa_cons (pe_op op_catS (pv 2) pe_str) pa_nil))))) (pe_op op_mod (pe_call (ok_law_next T) (hr.mono (by decide)) rfl T.g_law_next T.kp_law_next T.b_law_next .nil pass0 (pa_cons (pv 0) pa_nil)) (pe_op op_add (pe_callB (lenSqK G.K) (by rfl) T.z_len PySem.boot_len (pa_cons (pe_fz (pv 1)) pa_nil)) pe_int)) (fun _ _ => rfl)) pa_nil)))) (pe_op op_mod (pe_call (ok_law_next T) (hr.mono (by decide)) rfl T.g_law_next T.kp_law_next T.b_law_next .nil pass0 (pa_cons (pv 0) pa_nil)) pe_int) (fun _ _ => rfl)))
      (pss_cons (ps_if (pt_cmpR op_lt (pv 4) pe_int (nomark _)) (pss_one (ps_ret (pe_tup (pa_cons pe_str (pa_cons (pv 5) (pa_cons (pe_call (ok_law_any_word T) (hr.mono (by decide)) rfl T.g_law_any_word T.kp_law_any_word T.b_law_any_word .nil pass0 (pa_cons (pv 0) pa_nil)) pa_nil)))))) pss_nil)
      (pss_cons (ps_if (pt_cmpR op_lt (pv 4) pe_int (nomark _)) (pss_one (ps_ret (pe_tup (pa_cons pe_str (pa_cons (pv 5) (pa_cons (pe_call (ok_law_any_word T) (hr.mono (by decide)) rfl T.g_law_any_word T.kp_law_any_word T.b_law_any_word .nil pass0 (pa_cons (pv 0) pa_nil)) (pa_cons (pe_cmpR op_eq (pe_op op_mod (pe_call (ok_law_next T) (hr.mono (by decide)) rfl T.g_law_next T.kp_law_next T.b_law_next .nil pass0 (pa_cons (pv 0) pa_nil)) pe_int) pe_int (nomark _)) pa_nil))))))) pss_nil)
      (pss_one (ps_ret (pe_tup (pa_cons pe_str (pa_cons (pv 5) pa_nil)))))))))), ?_⟩
    unfold m_law_deed at hm
    refine f_seq ?_
    refine c_asg ?_
    refine c_op ?_
    refine c_call ?_
    refine ea_to (ea_cons (ev_var rfl) ea_nil) ?_
    refine ⟨a_v_law_state, (v_law_state : (T3 Int Script Int)), star [lstA a_v_law_names (v_law_names : (List Str)), F], rfl, Sep.unstar (M := [stA a_v_law_state (v_law_state : T3 Int Script Int)]) (hS.sel [0, 1, 2] (by decide) rfl : Sep H (([stA a_v_law_state (v_law_state : T3 Int Script Int)] ++ [lstA a_v_law_names (v_law_names : (List Str)), F] : List (Asn G)))), R.wp_mono (R.wp_bind hm) (fun r1 hm H hS => ?_) (fun _ z => z)⟩
    have hS : Sep H ([stA a_v_law_state (r1.2 : T3 Int Script Int), lstA a_v_law_names (v_law_names : (List Str)), F] : List (Asn G)) := Sep.star (M := [stA a_v_law_state (r1.2 : T3 Int Script Int)]) hS
    refine ev_to ev_c ?_
    refine r_mod (by decide) ?_
    obtain ⟨y2, hy2, hm⟩ := wp_let hm
    refine n_is (w := (.int (y2))) (by first | rw [hy2] | (subst hy2; rfl)) ?_
    refine c_set (σ' := [some (.ref a_v_law_state), some (.ref a_v_law_names), some (.str (v_law_hand)), some (.int (v_law_puts)), some (.int (y2)), none]) rfl ?_
    refine sq_nx ?_
    refine f_seq ?_
    refine f_if ?_
    refine et_to (et_test (ev_i0 (ev_var rfl) ev_c)) ?_
    refine ifK_2 (fun hb3 => ?_) (fun hb3 => ?_)
    · have hm := R.wp_ifY hm hb3
      refine c_ret ?_
      refine c_tup ?_
      refine c_cons ?_
      refine ev_to ev_c ?_
      refine c_cons ?_
      obtain ⟨h4, hm⟩ := R.wp_need hm
      obtain ⟨h5, hm⟩ := R.wp_need hm
      refine ev_to (ev_catS (ev_var rfl) (ev_cb (ea_cons (ev_add (ev_var rfl) ev_c) ea_nil) fun _ q => ⟨_, rfl, h4, q⟩) h5) ?_
      refine c_cons ?_
      refine c_call ?_
      refine ea_to (ea_cons (ev_var rfl) ea_nil) ?_
      refine ⟨a_v_law_state, (r1.2 : (T3 Int Script Int)), star [lstA a_v_law_names (v_law_names : (List Str)), F], rfl, Sep.unstar (M := [stA a_v_law_state (r1.2 : T3 Int Script Int)]) (hS.sel [0, 1, 2] (by decide) rfl : Sep H (([stA a_v_law_state (r1.2 : T3 Int Script Int)] ++ [lstA a_v_law_names (v_law_names : (List Str)), F] : List (Asn G)))), R.wp_mono (R.wp_bind hm) (fun r6 hm p7 H hS => ?_) (fun _ z => z)⟩
      have hS : Sep H ([imA (.ref p7) (r6.1 : (T5 Str Str Str Int Str)), stA a_v_law_state (r6.2 : T3 Int Script Int), lstA a_v_law_names (v_law_names : (List Str)), F] : List (Asn G)) := Sep.star (M := [imA (.ref p7) (r6.1 : (T5 Str Str Str Int Str)), stA a_v_law_state (r6.2 : T3 Int Script Int)]) hS
      refine c_nil ?_
      obtain ⟨u9, u10, u11, u12, u13, hT19, h14, h15, h16, h17, h18⟩ := im5 (hS.im (i := 0) rfl)
      obtain rfl : u9 = (.str (r6.1.a)) := h14
      obtain rfl : u10 = (.str (r6.1.b)) := h15
      obtain rfl : u11 = (.str (r6.1.c)) := h16
      obtain rfl : u12 = (.int (r6.1.d)) := h17
      obtain rfl : u13 = (.str (r6.1.e)) := h18
      refine k_tupA (vs := [(.str (("put" : Str))), (.str (v_law_hand ++ (Str.ofString (toString (v_law_puts + 1 : Int))))), (.ref p7)]) (xs := [(Any.str ("put" : Str)), (Any.str (v_law_hand ++ (Str.ofString (toString (v_law_puts + 1 : Int))))), (Any.tup [(Any.str r6.1.a), (Any.str r6.1.b), (Any.str r6.1.c), (Any.int r6.1.d), (Any.str r6.1.e)])]) hS ⟨(any_str.mpr rfl), ⟨(any_str.mpr rfl), ⟨((any_tup (xs := [(Any.str r6.1.a), (Any.str r6.1.b), (Any.str r6.1.c), (Any.int r6.1.d), (Any.str r6.1.e)])).mpr ⟨_, _, rfl, hT19, ⟨(any_str.mpr rfl), ⟨(any_str.mpr rfl), ⟨(any_str.mpr rfl), ⟨(any_int.mpr rfl), ⟨(any_str.mpr rfl), True.intro⟩⟩⟩⟩⟩⟩), True.intro⟩⟩⟩ (by show 3 ≤ sizeLine; decide) fun p20 H hS => ?_
      exact hm _ _ (hS.sel [0, 2, 3, 4] (by decide) rfl)
    · have hm := R.wp_ifN hm (by first | (rw [hb3]; decide) | simpa using hb3)
      refine st_nx ?_
      refine sq_nx ?_
      refine f_seq ?_
      refine c_asg ?_
      refine c_op ?_
      refine c_fz ?_
      refine c_lst ?_
      refine c_cons ?_
      refine c_call ?_
      refine ea_to (ea_cons (ev_var rfl) ea_nil) ?_
      refine ⟨a_v_law_state, (r1.2 : (T3 Int Script Int)), star [lstA a_v_law_names (v_law_names : (List Str)), F], rfl, Sep.unstar (M := [stA a_v_law_state (r1.2 : T3 Int Script Int)]) (hS.sel [0, 1, 2] (by decide) rfl : Sep H (([stA a_v_law_state (r1.2 : T3 Int Script Int)] ++ [lstA a_v_law_names (v_law_names : (List Str)), F] : List (Asn G)))), R.wp_mono (R.wp_bind hm) (fun r22 hm H hS => ?_) (fun _ z => z)⟩
      have hS : Sep H ([stA a_v_law_state (r22.2 : T3 Int Script Int), lstA a_v_law_names (v_law_names : (List Str)), F] : List (Asn G)) := Sep.star (M := [stA a_v_law_state (r22.2 : T3 Int Script Int)]) hS
      refine c_cons ?_
      refine c_op ?_
      refine c_fz ?_
      refine c_op ?_
      refine ev_to (ev_fz (ev_var rfl)) ?_
      refine c_fz ?_
      refine c_lst ?_
      obtain ⟨h23, hm⟩ := R.wp_need hm
      refine ea_to (ea_cons (ev_catS (ev_var rfl) ev_c h23) ea_nil) ?_
      refine k_lst (α := Str) (vs := [(.str (v_law_hand ++ ("1" : Str)))]) (xs := [v_law_hand ++ ("1" : Str)]) hS ⟨rfl, True.intro⟩ (by show 1 ≤ sizeLine; decide) fun p24 H hS => ?_
      refine fz_no ?_
      revert hm; refine R.need_rev fun h25 hm => ?_
      refine k_catG hS (hS.rdL (i := 2) rfl) (hS.rdL (i := 0) rfl) h25 fun p26 H hS => ?_
      refine fz_no ?_
      refine c_op ?_
      refine c_call ?_
      refine ea_to (ea_cons (ev_var rfl) ea_nil) ?_
      refine ⟨a_v_law_state, (r22.2 : (T3 Int Script Int)), star [lstA p26 (v_law_names ++ ([v_law_hand ++ ("1" : Str)]) : (List Str)), lstA p24 ([v_law_hand ++ ("1" : Str)] : (List Str)), lstA a_v_law_names (v_law_names : (List Str)), F], rfl, Sep.unstar (M := [stA a_v_law_state (r22.2 : T3 Int Script Int)]) (hS.sel [2, 0, 1, 3, 4] (by decide) rfl : Sep H (([stA a_v_law_state (r22.2 : T3 Int Script Int)] ++ [lstA p26 (v_law_names ++ ([v_law_hand ++ ("1" : Str)]) : (List Str)), lstA p24 ([v_law_hand ++ ("1" : Str)] : (List Str)), lstA a_v_law_names (v_law_names : (List Str)), F] : List (Asn G)))), R.wp_mono (R.wp_bind hm) (fun r27 hm H hS => ?_) (fun _ z => z)⟩
      have hS : Sep H ([stA a_v_law_state (r27.2 : T3 Int Script Int), lstA p26 (v_law_names ++ ([v_law_hand ++ ("1" : Str)]) : (List Str)), lstA p24 ([v_law_hand ++ ("1" : Str)] : (List Str)), lstA a_v_law_names (v_law_names : (List Str)), F] : List (Asn G)) := Sep.star (M := [stA a_v_law_state (r27.2 : T3 Int Script Int)]) hS
      refine ev_to (ev_add (ev_lenLm (ev_fz (ev_var rfl)) (hS.sqF (i := 3) rfl)) ev_c) ?_
      obtain ⟨h28, hm⟩ := R.wp_need hm
      refine r_mod h28 ?_
      obtain ⟨x29, hx29, hm⟩ := wp_idx hm
      refine r_ixSq (hS.sqF (i := 1) rfl) (atI_map hx29) _ ?_
      refine c_nil ?_
      refine k_lst (α := Str) (vs := [(.str (r22.1)), (.str (x29))]) (xs := [r22.1, x29]) hS ⟨rfl, ⟨rfl, True.intro⟩⟩ (by show 2 ≤ sizeLine; decide) fun p30 H hS => ?_
      refine fz_no ?_
      refine c_op ?_
      refine c_call ?_
      refine ea_to (ea_cons (ev_var rfl) ea_nil) ?_
      refine ⟨a_v_law_state, (r27.2 : (T3 Int Script Int)), star [lstA p30 ([r22.1, x29] : (List Str)), lstA p26 (v_law_names ++ ([v_law_hand ++ ("1" : Str)]) : (List Str)), lstA p24 ([v_law_hand ++ ("1" : Str)] : (List Str)), lstA a_v_law_names (v_law_names : (List Str)), F], rfl, Sep.unstar (M := [stA a_v_law_state (r27.2 : T3 Int Script Int)]) (hS.sel [1, 0, 2, 3, 4, 5] (by decide) rfl : Sep H (([stA a_v_law_state (r27.2 : T3 Int Script Int)] ++ [lstA p30 ([r22.1, x29] : (List Str)), lstA p26 (v_law_names ++ ([v_law_hand ++ ("1" : Str)]) : (List Str)), lstA p24 ([v_law_hand ++ ("1" : Str)] : (List Str)), lstA a_v_law_names (v_law_names : (List Str)), F] : List (Asn G)))), R.wp_mono (R.wp_bind hm) (fun r31 hm H hS => ?_) (fun _ z => z)⟩
      have hS : Sep H ([stA a_v_law_state (r31.2 : T3 Int Script Int), lstA p30 ([r22.1, x29] : (List Str)), lstA p26 (v_law_names ++ ([v_law_hand ++ ("1" : Str)]) : (List Str)), lstA p24 ([v_law_hand ++ ("1" : Str)] : (List Str)), lstA a_v_law_names (v_law_names : (List Str)), F] : List (Asn G)) := Sep.star (M := [stA a_v_law_state (r31.2 : T3 Int Script Int)]) hS
      refine ev_to ev_c ?_
      refine r_mod (by decide) ?_
      obtain ⟨x32, hx32, hm⟩ := wp_idx hm
      refine r_ixSq (hS.sqF (i := 1) rfl) (atI_map hx32) _ ?_
      refine c_set (σ' := [some (.ref a_v_law_state), some (.ref a_v_law_names), some (.str (v_law_hand)), some (.int (v_law_puts)), some (.int (y2)), some (.str (x32))]) rfl ?_
      refine sq_nx ?_
      refine f_seq ?_
      refine f_if ?_
      refine et_to (et_test (ev_i0 (ev_var rfl) ev_c)) ?_
      refine ifK_2 (fun hb33 => ?_) (fun hb33 => ?_)
      · have hm := R.wp_ifY hm hb33
        refine c_ret ?_
        refine c_tup ?_
        refine c_cons ?_
        refine ev_to ev_c ?_
        refine c_cons ?_
        refine ev_to (ev_var rfl) ?_
        refine c_cons ?_
        refine c_call ?_
        refine ea_to (ea_cons (ev_var rfl) ea_nil) ?_
        refine ⟨a_v_law_state, (r31.2 : (T3 Int Script Int)), star [lstA p30 ([r22.1, x29] : (List Str)), lstA p26 (v_law_names ++ ([v_law_hand ++ ("1" : Str)]) : (List Str)), lstA p24 ([v_law_hand ++ ("1" : Str)] : (List Str)), lstA a_v_law_names (v_law_names : (List Str)), F], rfl, Sep.unstar (M := [stA a_v_law_state (r31.2 : T3 Int Script Int)]) (hS.sel [0, 1, 2, 3, 4, 5] (by decide) rfl : Sep H (([stA a_v_law_state (r31.2 : T3 Int Script Int)] ++ [lstA p30 ([r22.1, x29] : (List Str)), lstA p26 (v_law_names ++ ([v_law_hand ++ ("1" : Str)]) : (List Str)), lstA p24 ([v_law_hand ++ ("1" : Str)] : (List Str)), lstA a_v_law_names (v_law_names : (List Str)), F] : List (Asn G)))), R.wp_mono (R.wp_bind hm) (fun r34 hm H hS => ?_) (fun _ z => z)⟩
        have hS : Sep H ([stA a_v_law_state (r34.2 : T3 Int Script Int), lstA p30 ([r22.1, x29] : (List Str)), lstA p26 (v_law_names ++ ([v_law_hand ++ ("1" : Str)]) : (List Str)), lstA p24 ([v_law_hand ++ ("1" : Str)] : (List Str)), lstA a_v_law_names (v_law_names : (List Str)), F] : List (Asn G)) := Sep.star (M := [stA a_v_law_state (r34.2 : T3 Int Script Int)]) hS
        refine c_nil ?_
        refine k_tupA (vs := [(.str (("place" : Str))), (.str (x32)), (.str (r34.1))]) (xs := [(Any.str ("place" : Str)), (Any.str x32), (Any.str r34.1)]) hS ⟨(any_str.mpr rfl), ⟨(any_str.mpr rfl), ⟨(any_str.mpr rfl), True.intro⟩⟩⟩ (by show 3 ≤ sizeLine; decide) fun p35 H hS => ?_
        exact hm _ _ (hS.sel [0, 1, 5, 6] (by decide) rfl)
      · have hm := R.wp_ifN hm (by first | (rw [hb33]; decide) | simpa using hb33)
        refine st_nx ?_
        refine sq_nx ?_
        refine f_seq ?_
        refine f_if ?_
        refine et_to (et_test (ev_i0 (ev_var rfl) ev_c)) ?_
        refine ifK_2 (fun hb37 => ?_) (fun hb37 => ?_)
        · have hm := R.wp_ifY hm hb37
          refine c_ret ?_
          refine c_tup ?_
          refine c_cons ?_
          refine ev_to ev_c ?_
          refine c_cons ?_
          refine ev_to (ev_var rfl) ?_
          refine c_cons ?_
          refine c_call ?_
          refine ea_to (ea_cons (ev_var rfl) ea_nil) ?_
          refine ⟨a_v_law_state, (r31.2 : (T3 Int Script Int)), star [lstA p30 ([r22.1, x29] : (List Str)), lstA p26 (v_law_names ++ ([v_law_hand ++ ("1" : Str)]) : (List Str)), lstA p24 ([v_law_hand ++ ("1" : Str)] : (List Str)), lstA a_v_law_names (v_law_names : (List Str)), F], rfl, Sep.unstar (M := [stA a_v_law_state (r31.2 : T3 Int Script Int)]) (hS.sel [0, 1, 2, 3, 4, 5] (by decide) rfl : Sep H (([stA a_v_law_state (r31.2 : T3 Int Script Int)] ++ [lstA p30 ([r22.1, x29] : (List Str)), lstA p26 (v_law_names ++ ([v_law_hand ++ ("1" : Str)]) : (List Str)), lstA p24 ([v_law_hand ++ ("1" : Str)] : (List Str)), lstA a_v_law_names (v_law_names : (List Str)), F] : List (Asn G)))), R.wp_mono (R.wp_bind hm) (fun r38 hm H hS => ?_) (fun _ z => z)⟩
          have hS : Sep H ([stA a_v_law_state (r38.2 : T3 Int Script Int), lstA p30 ([r22.1, x29] : (List Str)), lstA p26 (v_law_names ++ ([v_law_hand ++ ("1" : Str)]) : (List Str)), lstA p24 ([v_law_hand ++ ("1" : Str)] : (List Str)), lstA a_v_law_names (v_law_names : (List Str)), F] : List (Asn G)) := Sep.star (M := [stA a_v_law_state (r38.2 : T3 Int Script Int)]) hS
          refine c_cons ?_
          refine c_op ?_
          refine c_op ?_
          refine c_call ?_
          refine ea_to (ea_cons (ev_var rfl) ea_nil) ?_
          refine ⟨a_v_law_state, (r38.2 : (T3 Int Script Int)), star [lstA p30 ([r22.1, x29] : (List Str)), lstA p26 (v_law_names ++ ([v_law_hand ++ ("1" : Str)]) : (List Str)), lstA p24 ([v_law_hand ++ ("1" : Str)] : (List Str)), lstA a_v_law_names (v_law_names : (List Str)), F], rfl, Sep.unstar (M := [stA a_v_law_state (r38.2 : T3 Int Script Int)]) (hS.sel [0, 1, 2, 3, 4, 5] (by decide) rfl : Sep H (([stA a_v_law_state (r38.2 : T3 Int Script Int)] ++ [lstA p30 ([r22.1, x29] : (List Str)), lstA p26 (v_law_names ++ ([v_law_hand ++ ("1" : Str)]) : (List Str)), lstA p24 ([v_law_hand ++ ("1" : Str)] : (List Str)), lstA a_v_law_names (v_law_names : (List Str)), F] : List (Asn G)))), R.wp_mono (R.wp_bind hm) (fun r39 hm H hS => ?_) (fun _ z => z)⟩
          have hS : Sep H ([stA a_v_law_state (r39.2 : T3 Int Script Int), lstA p30 ([r22.1, x29] : (List Str)), lstA p26 (v_law_names ++ ([v_law_hand ++ ("1" : Str)]) : (List Str)), lstA p24 ([v_law_hand ++ ("1" : Str)] : (List Str)), lstA a_v_law_names (v_law_names : (List Str)), F] : List (Asn G)) := Sep.star (M := [stA a_v_law_state (r39.2 : T3 Int Script Int)]) hS
          refine ev_to ev_c ?_
          refine r_mod (by decide) ?_
          refine ev_to ev_c ?_
          refine ev_op2 (ev_eqI ev_c ev_c) ?_
          refine c_nil ?_
          refine k_tupA (vs := [(.str (("mark" : Str))), (.str (x32)), (.str (r38.1)), (.bl (decide ((r39.1 % 2) = 1)))]) (xs := [(Any.str ("mark" : Str)), (Any.str x32), (Any.str r38.1), (Any.bl (decide ((r39.1 % 2) = 1)))]) hS ⟨(any_str.mpr rfl), ⟨(any_str.mpr rfl), ⟨(any_str.mpr rfl), ⟨(any_bl.mpr rfl), True.intro⟩⟩⟩⟩ (by show 4 ≤ sizeLine; decide) fun p40 H hS => ?_
          exact hm _ _ (hS.sel [0, 1, 5, 6] (by decide) rfl)
        · have hm := R.wp_ifN hm (by first | (rw [hb37]; decide) | simpa using hb37)
          refine st_nx ?_
          refine sq_nx ?_
          refine c_ret ?_
          refine c_tup ?_
          refine ea_to (ea_cons ev_c (ea_cons (ev_var rfl) ea_nil)) ?_
          refine k_tupA (vs := [(.str (("drop" : Str))), (.str (x32))]) (xs := [(Any.str ("drop" : Str)), (Any.str x32)]) hS ⟨(any_str.mpr rfl), ⟨(any_str.mpr rfl), True.intro⟩⟩ (by show 2 ≤ sizeLine; decide) fun p42 H hS => ?_
          exact hm _ _ (hS.sel [0, 1, 5, 6] (by decide) rfl)
def sp_law_alone (G : Gx) (p : Addr × Obj) : Sp := fun vs H Q E => ∃ (v_law_e : Exc) (v_law_kind : Int) (F : Asn G), vs = [.ref p.1, (.int (v_law_kind))] ∧ ExB G [0, 1, 2, 3, 4, 5, 6] p v_law_e ∧ Sep H ([F] : List (Asn G)) ∧ R.wp (m_law_alone v_law_e v_law_kind) (fun r => ∀ H', Sep H' ([F] : List (Asn G)) → Q (.bl (r)) H') (fun _ => False)
abbrev N_law_alone : List Str := ["_law_e", "_law_kind", "_law_found"]
theorem sc_law_alone : FnScope N_law_alone ["_law_e", "_law_kind"] (defScope s_law_alone) := ⟨rfl, rfl, rfl, by decide +kernel, rfl, by decide +kernel, by decide +kernel⟩
theorem ok_law_alone (T : Txt G mg) : FnE P w G.K mg base 1 T.a_law_alone T.fd_law_alone ["_law_e", "_law_kind"] (sp_law_alone G) := by
  have nd := sc_law_alone.nd
  refine Fun.okE T.F_law_alone sc_law_alone (fun p vs H Q E h => ?_) (fun cdv A outer s H vs Q E p hr h => ?_)
  · obtain ⟨v_law_e, v_law_kind, F, rfl, _⟩ := h; rfl
  · obtain ⟨v_law_e, v_law_kind, F, rfl, him_v_law_e, hS, hm⟩ := h
    refine ⟨_, (pss_cons (ps_set (i := 2) nd rfl (Or.inl rfl) (pe_fz (pe_lst (pa_cons (pe_callB (call_isP G.K (p := p) (by show _ ∈ [_]; exact List.mem_singleton.mpr rfl) (T.ec_ him_v_law_e.2.2) him_v_law_e.1 him_v_law_e.2.1) (by rfl) T.z_isinstance (by decide +kernel) (pa_cons (pv 0) (pa_cons (pe_glob (v := .ref (G.cl 2)) rfl T.g_NoLetter rfl) pa_nil))) (pa_cons (pe_callB (call_isP G.K (p := p) (by show _ ∈ [_]; exact List.mem_singleton.mpr rfl) (T.ec_ him_v_law_e.2.2) him_v_law_e.1 him_v_law_e.2.1) (by rfl) T.z_isinstance (by decide +kernel) (pa_cons (pv 0) (pa_cons (pe_glob (v := .ref (G.cl 4)) rfl T.g_NoName rfl) pa_nil))) (pa_cons (pe_callB (call_isP G.K (p := p) (by show _ ∈ [_]; exact List.mem_singleton.mpr rfl) (T.ec_ him_v_law_e.2.2) him_v_law_e.1 him_v_law_e.2.1) (by rfl) T.z_isinstance (by decide +kernel) (pa_cons (pv 0) (pa_cons (pe_glob (v := .ref (G.cl 5)) rfl T.g_NoParcel rfl) pa_nil))) (pa_cons (pe_callB (call_isP G.K (p := p) (by show _ ∈ [_]; exact List.mem_singleton.mpr rfl) (T.ec_ him_v_law_e.2.2) him_v_law_e.1 him_v_law_e.2.1) (by rfl) T.z_isinstance (by decide +kernel) (pa_cons (pv 0) (pa_cons (pe_glob (v := .ref (G.cl 6)) rfl T.g_NoRow rfl) pa_nil))) pa_nil)))))))
      (pss_cons (ps_set (i := 2) nd rfl (Or.inl rfl) (pe_fz (pe_op op_catR (pe_fz (pv 2)) (pe_fz (pe_lst (pa_cons (pe_callB (call_isP G.K (p := p) (by show _ ∈ [_]; exact List.mem_singleton.mpr rfl) (T.ec_ him_v_law_e.2.2) him_v_law_e.1 him_v_law_e.2.1) (by rfl) T.z_isinstance (by decide +kernel) (pa_cons (pv 0) (pa_cons (pe_glob (v := .ref (G.cl 3)) rfl T.g_NoRule rfl) pa_nil))) (pa_cons (pe_callB (call_isP G.K (p := p) (by show _ ∈ [_]; exact List.mem_singleton.mpr rfl) (T.ec_ him_v_law_e.2.2) him_v_law_e.1 him_v_law_e.2.1) (by rfl) T.z_isinstance (by decide +kernel) (pa_cons (pv 0) (pa_cons (pe_glob (v := .ref (G.cl 1)) rfl T.g_NoWord rfl) pa_nil))) pa_nil)))))))
      (pss_one (ps_ret (pe_and (pe_callB (call_isP G.K (p := p) (by show _ ∈ [_]; exact List.mem_singleton.mpr rfl) (T.ec_ him_v_law_e.2.2) him_v_law_e.1 him_v_law_e.2.1) (by rfl) T.z_isinstance (by decide +kernel) (pa_cons (pv 0) (pa_cons (pe_bltn (v := .ty "ValueError") (by rfl) T.z_ValueError (by decide +kernel) rfl) pa_nil))) (pe_and (pe_cmpR op_eq (pe_bmK G.K PySem.F.plainAttrs_list PySem.F.slot_list_count PySem.F.type_list_count (mt_countK G.K (huH hr)) (pe_fz (pv 2)) (pa_cons pe_bl pa_nil)) pe_int (nomark _)) (pe_one (pe_ix (ix_listK G.K) (pe_fz (pv 2)) (pv 1) (fun _ _ => rfl))))))))), ?_⟩
    unfold m_law_alone at hm
    refine f_seq ?_
    refine c_asg ?_
    refine c_fz ?_
    refine c_lst ?_
    refine ea_to (ea_cons (ev_isX (ev_var rfl) ev_c (.own _) (T.ki_NoLetter him_v_law_e.2.2)) (ea_cons (ev_isX (ev_var rfl) ev_c (.own _) (T.ki_NoName him_v_law_e.2.2)) (ea_cons (ev_isX (ev_var rfl) ev_c (.own _) (T.ki_NoParcel him_v_law_e.2.2)) (ea_cons (ev_isX (ev_var rfl) ev_c (.own _) (T.ki_NoRow him_v_law_e.2.2)) ea_nil)))) ?_
    refine k_lst (α := Bool) (vs := [(.bl (([2] : List Nat).contains v_law_e.cls)), (.bl (([4] : List Nat).contains v_law_e.cls)), (.bl (([5] : List Nat).contains v_law_e.cls)), (.bl (([6] : List Nat).contains v_law_e.cls))]) (xs := [([2] : List Nat).contains v_law_e.cls, ([4] : List Nat).contains v_law_e.cls, ([5] : List Nat).contains v_law_e.cls, ([6] : List Nat).contains v_law_e.cls]) hS ⟨rfl, ⟨rfl, ⟨rfl, ⟨rfl, True.intro⟩⟩⟩⟩ (by show 4 ≤ sizeLine; decide) fun p1 H hS => ?_
    refine fz_no ?_
    obtain ⟨y2, hy2, hm⟩ := wp_let hm
    have hS : Sep H ([lstA p1 (y2 : (List Bool)), F] : List (Asn G)) := by rw [← hy2]; exact hS
    refine c_set (σ' := [some (.ref p.1), some (.int (v_law_kind)), some (.ref p1)]) rfl ?_
    refine sq_nx ?_
    refine f_seq ?_
    refine c_asg ?_
    refine c_fz ?_
    refine c_op ?_
    refine ev_to (ev_fz (ev_var rfl)) ?_
    refine c_fz ?_
    refine c_lst ?_
    refine ea_to (ea_cons (ev_isX (ev_var rfl) ev_c (.own _) (T.ki_NoRule him_v_law_e.2.2)) (ea_cons (ev_isX (ev_var rfl) ev_c (.own _) (T.ki_NoWord him_v_law_e.2.2)) ea_nil)) ?_
    refine k_lst (α := Bool) (vs := [(.bl (([3] : List Nat).contains v_law_e.cls)), (.bl (([1] : List Nat).contains v_law_e.cls))]) (xs := [([3] : List Nat).contains v_law_e.cls, ([1] : List Nat).contains v_law_e.cls]) hS ⟨rfl, ⟨rfl, True.intro⟩⟩ (by show 2 ≤ sizeLine; decide) fun p3 H hS => ?_
    refine fz_no ?_
    obtain ⟨h4, hm⟩ := R.wp_need hm
    refine k_catG hS (hS.rdL (i := 1) rfl) (hS.rdL (i := 0) rfl) h4 fun p5 H hS => ?_
    refine fz_no ?_
    obtain ⟨y6, hy6, hm⟩ := wp_let hm
    have hS : Sep H ([lstA p5 (y6 : (List Bool)), lstA p3 ([([3] : List Nat).contains v_law_e.cls, ([1] : List Nat).contains v_law_e.cls] : (List Bool)), lstA p1 (y2 : (List Bool)), F] : List (Asn G)) := by rw [← hy6]; exact hS
    refine c_set (σ' := [some (.ref p.1), some (.int (v_law_kind)), some (.ref p5)]) rfl ?_
    refine sq_nx ?_
    refine c_ret ?_
    refine f_andV ?_
    refine ev_to (ev_isX (ev_var rfl) ev_c (.ty _) (T.ki_ValueError him_v_law_e.2.2)) ?_
    refine andVK_J hm hS (fun hb q hm nx => ?_) (fun b7 H hm hS => ?_)
    ·
      refine f_andV ?_
      refine c_op ?_
      refine c_bm ?_
      refine ev_to (ev_fz (ev_var rfl)) ⟨tyL hS (i := 0) rfl, ?_⟩
      refine ea_to (ea_cons ev_c ea_nil) ?_
      obtain ⟨h8, hm⟩ := R.wp_need hm
      obtain ⟨h9, hm⟩ := R.wp_need hm
      refine k_count (xs := (y6 : (List Bool))) (x := true) (dpOwn hS (i := 0) rfl) (.bl _) h8 h9 (Nat.le_of_ble_eq_true rfl) (Nat.le_of_ble_eq_true rfl) ?_
      refine ev_to ev_c ?_
      refine ev_op2 (ev_eqI ev_c ev_c) ?_
      refine andVK_J hm hS (fun hb q hm nx => ?_) (fun b10 H hm hS => ?_)
      ·
        obtain ⟨x11, hx11, hm⟩ := wp_idx hm
        refine ev_to (ev_ixSq (ev_fz (ev_var rfl)) (ev_var rfl) (hS.sqF (i := 0) rfl) (atI_map hx11)) ?_
        exact nx _ _ hm (hS.sel [0, 1, 2, 3] (by decide) rfl)
      ·
        exact nx _ _ hm (hS.sel [0, 1, 2, 3] (by decide) rfl)
    ·
      exact hm _ (hS.sel [3] (by decide) rfl)
def sp_law_refused (G : Gx) : Sp := fun vs H Q E => ∃ (a_v_law_ledger : Addr) (v_law_ledger : Ledger) (a_v_law_deed_here : V) (v_law_deed_here : Any) (F : Asn G), vs = [.ref a_v_law_ledger, a_v_law_deed_here] ∧ Im.im G H a_v_law_deed_here v_law_deed_here ∧ Sep H ([LedgerA a_v_law_ledger v_law_ledger, F] : List (Asn G)) ∧ R.wp (m_law_refused v_law_ledger v_law_deed_here) (fun r => ∀ H', Sep H' ([LedgerA a_v_law_ledger r.2, F] : List (Asn G)) → Q (.bl (r.1)) H') (fun _ => False)
abbrev N_law_refused : List Str := ["_law_ledger", "_law_deed_here", "_law_e"]
theorem sc_law_refused : FnScope N_law_refused ["_law_ledger", "_law_deed_here"] (defScope s_law_refused) := ⟨rfl, rfl, rfl, by decide +kernel, rfl, by decide +kernel, by decide +kernel⟩
theorem ok_law_refused (T : Txt G mg) : FnOk P w G.K mg base CX0 9 T.a_law_refused T.fd_law_refused ["_law_ledger", "_law_deed_here"] (sp_law_refused G) := by
  have nd := sc_law_refused.nd
  refine Fun.ok T.F_law_refused sc_law_refused (fun vs H Q E h => ?_) (fun cdv A outer s H vs Q E hr h => ?_)
  · obtain ⟨a_v_law_ledger, v_law_ledger, a_v_law_deed_here, v_law_deed_here, F, rfl, _⟩ := h; rfl
  · obtain ⟨a_v_law_ledger, v_law_ledger, a_v_law_deed_here, v_law_deed_here, F, rfl, him_v_law_deed_here, hS, hm⟩ := h
    have hS := hS.addIm him_v_law_deed_here
    refine ⟨_, (pss_cons (ps_try_as (i := 2) rfl rfl nd rfl rfl ⟨rfl, by decide, .inl T.g_MailError⟩ takes0 (fun W pn xe tk po => (pss_one (ps_expr (pe_methSD (pv 0) T.cl_Ledger T.m_Ledger_do (ok_Ledger_do T) (hr.mono (by decide)) T.b_Ledger_do .nil (fun σ => passAt tk σ) (pa_cons (pv 1) pa_nil))))) (fun a oe cls d pn hz hf => (pss_one (ps_ret (pe_callE List.mem_cons_self hz hf (ok_law_alone T) (hotRoom hr (by decide)) rfl T.g_law_alone T.kp_law_alone T.b_law_alone (pa_cons (pv 2) (pa_cons pe_int pa_nil)))))))
      (pss_one (ps_ret pe_bl))), ?_⟩
    unfold m_law_refused at hm
    refine f_seq ?_
    refine c_drop ?_
    refine c_methSD ?_
    refine ev_to (ev_var rfl) ?_
    obtain ⟨d1, _, hO2⟩ := ins_Ledger hS (i := 1) rfl
    refine ⟨_, _, _, rfl, hO2, rfl, ?_⟩
    refine ea_to (ea_cons (ev_var rfl) ea_nil) ?_
    refine ⟨a_v_law_ledger, (v_law_ledger : Ledger), a_v_law_deed_here, (v_law_deed_here : Any), star [imA a_v_law_deed_here (v_law_deed_here : Any), F], rfl, (hS.im (i := 0) rfl), Sep.unstar (M := [LedgerA a_v_law_ledger v_law_ledger]) (hS.sel [1, 0, 2] (by decide) rfl : Sep H (([LedgerA a_v_law_ledger v_law_ledger] ++ [imA a_v_law_deed_here (v_law_deed_here : Any), F] : List (Asn G)))), R.wp_mono (R.wp_tryC hm) (fun r3 hm p4 H hS => ?_) (fun x hx H hS => ?_)⟩
    ·
      have hS : Sep H ([imA (.ref p4) (r3.1 : (T4 Int Str Int Any)), LedgerA a_v_law_ledger r3.2, imA a_v_law_deed_here (v_law_deed_here : Any), F] : List (Asn G)) := Sep.star (M := [imA (.ref p4) (r3.1 : (T4 Int Str Int Any)), LedgerA a_v_law_ledger r3.2]) hS
      refine sq_nx ?_
      refine c_ret ?_
      refine ev_to ev_c ?_
      exact hm _ (hS.sel [1, 3] (by decide) rfl)
    ·
      have hS : Sep H ([LedgerA a_v_law_ledger v_law_ledger, imA a_v_law_deed_here (v_law_deed_here : Any), F] : List (Asn G)) := Sep.star (M := [LedgerA a_v_law_ledger v_law_ledger]) hS
      refine w_asE (fun z => T.ex_MailError z) hx (fun hcx hm ea na => ?_) (fun hm => ?_)
      ·
        refine c_ret ?_
        refine c_callE ?_
        refine ea_to (ea_cons (ev_var rfl) (ea_cons ev_c ea_nil)) ?_
        intro oe hz hf
        refine ⟨x, 2, star [LedgerA a_v_law_ledger v_law_ledger, imA a_v_law_deed_here (v_law_deed_here : Any), F], rfl, ⟨hz, hf, hcx⟩, Sep.unstar (M := []) (hS.sel [0, 1, 2] (by decide) rfl : Sep H (([] ++ [LedgerA a_v_law_ledger v_law_ledger, imA a_v_law_deed_here (v_law_deed_here : Any), F] : List (Asn G)))), R.wp_mono (R.wp_bind hm) (fun r6 hm H hS => ?_) (fun _ z => z)⟩
        have hS : Sep H ([LedgerA a_v_law_ledger v_law_ledger, imA a_v_law_deed_here (v_law_deed_here : Any), F] : List (Asn G)) := Sep.star (M := []) hS
        exact hm _ (hS.sel [0, 2] (by decide) rfl)
      ·
        exact hm.elim
def sp_law_done (G : Gx) : Sp := fun vs H Q E => ∃ (a_v_law_ledger : Addr) (v_law_ledger : Ledger) (a_v_law_deed_here : V) (v_law_deed_here : Any) (F : Asn G), vs = [.ref a_v_law_ledger, a_v_law_deed_here] ∧ Im.im G H a_v_law_deed_here v_law_deed_here ∧ Sep H ([LedgerA a_v_law_ledger v_law_ledger, F] : List (Asn G)) ∧ R.wp (m_law_done v_law_ledger v_law_deed_here) (fun r => ∀ (p : V) H', Sep H' ([imA p (r.1 : Any), LedgerA a_v_law_ledger r.2, F] : List (Asn G)) → Q p H') (fun _ => False)
abbrev N_law_done : List Str := ["_law_ledger", "_law_deed_here"]
theorem sc_law_done : FnScope N_law_done ["_law_ledger", "_law_deed_here"] (defScope s_law_done) := ⟨rfl, rfl, rfl, by decide +kernel, rfl, by decide +kernel, by decide +kernel⟩
theorem ok_law_done (T : Txt G mg) : FnOk P w G.K mg base CX0 9 T.a_law_done T.fd_law_done ["_law_ledger", "_law_deed_here"] (sp_law_done G) := by
  have nd := sc_law_done.nd
  refine Fun.ok T.F_law_done sc_law_done (fun vs H Q E h => ?_) (fun cdv A outer s H vs Q E hr h => ?_)
  · obtain ⟨a_v_law_ledger, v_law_ledger, a_v_law_deed_here, v_law_deed_here, F, rfl, _⟩ := h; rfl
  · obtain ⟨a_v_law_ledger, v_law_ledger, a_v_law_deed_here, v_law_deed_here, F, rfl, him_v_law_deed_here, hS, hm⟩ := h
    have hS := hS.addIm him_v_law_deed_here
    refine ⟨_, (pss_one (ps_try_only rfl rfl ⟨rfl, by decide, .inl T.g_MailError⟩ takes0 (fun W pn xe tk po => (pss_one (ps_ret (pe_methSD (pv 0) T.cl_Ledger T.m_Ledger_do (ok_Ledger_do T) (hr.mono (by decide)) T.b_Ledger_do .nil (fun σ => passAt tk σ) (pa_cons (pv 1) pa_nil))))) (fun a oe cls d pn _ _ => (pss_one (ps_ret pe_non))))), ?_⟩
    unfold m_law_done at hm
    refine c_ret ?_
    refine c_methSD ?_
    refine ev_to (ev_var rfl) ?_
    obtain ⟨d1, _, hO2⟩ := ins_Ledger hS (i := 1) rfl
    refine ⟨_, _, _, rfl, hO2, rfl, ?_⟩
    refine ea_to (ea_cons (ev_var rfl) ea_nil) ?_
    refine ⟨a_v_law_ledger, (v_law_ledger : Ledger), a_v_law_deed_here, (v_law_deed_here : Any), star [imA a_v_law_deed_here (v_law_deed_here : Any), F], rfl, (hS.im (i := 0) rfl), Sep.unstar (M := [LedgerA a_v_law_ledger v_law_ledger]) (hS.sel [1, 0, 2] (by decide) rfl : Sep H (([LedgerA a_v_law_ledger v_law_ledger] ++ [imA a_v_law_deed_here (v_law_deed_here : Any), F] : List (Asn G)))), R.wp_mono (R.wp_tryC hm) (fun r3 hm p4 H hS => ?_) (fun x hx H hS => ?_)⟩
    ·
      have hS : Sep H ([imA (.ref p4) (r3.1 : (T4 Int Str Int Any)), LedgerA a_v_law_ledger r3.2, imA a_v_law_deed_here (v_law_deed_here : Any), F] : List (Asn G)) := Sep.star (M := [imA (.ref p4) (r3.1 : (T4 Int Str Int Any)), LedgerA a_v_law_ledger r3.2]) hS
      obtain ⟨u6, u7, u8, u9, hT14, h10, h11, h12, h13⟩ := im4 (hS.im (i := 0) rfl)
      obtain rfl : u6 = (.int (r3.1.a)) := h10
      obtain rfl : u7 = (.str (r3.1.b)) := h11
      obtain rfl : u8 = (.int (r3.1.c)) := h12
      have hS := hS.addIm (v := (.ref p4)) (x := ((Any.tup [(Any.int r3.1.a), (Any.str r3.1.b), (Any.int r3.1.c), r3.1.d]) : Any)) ((any_tup (xs := [(Any.int r3.1.a), (Any.str r3.1.b), (Any.int r3.1.c), r3.1.d])).mpr ⟨_, _, rfl, hT14, ⟨(any_int.mpr rfl), ⟨(any_str.mpr rfl), ⟨(any_int.mpr rfl), ⟨h13, True.intro⟩⟩⟩⟩⟩)
      exact hm _ _ (hS.sel [0, 2, 4] (by decide) rfl)
    ·
      have hS : Sep H ([LedgerA a_v_law_ledger v_law_ledger, imA a_v_law_deed_here (v_law_deed_here : Any), F] : List (Asn G)) := Sep.star (M := [LedgerA a_v_law_ledger v_law_ledger]) hS
      refine w_only (fun z => T.ex_MailError z) hx (fun hm ea na => ?_) (fun hm => ?_)
      ·
        refine c_ret ?_
        refine ev_to ev_c ?_
        have hS := hS.addIm (v := .non) (x := (Any.non : Any)) (any_non.mpr rfl)
        exact hm _ _ (hS.sel [0, 1, 3] (by decide) rfl)
      ·
        exact hm.elim
def sp_law_no_hand (G : Gx) : Sp := fun vs H Q E => ∃ (a_v_law_hand : V) (v_law_hand : Any) (F : Asn G), vs = [a_v_law_hand] ∧ Im.im G H a_v_law_hand v_law_hand ∧ Sep H ([F] : List (Asn G)) ∧ R.wp (m_law_no_hand v_law_hand) (fun r => ∀ H', Sep H' ([F] : List (Asn G)) → Q (.bl (r)) H') (fun _ => False)
abbrev N_law_no_hand : List Str := ["_law_hand", "_law_e"]
theorem sc_law_no_hand : FnScope N_law_no_hand ["_law_hand"] (defScope s_law_no_hand) := ⟨rfl, rfl, rfl, by decide +kernel, rfl, by decide +kernel, by decide +kernel⟩
theorem ok_law_no_hand (T : Txt G mg) : FnOk P w G.K mg base CX0 4 T.a_law_no_hand T.fd_law_no_hand ["_law_hand"] (sp_law_no_hand G) := by
  have nd := sc_law_no_hand.nd
  refine Fun.ok T.F_law_no_hand sc_law_no_hand (fun vs H Q E h => ?_) (fun cdv A outer s H vs Q E hr h => ?_)
  · obtain ⟨a_v_law_hand, v_law_hand, F, rfl, _⟩ := h; rfl
  · obtain ⟨a_v_law_hand, v_law_hand, F, rfl, him_v_law_hand, hS, hm⟩ := h
    have hS := hS.addIm him_v_law_hand
    refine ⟨_, (pss_cons (ps_try_as (i := 1) rfl rfl nd rfl rfl ⟨rfl, by decide, .inl T.g_MailError⟩ takes0 (fun W pn xe tk po => (pss_one (ps_expr (pe_makeSD T.k_Ledger (ok_Ledger___init__ T) (hr.mono (by decide)) rfl T.g_Ledger T.b_Ledger___init__ .nil (fun σ => passAt tk σ) (pa_cons (pv 0) pa_nil))))) (fun a oe cls d pn hz hf => (pss_one (ps_ret (pe_callE List.mem_cons_self hz hf (ok_law_alone T) (hotRoom hr (by decide)) rfl T.g_law_alone T.kp_law_alone T.b_law_alone (pa_cons (pv 1) (pa_cons pe_int pa_nil)))))))
      (pss_one (ps_ret pe_bl))), ?_⟩
    unfold m_law_no_hand at hm
    refine f_seq ?_
    refine c_drop ?_
    refine c_makeSD ?_
    refine ea_to (ea_cons (ev_var rfl) ea_nil) ?_
    intro p1 d2 np nd ne
    have hS := hS.newI (C := G.cl 8) np nd ne (by rw [T.fz_Ledger]; decide)
    refine ⟨p1, d2, a_v_law_hand, (v_law_hand : Any), star [imA a_v_law_hand (v_law_hand : Any), F], rfl, (hS.im (i := 1) rfl), Sep.unstar (M := [cell p1 (.ins (G.cl 8) d2 [])]) (hS.sel [0, 1, 2] (by decide) rfl : Sep _ (([cell p1 (.ins (G.cl 8) d2 [])] ++ [imA a_v_law_hand (v_law_hand : Any), F] : List (Asn G)))), R.wp_mono (R.wp_tryC hm) (fun r3 hm H hS => ⟨rfl, ?_⟩) (fun x hx H hS => ?_)⟩
    ·
      have hS : Sep H ([LedgerA p1 r3, imA a_v_law_hand (v_law_hand : Any), F] : List (Asn G)) := Sep.star (M := [LedgerA p1 r3]) hS
      refine sq_nx ?_
      refine c_ret ?_
      refine ev_to ev_c ?_
      exact hm _ (hS.sel [2] (by decide) rfl)
    ·
      have hS : Sep H ([imA a_v_law_hand (v_law_hand : Any), F] : List (Asn G)) := Sep.star (M := []) hS
      refine w_asE (fun z => T.ex_MailError z) hx (fun hcx hm ea na => ?_) (fun hm => ?_)
      ·
        refine c_ret ?_
        refine c_callE ?_
        refine ea_to (ea_cons (ev_var rfl) (ea_cons ev_c ea_nil)) ?_
        intro oe hz hf
        refine ⟨x, 1, star [imA a_v_law_hand (v_law_hand : Any), F], rfl, ⟨hz, hf, hcx⟩, Sep.unstar (M := []) (hS.sel [0, 1] (by decide) rfl : Sep H (([] ++ [imA a_v_law_hand (v_law_hand : Any), F] : List (Asn G)))), R.wp_mono (R.wp_bind hm) (fun r4 hm H hS => ?_) (fun _ z => z)⟩
        have hS : Sep H ([imA a_v_law_hand (v_law_hand : Any), F] : List (Asn G)) := Sep.star (M := []) hS
        exact hm _ (hS.sel [1] (by decide) rfl)
      ·
        exact hm.elim
def sp_law_no_word (G : Gx) : Sp := fun vs H Q E => ∃ (a_v_law_state : Addr) (v_law_state : (T3 Int Script Int)) (F : Asn G), vs = [.ref a_v_law_state] ∧ Sep H ([stA a_v_law_state (v_law_state : T3 Int Script Int), F] : List (Asn G)) ∧ R.wp (m_law_no_word v_law_state) (fun r => ∀ (p : V) H', Sep H' ([imA p (r.1 : Any), stA a_v_law_state (r.2 : T3 Int Script Int), F] : List (Asn G)) → Q p H') (fun _ => False)
abbrev N_law_no_word : List Str := ["_law_state", "_law_word_here", "_law_at", "_law_some"]
theorem sc_law_no_word : FnScope N_law_no_word ["_law_state"] (defScope s_law_no_word) := ⟨rfl, rfl, rfl, by decide +kernel, rfl, by decide +kernel, by decide +kernel⟩
theorem ok_law_no_word (T : Txt G mg) : FnOk P w G.K mg base CX0 4 T.a_law_no_word T.fd_law_no_word ["_law_state"] (sp_law_no_word G) := by
  have nd := sc_law_no_word.nd
  refine Fun.ok T.F_law_no_word sc_law_no_word (fun vs H Q E h => ?_) (fun cdv A outer s H vs Q E hr h => ?_)
  · obtain ⟨a_v_law_state, v_law_state, F, rfl, _⟩ := h; rfl
  · obtain ⟨a_v_law_state, v_law_state, F, rfl, hS, hm⟩ := h
    refine ⟨_, (pss_cons (ps_set (i := 1) nd rfl (Or.inl rfl) (pe_call (ok_law_any_word T) (hr.mono (by decide)) rfl T.g_law_any_word T.kp_law_any_word T.b_law_any_word .nil pass0 (pa_cons (pv 0) pa_nil)))
      (pss_cons (ps_set (i := 2) nd rfl (Or.inl rfl) (pe_op op_mod (pe_call (ok_law_next T) (hr.mono (by decide)) rfl T.g_law_next T.kp_law_next T.b_law_next .nil pass0 (pa_cons (pv 0) pa_nil)) (pe_op op_add (pe_callB call_lenS (by rfl) T.z_len PySem.boot_len (pa_cons (pv 1) pa_nil)) pe_int)))
      (pss_cons (ps_set (i := 3) nd rfl (Or.inl rfl) (pe_fz (pe_lst (pa_cons pe_str (pa_cons (pe_op op_catS (pe_op op_catS (pe_slice sl_str (pv 1) po_none (po_some (pv 2))) pe_str) (pe_slice sl_str (pv 1) (po_some (pv 2)) (po_some pe_int))) (pa_cons (pe_op op_catS (pe_op op_catS (pe_slice sl_str (pv 1) po_none (po_some (pv 2))) pe_str) (pe_slice sl_str (pv 1) (po_some (pv 2)) (po_some pe_int))) (pa_cons (pe_op op_repS (pv 1) pe_int) (pa_cons pe_non (pa_cons pe_int (pa_cons (pe_fz (pe_lst (pa_cons (pv 1) pa_nil))) pa_nil))))))))))
      (pss_one (ps_ret (pe_ix (ix_listK G.K) (pe_fz (pv 3)) (pe_op op_mod (pe_call (ok_law_next T) (hr.mono (by decide)) rfl T.g_law_next T.kp_law_next T.b_law_next .nil pass0 (pa_cons (pv 0) pa_nil)) pe_int) (fun _ _ => rfl))))))), ?_⟩
    unfold m_law_no_word at hm
    refine f_seq ?_
    refine c_asg ?_
    refine c_call ?_
    refine ea_to (ea_cons (ev_var rfl) ea_nil) ?_
    refine ⟨a_v_law_state, (v_law_state : (T3 Int Script Int)), star [F], rfl, Sep.unstar (M := [stA a_v_law_state (v_law_state : T3 Int Script Int)]) (hS.sel [0, 1] (by decide) rfl : Sep H (([stA a_v_law_state (v_law_state : T3 Int Script Int)] ++ [F] : List (Asn G)))), R.wp_mono (R.wp_bind hm) (fun r1 hm H hS => ?_) (fun _ z => z)⟩
    have hS : Sep H ([stA a_v_law_state (r1.2 : T3 Int Script Int), F] : List (Asn G)) := Sep.star (M := [stA a_v_law_state (r1.2 : T3 Int Script Int)]) hS
    refine c_set (σ' := [some (.ref a_v_law_state), some (.str (r1.1)), none, none]) rfl ?_
    refine sq_nx ?_
    refine f_seq ?_
    refine c_asg ?_
    refine c_op ?_
    refine c_call ?_
    refine ea_to (ea_cons (ev_var rfl) ea_nil) ?_
    refine ⟨a_v_law_state, (r1.2 : (T3 Int Script Int)), star [F], rfl, Sep.unstar (M := [stA a_v_law_state (r1.2 : T3 Int Script Int)]) (hS.sel [0, 1] (by decide) rfl : Sep H (([stA a_v_law_state (r1.2 : T3 Int Script Int)] ++ [F] : List (Asn G)))), R.wp_mono (R.wp_bind hm) (fun r2 hm H hS => ?_) (fun _ z => z)⟩
    have hS : Sep H ([stA a_v_law_state (r2.2 : T3 Int Script Int), F] : List (Asn G)) := Sep.star (M := [stA a_v_law_state (r2.2 : T3 Int Script Int)]) hS
    obtain ⟨h3, hm⟩ := R.wp_need hm
    refine ev_to (ev_add (ev_lenS (ev_var rfl) h3) ev_c) ?_
    obtain ⟨h4, hm⟩ := R.wp_need hm
    refine r_mod h4 ?_
    obtain ⟨y5, hy5, hm⟩ := wp_let hm
    refine n_is (w := (.int (y5))) (by first | rw [hy5] | (subst hy5; rfl)) ?_
    refine c_set (σ' := [some (.ref a_v_law_state), some (.str (r1.1)), some (.int (y5)), none]) rfl ?_
    refine sq_nx ?_
    refine f_seq ?_
    refine c_asg ?_
    refine c_fz ?_
    refine c_lst ?_
    refine c_cons ?_
    refine ev_to ev_c ?_
    refine c_cons ?_
    obtain ⟨h6, hm⟩ := R.wp_need hm
    obtain ⟨h7, hm⟩ := R.wp_need hm
    obtain ⟨h8, hm⟩ := R.wp_need hm
    revert hm; refine R.need_rev fun h9 hm => ?_
    refine ev_to (ev_catS (ev_catS (ev_slS (ev_var rfl) eo_no (eo_some (ev_var rfl)) h6) ev_c h7) (ev_slS (ev_var rfl) (eo_some (ev_var rfl)) (eo_some ev_c) h8) h9) ?_
    refine c_cons ?_
    obtain ⟨h10, hm⟩ := R.wp_need hm
    obtain ⟨h11, hm⟩ := R.wp_need hm
    obtain ⟨h12, hm⟩ := R.wp_need hm
    revert hm; refine R.need_rev fun h13 hm => ?_
    refine ev_to (ev_catS (ev_catS (ev_slS (ev_var rfl) eo_no (eo_some (ev_var rfl)) h10) ev_c h11) (ev_slS (ev_var rfl) (eo_some (ev_var rfl)) (eo_some ev_c) h12) h13) ?_
    refine c_cons ?_
    obtain ⟨h14, hm⟩ := R.wp_need hm
    refine ev_to (ev_repS (ev_var rfl) ev_c h14) ?_
    refine c_cons ?_
    refine ev_to ev_c ?_
    refine c_cons ?_
    refine ev_to ev_c ?_
    refine c_cons ?_
    refine c_fz ?_
    refine c_lst ?_
    refine ea_to (ea_cons (ev_var rfl) ea_nil) ?_
    refine k_lst (α := Str) (vs := [(.str (r1.1))]) (xs := [r1.1]) hS ⟨rfl, True.intro⟩ (by show 1 ≤ sizeLine; decide) fun p15 H hS => ?_
    refine fz_yes (xs := ([r1.1] : (List Str))) hS (i := 0) rfl fun H hS => ?_
    have hS : Sep H ([imA (.ref p15) ([r1.1] : (List Str)), stA a_v_law_state (r2.2 : T3 Int Script Int), F] : List (Asn G)) := hS
    refine c_nil ?_
    refine k_lst (α := Any) (vs := [(.str (("" : Str))), (.str (((cutS r1.1 none (some (y5))) ++ ("A" : Str)) ++ (cutS r1.1 (some (y5)) (some (19))))), (.str (((cutS r1.1 none (some (y5))) ++ ("-" : Str)) ++ (cutS r1.1 (some (y5)) (some (19))))), (.str (repS r1.1 (21 : Int).toNat)), .non, (.int (7)), (.ref p15)]) (xs := [(Any.str ("" : Str)), (Any.str (((cutS r1.1 none (some (y5))) ++ ("A" : Str)) ++ (cutS r1.1 (some (y5)) (some (19))))), (Any.str (((cutS r1.1 none (some (y5))) ++ ("-" : Str)) ++ (cutS r1.1 (some (y5)) (some (19))))), (Any.str (repS r1.1 (21 : Int).toNat)), Any.non, (Any.int 7), (Any.lst (([r1.1]).map Any.str))]) hS ⟨(any_str.mpr rfl), ⟨(any_str.mpr rfl), ⟨(any_str.mpr rfl), ⟨(any_str.mpr rfl), ⟨(any_non.mpr rfl), ⟨(any_int.mpr rfl), ⟨(any_lstS (hS.im (i := 0) rfl)), True.intro⟩⟩⟩⟩⟩⟩⟩ (by show 7 ≤ sizeLine; decide) fun p17 H hS => ?_
    refine fz_no ?_
    obtain ⟨y18, hy18, hm⟩ := wp_let hm
    have hS : Sep H ([lstA p17 (y18 : (List Any)), imA (.ref p15) ([r1.1] : (List Str)), stA a_v_law_state (r2.2 : T3 Int Script Int), F] : List (Asn G)) := by rw [← hy18]; exact hS
    refine c_set (σ' := [some (.ref a_v_law_state), some (.str (r1.1)), some (.int (y5)), some (.ref p17)]) rfl ?_
    refine sq_nx ?_
    refine c_ret ?_
    refine c_op ?_
    refine ev_to (ev_fz (ev_var rfl)) ?_
    refine c_op ?_
    refine c_call ?_
    refine ea_to (ea_cons (ev_var rfl) ea_nil) ?_
    refine ⟨a_v_law_state, (r2.2 : (T3 Int Script Int)), star [lstA p17 (y18 : (List Any)), imA (.ref p15) ([r1.1] : (List Str)), F], rfl, Sep.unstar (M := [stA a_v_law_state (r2.2 : T3 Int Script Int)]) (hS.sel [2, 0, 1, 3] (by decide) rfl : Sep H (([stA a_v_law_state (r2.2 : T3 Int Script Int)] ++ [lstA p17 (y18 : (List Any)), imA (.ref p15) ([r1.1] : (List Str)), F] : List (Asn G)))), R.wp_mono (R.wp_bind hm) (fun r19 hm H hS => ?_) (fun _ z => z)⟩
    have hS : Sep H ([stA a_v_law_state (r19.2 : T3 Int Script Int), lstA p17 (y18 : (List Any)), imA (.ref p15) ([r1.1] : (List Str)), F] : List (Asn G)) := Sep.star (M := [stA a_v_law_state (r19.2 : T3 Int Script Int)]) hS
    refine ev_to ev_c ?_
    refine r_mod (by decide) ?_
    obtain ⟨x20, hx20, hm⟩ := wp_idx hm
    obtain ⟨vs21, hq22, hM23⟩ := hS.sq (i := 1) rfl
    obtain ⟨u24, hu25, hi26⟩ := atI_im hM23 hx20
    refine r_ixSq hq22 hu25 _ ?_
    have hS := hS.addIm (v := u24) (x := (x20 : Any)) hi26
    exact hm _ _ (hS.sel [0, 1, 4] (by decide) rfl)
def sp_law_no_parts (G : Gx) : Sp := fun vs H Q E => ∃ (a_v_law_state : Addr) (v_law_state : (T3 Int Script Int)) (a_v_law_parts_here : V) (v_law_parts_here : Any) (F : Asn G), vs = [.ref a_v_law_state, a_v_law_parts_here] ∧ Im.im G H a_v_law_parts_here v_law_parts_here ∧ Sep H ([stA a_v_law_state (v_law_state : T3 Int Script Int), F] : List (Asn G)) ∧ R.wp (m_law_no_parts v_law_state v_law_parts_here) (fun r => ∀ (p : V) H', Sep H' ([imA p (r.1 : Any), stA a_v_law_state (r.2 : T3 Int Script Int), F] : List (Asn G)) → Q p H') (fun _ => False)
abbrev N_law_no_parts : List Str := ["_law_state", "_law_parts_here", "_law_k", "_law_odd_here", "_law_some"]
theorem sc_law_no_parts : FnScope N_law_no_parts ["_law_state", "_law_parts_here"] (defScope s_law_no_parts) := ⟨rfl, rfl, rfl, by decide +kernel, rfl, by decide +kernel, by decide +kernel⟩
theorem ok_law_no_parts (T : Txt G mg) : FnOk P w G.K mg base CX0 5 T.a_law_no_parts T.fd_law_no_parts ["_law_state", "_law_parts_here"] (sp_law_no_parts G) := by
  have nd := sc_law_no_parts.nd
  refine Fun.ok T.F_law_no_parts sc_law_no_parts (fun vs H Q E h => ?_) (fun cdv A outer s H vs Q E hr h => ?_)
  · obtain ⟨a_v_law_state, v_law_state, a_v_law_parts_here, v_law_parts_here, F, rfl, _⟩ := h; rfl
  · obtain ⟨a_v_law_state, v_law_state, a_v_law_parts_here, v_law_parts_here, F, rfl, him_v_law_parts_here, hS, hm⟩ := h
    have hS := hS.addIm him_v_law_parts_here
    refine ⟨_, (pss_cons (ps_set (i := 2) nd rfl (Or.inl rfl) (pe_op op_mod (pe_call (ok_law_next T) (hr.mono (by decide)) rfl T.g_law_next T.kp_law_next T.b_law_next .nil pass0 (pa_cons (pv 0) pa_nil)) pe_int))
      (pss_cons (ps_set (i := 3) nd rfl (Or.inl rfl) (pe_ix (ix_listK G.K) (pe_fz (pe_lst (pa_cons (pe_call (ok_law_no_word T) (hr.mono (by decide)) rfl T.g_law_no_word T.kp_law_no_word T.b_law_no_word .nil pass0 (pa_cons (pv 0) pa_nil)) (pa_cons (pe_op op_repS pe_str pe_int) (pa_cons (pe_op op_repS pe_str pe_int) (pa_cons pe_int (pa_cons (pe_call (ok_law_no_word T) (hr.mono (by decide)) rfl T.g_law_no_word T.kp_law_no_word T.b_law_no_word .nil pass0 (pa_cons (pv 0) pa_nil)) pa_nil))))))) (pv 2) (fun _ _ => rfl)))
      (pss_cons (ps_if (pt_cmpR (eqDK G.K hr.units) (pv 3) pe_str (nomark _)) (pss_one (ps_set (i := 3) nd rfl (Or.inl rfl) pe_str)) pss_nil)
      (pss_cons (ps_set (i := 4) nd rfl (Or.inl rfl) (pe_fz (pe_lst (pa_cons (pe_op (catAK G.K) (pe_op (catAK G.K) (pe_slice (sl_tupK G.K) (pv 1) po_none (po_some (pv 2))) (pe_tup (pa_cons (pv 3) pa_nil))) (pe_slice (sl_tupK G.K) (pv 1) (po_some (pe_op op_add (pv 2) pe_int)) po_none)) (pa_cons (pe_fz (pe_callTy (listSqK G.K) (by rfl) T.z_list (by decide +kernel) (pa_cons (pv 1) pa_nil))) (pa_cons (pe_op (catAK G.K) (pv 1) (pe_tup (pa_cons pe_str pa_nil))) (pa_cons (pe_slice (sl_tupK G.K) (pv 1) po_none (po_some pe_int)) (pa_cons pe_non (pa_cons (pe_tup (pa_cons pe_str (pa_cons pe_str (pa_cons pe_str (pa_cons pe_int (pa_cons pe_str pa_nil)))))) pa_nil)))))))))
      (pss_one (ps_ret (pe_ix (ix_listK G.K) (pe_fz (pv 4)) (pe_op op_mod (pe_call (ok_law_next T) (hr.mono (by decide)) rfl T.g_law_next T.kp_law_next T.b_law_next .nil pass0 (pa_cons (pv 0) pa_nil)) pe_int) (fun _ _ => rfl)))))))), ?_⟩
    unfold m_law_no_parts at hm
    refine f_seq ?_
    refine c_asg ?_
    refine c_op ?_
    refine c_call ?_
    refine ea_to (ea_cons (ev_var rfl) ea_nil) ?_
    refine ⟨a_v_law_state, (v_law_state : (T3 Int Script Int)), star [imA a_v_law_parts_here (v_law_parts_here : Any), F], rfl, Sep.unstar (M := [stA a_v_law_state (v_law_state : T3 Int Script Int)]) (hS.sel [1, 0, 2] (by decide) rfl : Sep H (([stA a_v_law_state (v_law_state : T3 Int Script Int)] ++ [imA a_v_law_parts_here (v_law_parts_here : Any), F] : List (Asn G)))), R.wp_mono (R.wp_bind hm) (fun r1 hm H hS => ?_) (fun _ z => z)⟩
    have hS : Sep H ([stA a_v_law_state (r1.2 : T3 Int Script Int), imA a_v_law_parts_here (v_law_parts_here : Any), F] : List (Asn G)) := Sep.star (M := [stA a_v_law_state (r1.2 : T3 Int Script Int)]) hS
    refine ev_to ev_c ?_
    refine r_mod (by decide) ?_
    obtain ⟨y2, hy2, hm⟩ := wp_let hm
    refine n_is (w := (.int (y2))) (by first | rw [hy2] | (subst hy2; rfl)) ?_
    refine c_set (σ' := [some (.ref a_v_law_state), some a_v_law_parts_here, some (.int (y2)), none, none]) rfl ?_
    refine sq_nx ?_
    refine f_seq ?_
    refine c_asg ?_
    refine c_op ?_
    refine c_fz ?_
    refine c_lst ?_
    refine c_cons ?_
    refine c_call ?_
    refine ea_to (ea_cons (ev_var rfl) ea_nil) ?_
    refine ⟨a_v_law_state, (r1.2 : (T3 Int Script Int)), star [imA a_v_law_parts_here (v_law_parts_here : Any), F], rfl, Sep.unstar (M := [stA a_v_law_state (r1.2 : T3 Int Script Int)]) (hS.sel [0, 1, 2] (by decide) rfl : Sep H (([stA a_v_law_state (r1.2 : T3 Int Script Int)] ++ [imA a_v_law_parts_here (v_law_parts_here : Any), F] : List (Asn G)))), R.wp_mono (R.wp_bind hm) (fun r3 hm p4 H hS => ?_) (fun _ z => z)⟩
    have hS : Sep H ([imA p4 (r3.1 : Any), stA a_v_law_state (r3.2 : T3 Int Script Int), imA a_v_law_parts_here (v_law_parts_here : Any), F] : List (Asn G)) := Sep.star (M := [imA p4 (r3.1 : Any), stA a_v_law_state (r3.2 : T3 Int Script Int)]) hS
    refine c_cons ?_
    obtain ⟨h6, hm⟩ := R.wp_need hm
    refine ev_to (ev_repS ev_c ev_c h6) ?_
    refine c_cons ?_
    obtain ⟨h7, hm⟩ := R.wp_need hm
    refine ev_to (ev_repS ev_c ev_c h7) ?_
    refine c_cons ?_
    refine ev_to ev_c ?_
    refine c_cons ?_
    refine c_call ?_
    refine ea_to (ea_cons (ev_var rfl) ea_nil) ?_
    refine ⟨a_v_law_state, (r3.2 : (T3 Int Script Int)), star [imA p4 (r3.1 : Any), imA a_v_law_parts_here (v_law_parts_here : Any), F], rfl, Sep.unstar (M := [stA a_v_law_state (r3.2 : T3 Int Script Int)]) (hS.sel [1, 0, 2, 3] (by decide) rfl : Sep H (([stA a_v_law_state (r3.2 : T3 Int Script Int)] ++ [imA p4 (r3.1 : Any), imA a_v_law_parts_here (v_law_parts_here : Any), F] : List (Asn G)))), R.wp_mono (R.wp_bind hm) (fun r8 hm p9 H hS => ?_) (fun _ z => z)⟩
    have hS : Sep H ([imA p9 (r8.1 : Any), stA a_v_law_state (r8.2 : T3 Int Script Int), imA p4 (r3.1 : Any), imA a_v_law_parts_here (v_law_parts_here : Any), F] : List (Asn G)) := Sep.star (M := [imA p9 (r8.1 : Any), stA a_v_law_state (r8.2 : T3 Int Script Int)]) hS
    refine c_nil ?_
    refine k_lst (α := Any) (vs := [p4, (.str (repS ("t" : Str) (61 : Int).toNat)), (.str (repS ("b" : Str) (401 : Int).toNat)), (.int (10000)), p9]) (xs := [r3.1, (Any.str (repS ("t" : Str) (61 : Int).toNat)), (Any.str (repS ("b" : Str) (401 : Int).toNat)), (Any.int 10000), r8.1]) hS ⟨(hS.im (i := 2) rfl), ⟨(any_str.mpr rfl), ⟨(any_str.mpr rfl), ⟨(any_int.mpr rfl), ⟨(hS.im (i := 0) rfl), True.intro⟩⟩⟩⟩⟩ (by show 5 ≤ sizeLine; decide) fun p11 H hS => ?_
    refine fz_no ?_
    refine ev_to (ev_var rfl) ?_
    obtain ⟨x12, hx12, hm⟩ := wp_idx hm
    obtain ⟨vs13, hq14, hM15⟩ := hS.sq (i := 0) rfl
    obtain ⟨u16, hu17, hi18⟩ := atI_im hM15 hx12
    refine r_ixSq hq14 hu17 _ ?_
    have hS := hS.addIm (v := u16) (x := (x12 : Any)) hi18
    refine c_set (σ' := [some (.ref a_v_law_state), some a_v_law_parts_here, some (.int (y2)), some u16, none]) rfl ?_
    refine sq_nx ?_
    refine f_seq ?_
    refine f_if ?_
    obtain ⟨b20, hb20, hm⟩ := wp_eqA hm
    refine et_to (et_test (ev_eqA (ev_var rfl) ev_c (hS.im (i := 0) rfl) (any_str.mpr rfl) hb20)) ?_
    refine ifK_J (τ := Any) (fun (s21 : Any) (σ : L2.St) (H : Hp) => ∃ (a22 : V), σ = [some (.ref a_v_law_state), some a_v_law_parts_here, some (.int (y2)), some a22, none] ∧ Sep H ([imA a22 (s21 : Any), imA u16 (x12 : Any), lstA p11 ([r3.1, (Any.str (repS ("t" : Str) (61 : Int).toNat)), (Any.str (repS ("b" : Str) (401 : Int).toNat)), (Any.int 10000), r8.1] : (List Any)), imA p9 (r8.1 : Any), stA a_v_law_state (r8.2 : T3 Int Script Int), imA p4 (r3.1 : Any), imA a_v_law_parts_here (v_law_parts_here : Any), F] : List (Asn G))) hm (fun hb q hm nx => ?_) (fun hb q hm nx => ?_) (fun s21 σ H hm hI => ?_)
    ·
      refine c_asg ?_
      refine ev_to ev_c ?_
      have hS := hS.addIm (v := (.str (("-" : Str)))) (x := ((Any.str ("-" : Str)) : Any)) (any_str.mpr rfl)
      refine c_set (σ' := [some (.ref a_v_law_state), some a_v_law_parts_here, some (.int (y2)), some (.str (("-" : Str))), none]) rfl ?_
      exact nx _ _ _ hm ⟨_, rfl, hS.sel [0, 1, 2, 3, 4, 5, 6, 7] (by decide) rfl⟩
    ·
      refine st_nx ?_
      have hS := hS.addIm (hS.im (i := 0) rfl)
      exact nx _ _ _ hm ⟨_, rfl, hS.sel [1, 0, 2, 3, 4, 5, 6, 7] (by decide) rfl⟩
    · obtain ⟨a22, rfl, hS⟩ := hI
      refine sq_nx ?_
      refine f_seq ?_
      refine c_asg ?_
      refine c_fz ?_
      refine c_lst ?_
      refine c_cons ?_
      refine c_op ?_
      refine c_op ?_
      refine c_sl ?_
      refine ev_to (ev_var rfl) ?_
      obtain ⟨xs26, h27, hm⟩ := Ml.wp_asTup hm
      obtain ⟨h28, hm⟩ := R.wp_need hm
      refine eo_to eo_no ?_
      refine eo_to (eo_some (ev_var rfl)) ?_
      refine k_slA (xs := xs26) hS (tupE (hS.im (i := 6) rfl) h27) h28 fun p29 H hS => ?_
      refine c_tup ?_
      refine ea_to (ea_cons (ev_var rfl) ea_nil) ?_
      refine k_tupP (x := ((⟨s21⟩ : T1 _) : (T1 Any))) hS (fun H' p h s => mk1 (hS.im (i := 1) rfl) h s) (by show 1 ≤ sizeLine; decide) fun p31 H hS => ?_
      obtain ⟨u33, hT35, h34⟩ := im1 (hS.im (i := 0) rfl)
      obtain ⟨h36, hm⟩ := R.wp_need hm
      refine k_catA (xs := (cutL xs26 none (some (y2)))) (ys := [(⟨s21⟩ : T1 _).a]) hS (hS.im (i := 1) rfl) ((any_tup (xs := [(⟨s21⟩ : T1 _).a])).mpr ⟨_, _, rfl, hT35, ⟨h34, True.intro⟩⟩) h36 fun p37 H hS => ?_
      refine c_sl ?_
      refine ev_to (ev_var rfl) ?_
      obtain ⟨xs39, h40, hm⟩ := Ml.wp_asTup hm
      obtain ⟨h41, hm⟩ := R.wp_need hm
      refine eo_to (eo_some (ev_add (ev_var rfl) ev_c)) ?_
      refine eo_to eo_no ?_
      refine k_slA (xs := xs39) hS (tupE (hS.im (i := 9) rfl) h40) h41 fun p42 H hS => ?_
      obtain ⟨h44, hm⟩ := R.wp_need hm
      refine k_catA (xs := ((cutL xs26 none (some (y2))) ++ [(⟨s21⟩ : T1 _).a])) (ys := (cutL xs39 (some (y2 + 1)) none)) hS (hS.im (i := 1) rfl) (hS.im (i := 0) rfl) h44 fun p45 H hS => ?_
      refine c_cons ?_
      refine c_fz ?_
      refine c_cb ?_
      refine ea_to (ea_cons (ev_var rfl) ea_nil) ?_
      obtain ⟨xs48, h49, hm⟩ := Ml.wp_asTup hm
      refine k_listA (xs := xs48) hS (tupE (hS.im (i := 11) rfl) h49) fun p47 H hS => ?_
      refine fz_yes (xs := (xs48 : (List Any))) hS (i := 0) rfl fun H hS => ?_
      have hS : Sep H ([imA (.ref p47) (xs48 : (List Any)), imA p45 ((Any.tup (((cutL xs26 none (some (y2))) ++ [(⟨s21⟩ : T1 _).a]) ++ (cutL xs39 (some (y2 + 1)) none))) : Any), imA p42 ((Any.tup (cutL xs39 (some (y2 + 1)) none)) : Any), imA p37 ((Any.tup ((cutL xs26 none (some (y2))) ++ [(⟨s21⟩ : T1 _).a])) : Any), imA (.ref p31) ((⟨s21⟩ : T1 _) : (T1 Any)), imA p29 ((Any.tup (cutL xs26 none (some (y2)))) : Any), imA a22 (s21 : Any), imA u16 (x12 : Any), lstA p11 ([r3.1, (Any.str (repS ("t" : Str) (61 : Int).toNat)), (Any.str (repS ("b" : Str) (401 : Int).toNat)), (Any.int 10000), r8.1] : (List Any)), imA p9 (r8.1 : Any), stA a_v_law_state (r8.2 : T3 Int Script Int), imA p4 (r3.1 : Any), imA a_v_law_parts_here (v_law_parts_here : Any), F] : List (Asn G)) := hS
      refine c_cons ?_
      refine c_op ?_
      refine ev_to (ev_var rfl) ?_
      refine c_tup ?_
      refine ea_to (ea_cons ev_c ea_nil) ?_
      refine k_tupP (x := ((⟨("" : Str)⟩ : T1 _) : (T1 Str))) hS (fun H' p h s => mk1 rfl h s) (by show 1 ≤ sizeLine; decide) fun p51 H hS => ?_
      obtain ⟨xs53, h54, hm⟩ := Ml.wp_asTup hm
      obtain ⟨u55, hT57, h56⟩ := im1 (hS.im (i := 0) rfl)
      obtain rfl : u55 = (.str ((⟨("" : Str)⟩ : T1 _).a)) := h56
      obtain ⟨h58, hm⟩ := R.wp_need hm
      refine k_catA (xs := xs53) (ys := [(Any.str ((⟨("" : Str)⟩ : T1 _).a))]) hS (tupE (hS.im (i := 13) rfl) h54) ((any_tup (xs := [(Any.str ((⟨("" : Str)⟩ : T1 _).a))])).mpr ⟨_, _, rfl, hT57, ⟨(any_str.mpr rfl), True.intro⟩⟩) h58 fun p59 H hS => ?_
      refine c_cons ?_
      refine c_sl ?_
      refine ev_to (ev_var rfl) ?_
      obtain ⟨xs61, h62, hm⟩ := Ml.wp_asTup hm
      obtain ⟨h63, hm⟩ := R.wp_need hm
      refine eo_to eo_no ?_
      refine eo_to (eo_some ev_c) ?_
      refine k_slA (xs := xs61) hS (tupE (hS.im (i := 14) rfl) h62) h63 fun p64 H hS => ?_
      refine c_cons ?_
      refine ev_to ev_c ?_
      refine c_cons ?_
      refine c_tup ?_
      refine ea_to (ea_cons ev_c (ea_cons ev_c (ea_cons ev_c (ea_cons ev_c (ea_cons ev_c ea_nil))))) ?_
      refine k_tupA (vs := [(.str (("" : Str))), (.str (("" : Str))), (.str (("" : Str))), (.int (0)), (.str (("" : Str)))]) (xs := [(Any.str ("" : Str)), (Any.str ("" : Str)), (Any.str ("" : Str)), (Any.int 0), (Any.str ("" : Str))]) hS ⟨(any_str.mpr rfl), ⟨(any_str.mpr rfl), ⟨(any_str.mpr rfl), ⟨(any_int.mpr rfl), ⟨(any_str.mpr rfl), True.intro⟩⟩⟩⟩⟩ (by show 5 ≤ sizeLine; decide) fun p66 H hS => ?_
      refine c_nil ?_
      refine k_lst (α := Any) (vs := [p45, (.ref p47), p59, p64, .non, (.ref p66)]) (xs := [(Any.tup (((cutL xs26 none (some (y2))) ++ [(⟨s21⟩ : T1 _).a]) ++ (cutL xs39 (some (y2 + 1)) none))), (Any.lst xs48), (Any.tup (xs53 ++ [(Any.str ((⟨("" : Str)⟩ : T1 _).a))])), (Any.tup (cutL xs61 none (some (4)))), Any.non, (Any.tup [(Any.str ("" : Str)), (Any.str ("" : Str)), (Any.str ("" : Str)), (Any.int 0), (Any.str ("" : Str))])]) hS ⟨(hS.im (i := 5) rfl), ⟨(any_lstA (hS.im (i := 4) rfl)), ⟨(hS.im (i := 2) rfl), ⟨(hS.im (i := 1) rfl), ⟨(any_non.mpr rfl), ⟨(hS.im (i := 0) rfl), True.intro⟩⟩⟩⟩⟩⟩ (by show 6 ≤ sizeLine; decide) fun p68 H hS => ?_
      refine fz_no ?_
      obtain ⟨y69, hy69, hm⟩ := wp_let hm
      have hS : Sep H ([lstA p68 (y69 : (List Any)), imA (.ref p66) ((Any.tup [(Any.str ("" : Str)), (Any.str ("" : Str)), (Any.str ("" : Str)), (Any.int 0), (Any.str ("" : Str))]) : Any), imA p64 ((Any.tup (cutL xs61 none (some (4)))) : Any), imA p59 ((Any.tup (xs53 ++ [(Any.str ((⟨("" : Str)⟩ : T1 _).a))])) : Any), imA (.ref p51) ((⟨("" : Str)⟩ : T1 _) : (T1 Str)), imA (.ref p47) (xs48 : (List Any)), imA p45 ((Any.tup (((cutL xs26 none (some (y2))) ++ [(⟨s21⟩ : T1 _).a]) ++ (cutL xs39 (some (y2 + 1)) none))) : Any), imA p42 ((Any.tup (cutL xs39 (some (y2 + 1)) none)) : Any), imA p37 ((Any.tup ((cutL xs26 none (some (y2))) ++ [(⟨s21⟩ : T1 _).a])) : Any), imA (.ref p31) ((⟨s21⟩ : T1 _) : (T1 Any)), imA p29 ((Any.tup (cutL xs26 none (some (y2)))) : Any), imA a22 (s21 : Any), imA u16 (x12 : Any), lstA p11 ([r3.1, (Any.str (repS ("t" : Str) (61 : Int).toNat)), (Any.str (repS ("b" : Str) (401 : Int).toNat)), (Any.int 10000), r8.1] : (List Any)), imA p9 (r8.1 : Any), stA a_v_law_state (r8.2 : T3 Int Script Int), imA p4 (r3.1 : Any), imA a_v_law_parts_here (v_law_parts_here : Any), F] : List (Asn G)) := by rw [← hy69]; exact hS
      refine c_set (σ' := [some (.ref a_v_law_state), some a_v_law_parts_here, some (.int (y2)), some a22, some (.ref p68)]) rfl ?_
      refine sq_nx ?_
      refine c_ret ?_
      refine c_op ?_
      refine ev_to (ev_fz (ev_var rfl)) ?_
      refine c_op ?_
      refine c_call ?_
      refine ea_to (ea_cons (ev_var rfl) ea_nil) ?_
      refine ⟨a_v_law_state, (r8.2 : (T3 Int Script Int)), star [lstA p68 (y69 : (List Any)), imA (.ref p66) ((Any.tup [(Any.str ("" : Str)), (Any.str ("" : Str)), (Any.str ("" : Str)), (Any.int 0), (Any.str ("" : Str))]) : Any), imA p64 ((Any.tup (cutL xs61 none (some (4)))) : Any), imA p59 ((Any.tup (xs53 ++ [(Any.str ((⟨("" : Str)⟩ : T1 _).a))])) : Any), imA (.ref p51) ((⟨("" : Str)⟩ : T1 _) : (T1 Str)), imA (.ref p47) (xs48 : (List Any)), imA p45 ((Any.tup (((cutL xs26 none (some (y2))) ++ [(⟨s21⟩ : T1 _).a]) ++ (cutL xs39 (some (y2 + 1)) none))) : Any), imA p42 ((Any.tup (cutL xs39 (some (y2 + 1)) none)) : Any), imA p37 ((Any.tup ((cutL xs26 none (some (y2))) ++ [(⟨s21⟩ : T1 _).a])) : Any), imA (.ref p31) ((⟨s21⟩ : T1 _) : (T1 Any)), imA p29 ((Any.tup (cutL xs26 none (some (y2)))) : Any), imA a22 (s21 : Any), imA u16 (x12 : Any), lstA p11 ([r3.1, (Any.str (repS ("t" : Str) (61 : Int).toNat)), (Any.str (repS ("b" : Str) (401 : Int).toNat)), (Any.int 10000), r8.1] : (List Any)), imA p9 (r8.1 : Any), imA p4 (r3.1 : Any), imA a_v_law_parts_here (v_law_parts_here : Any), F], rfl, Sep.unstar (M := [stA a_v_law_state (r8.2 : T3 Int Script Int)]) (hS.sel [15, 0, 1, 2, 3, 4, 5, 6, 7, 8, 9, 10, 11, 12, 13, 14, 16, 17, 18] (by decide) rfl : Sep H (([stA a_v_law_state (r8.2 : T3 Int Script Int)] ++ [lstA p68 (y69 : (List Any)), imA (.ref p66) ((Any.tup [(Any.str ("" : Str)), (Any.str ("" : Str)), (Any.str ("" : Str)), (Any.int 0), (Any.str ("" : Str))]) : Any), imA p64 ((Any.tup (cutL xs61 none (some (4)))) : Any), imA p59 ((Any.tup (xs53 ++ [(Any.str ((⟨("" : Str)⟩ : T1 _).a))])) : Any), imA (.ref p51) ((⟨("" : Str)⟩ : T1 _) : (T1 Str)), imA (.ref p47) (xs48 : (List Any)), imA p45 ((Any.tup (((cutL xs26 none (some (y2))) ++ [(⟨s21⟩ : T1 _).a]) ++ (cutL xs39 (some (y2 + 1)) none))) : Any), imA p42 ((Any.tup (cutL xs39 (some (y2 + 1)) none)) : Any), imA p37 ((Any.tup ((cutL xs26 none (some (y2))) ++ [(⟨s21⟩ : T1 _).a])) : Any), imA (.ref p31) ((⟨s21⟩ : T1 _) : (T1 Any)), imA p29 ((Any.tup (cutL xs26 none (some (y2)))) : Any), imA a22 (s21 : Any), imA u16 (x12 : Any), lstA p11 ([r3.1, (Any.str (repS ("t" : Str) (61 : Int).toNat)), (Any.str (repS ("b" : Str) (401 : Int).toNat)), (Any.int 10000), r8.1] : (List Any)), imA p9 (r8.1 : Any), imA p4 (r3.1 : Any), imA a_v_law_parts_here (v_law_parts_here : Any), F] : List (Asn G)))), R.wp_mono (R.wp_bind hm) (fun r70 hm H hS => ?_) (fun _ z => z)⟩
      have hS : Sep H ([stA a_v_law_state (r70.2 : T3 Int Script Int), lstA p68 (y69 : (List Any)), imA (.ref p66) ((Any.tup [(Any.str ("" : Str)), (Any.str ("" : Str)), (Any.str ("" : Str)), (Any.int 0), (Any.str ("" : Str))]) : Any), imA p64 ((Any.tup (cutL xs61 none (some (4)))) : Any), imA p59 ((Any.tup (xs53 ++ [(Any.str ((⟨("" : Str)⟩ : T1 _).a))])) : Any), imA (.ref p51) ((⟨("" : Str)⟩ : T1 _) : (T1 Str)), imA (.ref p47) (xs48 : (List Any)), imA p45 ((Any.tup (((cutL xs26 none (some (y2))) ++ [(⟨s21⟩ : T1 _).a]) ++ (cutL xs39 (some (y2 + 1)) none))) : Any), imA p42 ((Any.tup (cutL xs39 (some (y2 + 1)) none)) : Any), imA p37 ((Any.tup ((cutL xs26 none (some (y2))) ++ [(⟨s21⟩ : T1 _).a])) : Any), imA (.ref p31) ((⟨s21⟩ : T1 _) : (T1 Any)), imA p29 ((Any.tup (cutL xs26 none (some (y2)))) : Any), imA a22 (s21 : Any), imA u16 (x12 : Any), lstA p11 ([r3.1, (Any.str (repS ("t" : Str) (61 : Int).toNat)), (Any.str (repS ("b" : Str) (401 : Int).toNat)), (Any.int 10000), r8.1] : (List Any)), imA p9 (r8.1 : Any), imA p4 (r3.1 : Any), imA a_v_law_parts_here (v_law_parts_here : Any), F] : List (Asn G)) := Sep.star (M := [stA a_v_law_state (r70.2 : T3 Int Script Int)]) hS
      refine ev_to ev_c ?_
      refine r_mod (by decide) ?_
      obtain ⟨x71, hx71, hm⟩ := wp_idx hm
      obtain ⟨vs72, hq73, hM74⟩ := hS.sq (i := 1) rfl
      obtain ⟨u75, hu76, hi77⟩ := atI_im hM74 hx71
      refine r_ixSq hq73 hu76 _ ?_
      have hS := hS.addIm (v := u75) (x := (x71 : Any)) hi77
      exact hm _ _ (hS.sel [0, 1, 19] (by decide) rfl)
def sp_law_no_deed (G : Gx) : Sp := fun vs H Q E => ∃ (a_v_law_state : Addr) (v_law_state : (T3 Int Script Int)) (a_v_law_deed_here : V) (v_law_deed_here : Any) (F : Asn G), vs = [.ref a_v_law_state, a_v_law_deed_here] ∧ Im.im G H a_v_law_deed_here v_law_deed_here ∧ Sep H ([stA a_v_law_state (v_law_state : T3 Int Script Int), F] : List (Asn G)) ∧ R.wp (m_law_no_deed v_law_state v_law_deed_here) (fun r => ∀ (p : V) H', Sep H' ([imA p (r.1 : Any), stA a_v_law_state (r.2 : T3 Int Script Int), F] : List (Asn G)) → Q p H') (fun _ => False)
abbrev N_law_no_deed : List Str := ["_law_state", "_law_deed_here", "_law_k"]
theorem sc_law_no_deed : FnScope N_law_no_deed ["_law_state", "_law_deed_here"] (defScope s_law_no_deed) := ⟨rfl, rfl, rfl, by decide +kernel, rfl, by decide +kernel, by decide +kernel⟩
theorem ok_law_no_deed (T : Txt G mg) : FnOk P w G.K mg base CX0 6 T.a_law_no_deed T.fd_law_no_deed ["_law_state", "_law_deed_here"] (sp_law_no_deed G) := by
  have nd := sc_law_no_deed.nd
  refine Fun.ok T.F_law_no_deed sc_law_no_deed (fun vs H Q E h => ?_) (fun cdv A outer s H vs Q E hr h => ?_)
  · obtain ⟨a_v_law_state, v_law_state, a_v_law_deed_here, v_law_deed_here, F, rfl, _⟩ := h; rfl
  · obtain ⟨a_v_law_state, v_law_state, a_v_law_deed_here, v_law_deed_here, F, rfl, him_v_law_deed_here, hS, hm⟩ := h
    have hS := hS.addIm him_v_law_deed_here
    refine ⟨_, (pss_cons (ps_set (i := 2) nd rfl (Or.inl rfl) (pe_op op_mod (pe_call (ok_law_next T) (hr.mono (by decide)) rfl T.g_law_next T.kp_law_next T.b_law_next .nil pass0 (pa_cons (pv 0) pa_nil)) (pe_callB (lenAnyK G.K) (by rfl) T.z_len PySem.boot_len (pa_cons (pv 1) pa_nil))))
      (pss_cons (ps_if (pt_cmpR op_eq (pv 2) pe_int (nomark _)) (pss_one (ps_ret (pe_op (catAK G.K) (pe_tup (pa_cons (pe_ix (ix_listK G.K) (pe_fz (pe_lst (pa_cons pe_str (pa_cons pe_str (pa_cons pe_str (pa_cons pe_str (pa_cons pe_non (pa_cons pe_int (pa_cons (pe_fz (pe_lst (pa_cons (pe_ix (ix_tupK G.K) (pv 1) pe_int (fun _ _ => rfl)) pa_nil))) (pa_cons pe_dnewK (pa_cons (pe_tup pa_nil) pa_nil))))))))))) (pe_op op_mod (pe_call (ok_law_next T) (hr.mono (by decide)) rfl T.g_law_next T.kp_law_next T.b_law_next .nil pass0 (pa_cons (pv 0) pa_nil)) pe_int) (fun _ _ => rfl)) pa_nil)) (pe_slice (sl_tupK G.K) (pv 1) (po_some pe_int) po_none)))) pss_nil)
      (pss_cons (ps_if (pt_cmpR op_eq (pv 2) pe_int (nomark _)) (pss_one (ps_ret (pe_op (catAK G.K) (pe_tup (pa_cons (pe_ix (ix_tupK G.K) (pv 1) pe_int (fun _ _ => rfl)) (pa_cons (pe_call (ok_law_no_word T) (hr.mono (by decide)) rfl T.g_law_no_word T.kp_law_no_word T.b_law_no_word .nil pass0 (pa_cons (pv 0) pa_nil)) pa_nil))) (pe_slice (sl_tupK G.K) (pv 1) (po_some pe_int) po_none)))) pss_nil)
      (pss_cons (ps_if (pt_cmpR op_eq (pv 2) pe_int (nomark _)) (pss_one (ps_ret (pe_op (catAK G.K) (pe_slice (sl_tupK G.K) (pv 1) po_none (po_some pe_int)) (pe_tup (pa_cons (pe_ix (ix_listK G.K) (pe_fz (pe_lst (pa_cons pe_int (pa_cons pe_int (pa_cons pe_non (pa_cons pe_str pa_nil)))))) (pe_op op_mod (pe_call (ok_law_next T) (hr.mono (by decide)) rfl T.g_law_next T.kp_law_next T.b_law_next .nil pass0 (pa_cons (pv 0) pa_nil)) pe_int) (fun _ _ => rfl)) pa_nil))))) pss_nil)
      (pss_cons (ps_if (pt_cmpR (eqDK G.K hr.units) (pe_ix (ix_tupK G.K) (pv 1) pe_int (fun _ _ => rfl)) pe_str (nomark _)) (pss_one (ps_ret (pe_op (catAK G.K) (pe_slice (sl_tupK G.K) (pv 1) po_none (po_some pe_int)) (pe_tup (pa_cons (pe_call (ok_law_no_parts T) (hr.mono (by decide)) rfl T.g_law_no_parts T.kp_law_no_parts T.b_law_no_parts .nil pass0 (pa_cons (pv 0) (pa_cons (pe_ix (ix_tupK G.K) (pv 1) pe_int (fun _ _ => rfl)) pa_nil))) pa_nil))))) pss_nil)
      (pss_one (ps_ret (pe_op (catAK G.K) (pe_op (catAK G.K) (pe_slice (sl_tupK G.K) (pv 1) po_none (po_some pe_int)) (pe_tup (pa_cons (pe_call (ok_law_no_word T) (hr.mono (by decide)) rfl T.g_law_no_word T.kp_law_no_word T.b_law_no_word .nil pass0 (pa_cons (pv 0) pa_nil)) pa_nil))) (pe_slice (sl_tupK G.K) (pv 1) (po_some pe_int) po_none))))))))), ?_⟩
    unfold m_law_no_deed at hm
    refine f_seq ?_
    refine c_asg ?_
    refine c_op ?_
    refine c_call ?_
    refine ea_to (ea_cons (ev_var rfl) ea_nil) ?_
    refine ⟨a_v_law_state, (v_law_state : (T3 Int Script Int)), star [imA a_v_law_deed_here (v_law_deed_here : Any), F], rfl, Sep.unstar (M := [stA a_v_law_state (v_law_state : T3 Int Script Int)]) (hS.sel [1, 0, 2] (by decide) rfl : Sep H (([stA a_v_law_state (v_law_state : T3 Int Script Int)] ++ [imA a_v_law_deed_here (v_law_deed_here : Any), F] : List (Asn G)))), R.wp_mono (R.wp_bind hm) (fun r1 hm H hS => ?_) (fun _ z => z)⟩
    have hS : Sep H ([stA a_v_law_state (r1.2 : T3 Int Script Int), imA a_v_law_deed_here (v_law_deed_here : Any), F] : List (Asn G)) := Sep.star (M := [stA a_v_law_state (r1.2 : T3 Int Script Int)]) hS
    obtain ⟨n2, hn2, hm⟩ := wp_lenA hm
    refine ev_to (ev_lenA (ev_var rfl) (hS.im (i := 1) rfl) hn2) ?_
    obtain ⟨h3, hm⟩ := R.wp_need hm
    refine r_mod h3 ?_
    obtain ⟨y4, hy4, hm⟩ := wp_let hm
    refine n_is (w := (.int (y4))) (by first | rw [hy4] | (subst hy4; rfl)) ?_
    refine c_set (σ' := [some (.ref a_v_law_state), some a_v_law_deed_here, some (.int (y4))]) rfl ?_
    refine sq_nx ?_
    refine f_seq ?_
    refine f_if ?_
    refine et_to (et_test (ev_eqI (ev_var rfl) ev_c)) ?_
    refine ifK_2 (fun hb5 => ?_) (fun hb5 => ?_)
    · have hm := R.wp_ifY hm hb5
      refine c_ret ?_
      refine c_op ?_
      refine c_tup ?_
      refine c_cons ?_
      refine c_op ?_
      refine c_fz ?_
      refine c_lst ?_
      refine c_cons ?_
      refine ev_to ev_c ?_
      refine c_cons ?_
      refine ev_to ev_c ?_
      refine c_cons ?_
      refine ev_to ev_c ?_
      refine c_cons ?_
      refine ev_to ev_c ?_
      refine c_cons ?_
      refine ev_to ev_c ?_
      refine c_cons ?_
      refine ev_to ev_c ?_
      refine c_cons ?_
      refine c_fz ?_
      refine c_lst ?_
      obtain ⟨xs6, h7, hm⟩ := Ml.wp_asTup hm
      obtain ⟨x8, hx8, hm⟩ := wp_idx hm
      obtain ⟨a9, vs10, he11, hg12, hM13⟩ := any_tupE (hS.im (i := 1) rfl) h7
      obtain ⟨u14, hu15, hi16⟩ := atI_im hM13 hx8
      refine ea_to (ea_cons (ev_ixT (ev_is (ev_var rfl) he11) ev_c hg12 hu15) ea_nil) ?_
      have hS := hS.addIm (v := u14) (x := (x8 : Any)) hi16
      refine k_lst (α := Any) (vs := [u14]) (xs := [x8]) hS ⟨(hS.im (i := 0) rfl), True.intro⟩ (by show 1 ≤ sizeLine; decide) fun p18 H hS => ?_
      refine fz_yes (xs := ([x8] : (List Any))) hS (i := 0) rfl fun H hS => ?_
      have hS : Sep H ([imA (.ref p18) ([x8] : (List Any)), imA u14 (x8 : Any), stA a_v_law_state (r1.2 : T3 Int Script Int), imA a_v_law_deed_here (v_law_deed_here : Any), F] : List (Asn G)) := hS
      refine c_cons ?_
      refine k_dnew (κ := Str) (β := Bool) hS fun p20 H hS => ?_
      refine c_cons ?_
      refine c_tup ?_
      refine ea_to ea_nil ?_
      refine k_tupA (vs := []) (xs := []) hS True.intro (by show 0 ≤ sizeLine; decide) fun p21 H hS => ?_
      refine c_nil ?_
      refine k_lst (α := Any) (vs := [(.str (("puts" : Str))), (.str (("Place" : Str))), (.str (("" : Str))), (.str (("marked" : Str))), .non, (.int (3)), (.ref p18), (.ref p20), (.ref p21)]) (xs := [(Any.str ("puts" : Str)), (Any.str ("Place" : Str)), (Any.str ("" : Str)), (Any.str ("marked" : Str)), Any.non, (Any.int 3), (Any.lst ([x8])), (Any.oth 1), (Any.tup [])]) hS ⟨(any_str.mpr rfl), ⟨(any_str.mpr rfl), ⟨(any_str.mpr rfl), ⟨(any_str.mpr rfl), ⟨(any_non.mpr rfl), ⟨(any_int.mpr rfl), ⟨(any_lstA (hS.im (i := 2) rfl)), ⟨(any_dict hS (i := 1) rfl), ⟨(hS.im (i := 0) rfl), True.intro⟩⟩⟩⟩⟩⟩⟩⟩⟩ (by show 9 ≤ sizeLine; decide) fun p23 H hS => ?_
      refine fz_no ?_
      refine c_op ?_
      refine c_call ?_
      refine ea_to (ea_cons (ev_var rfl) ea_nil) ?_
      refine ⟨a_v_law_state, (r1.2 : (T3 Int Script Int)), star [lstA p23 ([(Any.str ("puts" : Str)), (Any.str ("Place" : Str)), (Any.str ("" : Str)), (Any.str ("marked" : Str)), Any.non, (Any.int 3), (Any.lst ([x8])), (Any.oth 1), (Any.tup [])] : (List Any)), imA (.ref p21) ((Any.tup []) : Any), dictA p20 (([] : (List (Str × Bool))) : (List (Str × Bool))), imA (.ref p18) ([x8] : (List Any)), imA u14 (x8 : Any), imA a_v_law_deed_here (v_law_deed_here : Any), F], rfl, Sep.unstar (M := [stA a_v_law_state (r1.2 : T3 Int Script Int)]) (hS.sel [5, 0, 1, 2, 3, 4, 6, 7] (by decide) rfl : Sep H (([stA a_v_law_state (r1.2 : T3 Int Script Int)] ++ [lstA p23 ([(Any.str ("puts" : Str)), (Any.str ("Place" : Str)), (Any.str ("" : Str)), (Any.str ("marked" : Str)), Any.non, (Any.int 3), (Any.lst ([x8])), (Any.oth 1), (Any.tup [])] : (List Any)), imA (.ref p21) ((Any.tup []) : Any), dictA p20 (([] : (List (Str × Bool))) : (List (Str × Bool))), imA (.ref p18) ([x8] : (List Any)), imA u14 (x8 : Any), imA a_v_law_deed_here (v_law_deed_here : Any), F] : List (Asn G)))), R.wp_mono (R.wp_bind hm) (fun r24 hm H hS => ?_) (fun _ z => z)⟩
      have hS : Sep H ([stA a_v_law_state (r24.2 : T3 Int Script Int), lstA p23 ([(Any.str ("puts" : Str)), (Any.str ("Place" : Str)), (Any.str ("" : Str)), (Any.str ("marked" : Str)), Any.non, (Any.int 3), (Any.lst ([x8])), (Any.oth 1), (Any.tup [])] : (List Any)), imA (.ref p21) ((Any.tup []) : Any), dictA p20 (([] : (List (Str × Bool))) : (List (Str × Bool))), imA (.ref p18) ([x8] : (List Any)), imA u14 (x8 : Any), imA a_v_law_deed_here (v_law_deed_here : Any), F] : List (Asn G)) := Sep.star (M := [stA a_v_law_state (r24.2 : T3 Int Script Int)]) hS
      refine ev_to ev_c ?_
      refine r_mod (by decide) ?_
      obtain ⟨x25, hx25, hm⟩ := wp_idx hm
      obtain ⟨vs26, hq27, hM28⟩ := hS.sq (i := 1) rfl
      obtain ⟨u29, hu30, hi31⟩ := atI_im hM28 hx25
      refine r_ixSq hq27 hu30 _ ?_
      have hS := hS.addIm (v := u29) (x := (x25 : Any)) hi31
      refine c_nil ?_
      refine k_tupP (x := ((⟨x25⟩ : T1 _) : (T1 Any))) hS (fun H' p h s => mk1 (hS.im (i := 0) rfl) h s) (by show 1 ≤ sizeLine; decide) fun p33 H hS => ?_
      refine c_sl ?_
      refine ev_to (ev_var rfl) ?_
      obtain ⟨xs35, h36, hm⟩ := Ml.wp_asTup hm
      obtain ⟨h37, hm⟩ := R.wp_need hm
      refine eo_to (eo_some ev_c) ?_
      refine eo_to eo_no ?_
      refine k_slA (xs := xs35) hS (tupE (hS.im (i := 8) rfl) h36) h37 fun p38 H hS => ?_
      obtain ⟨u40, hT42, h41⟩ := im1 (hS.im (i := 1) rfl)
      obtain ⟨h43, hm⟩ := R.wp_need hm
      refine k_catA (xs := [(⟨x25⟩ : T1 _).a]) (ys := (cutL xs35 (some (1)) none)) hS ((any_tup (xs := [(⟨x25⟩ : T1 _).a])).mpr ⟨_, _, rfl, hT42, ⟨h41, True.intro⟩⟩) (hS.im (i := 0) rfl) h43 fun p44 H hS => ?_
      exact hm _ _ (hS.sel [0, 4, 11] (by decide) rfl)
    · have hm := R.wp_ifN hm (by first | (rw [hb5]; decide) | simpa using hb5)
      refine st_nx ?_
      refine sq_nx ?_
      refine f_seq ?_
      refine f_if ?_
      refine et_to (et_test (ev_eqI (ev_var rfl) ev_c)) ?_
      refine ifK_2 (fun hb46 => ?_) (fun hb46 => ?_)
      · have hm := R.wp_ifY hm hb46
        refine c_ret ?_
        refine c_op ?_
        refine c_tup ?_
        refine c_cons ?_
        obtain ⟨xs47, h48, hm⟩ := Ml.wp_asTup hm
        obtain ⟨x49, hx49, hm⟩ := wp_idx hm
        obtain ⟨a50, vs51, he52, hg53, hM54⟩ := any_tupE (hS.im (i := 1) rfl) h48
        obtain ⟨u55, hu56, hi57⟩ := atI_im hM54 hx49
        refine ev_to (ev_ixT (ev_is (ev_var rfl) he52) ev_c hg53 hu56) ?_
        have hS := hS.addIm (v := u55) (x := (x49 : Any)) hi57
        refine c_cons ?_
        refine c_call ?_
        refine ea_to (ea_cons (ev_var rfl) ea_nil) ?_
        refine ⟨a_v_law_state, (r1.2 : (T3 Int Script Int)), star [imA u55 (x49 : Any), imA a_v_law_deed_here (v_law_deed_here : Any), F], rfl, Sep.unstar (M := [stA a_v_law_state (r1.2 : T3 Int Script Int)]) (hS.sel [1, 0, 2, 3] (by decide) rfl : Sep H (([stA a_v_law_state (r1.2 : T3 Int Script Int)] ++ [imA u55 (x49 : Any), imA a_v_law_deed_here (v_law_deed_here : Any), F] : List (Asn G)))), R.wp_mono (R.wp_bind hm) (fun r59 hm p60 H hS => ?_) (fun _ z => z)⟩
        have hS : Sep H ([imA p60 (r59.1 : Any), stA a_v_law_state (r59.2 : T3 Int Script Int), imA u55 (x49 : Any), imA a_v_law_deed_here (v_law_deed_here : Any), F] : List (Asn G)) := Sep.star (M := [imA p60 (r59.1 : Any), stA a_v_law_state (r59.2 : T3 Int Script Int)]) hS
        refine c_nil ?_
        refine k_tupP (x := ((x49, r59.1) : (Any × Any))) hS (fun H' p h s => mk2 (hS.im (i := 2) rfl) (hS.im (i := 0) rfl) h s) (by show 2 ≤ sizeLine; decide) fun p62 H hS => ?_
        refine c_sl ?_
        refine ev_to (ev_var rfl) ?_
        obtain ⟨xs64, h65, hm⟩ := Ml.wp_asTup hm
        obtain ⟨h66, hm⟩ := R.wp_need hm
        refine eo_to (eo_some ev_c) ?_
        refine eo_to eo_no ?_
        refine k_slA (xs := xs64) hS (tupE (hS.im (i := 4) rfl) h65) h66 fun p67 H hS => ?_
        obtain ⟨u69, u70, hT73, h71, h72⟩ := im2 (hS.im (i := 1) rfl)
        obtain ⟨h74, hm⟩ := R.wp_need hm
        refine k_catA (xs := [(x49, r59.1).1, (x49, r59.1).2]) (ys := (cutL xs64 (some (2)) none)) hS ((any_tup (xs := [(x49, r59.1).1, (x49, r59.1).2])).mpr ⟨_, _, rfl, hT73, ⟨h71, ⟨h72, True.intro⟩⟩⟩) (hS.im (i := 0) rfl) h74 fun p75 H hS => ?_
        exact hm _ _ (hS.sel [0, 4, 7] (by decide) rfl)
      · have hm := R.wp_ifN hm (by first | (rw [hb46]; decide) | simpa using hb46)
        refine st_nx ?_
        refine sq_nx ?_
        refine f_seq ?_
        refine f_if ?_
        refine et_to (et_test (ev_eqI (ev_var rfl) ev_c)) ?_
        refine ifK_2 (fun hb77 => ?_) (fun hb77 => ?_)
        · have hm := R.wp_ifY hm hb77
          refine c_ret ?_
          refine c_op ?_
          refine c_sl ?_
          refine ev_to (ev_var rfl) ?_
          obtain ⟨xs78, h79, hm⟩ := Ml.wp_asTup hm
          obtain ⟨h80, hm⟩ := R.wp_need hm
          refine eo_to eo_no ?_
          refine eo_to (eo_some ev_c) ?_
          refine k_slA (xs := xs78) hS (tupE (hS.im (i := 1) rfl) h79) h80 fun p81 H hS => ?_
          refine c_tup ?_
          refine c_cons ?_
          refine c_op ?_
          refine c_fz ?_
          refine c_lst ?_
          refine ea_to (ea_cons ev_c (ea_cons ev_c (ea_cons ev_c (ea_cons ev_c ea_nil)))) ?_
          refine k_lst (α := Any) (vs := [(.int (1)), (.int (0)), .non, (.str (("True" : Str)))]) (xs := [(Any.int 1), (Any.int 0), Any.non, (Any.str ("True" : Str))]) hS ⟨(any_int.mpr rfl), ⟨(any_int.mpr rfl), ⟨(any_non.mpr rfl), ⟨(any_str.mpr rfl), True.intro⟩⟩⟩⟩ (by show 4 ≤ sizeLine; decide) fun p83 H hS => ?_
          refine fz_no ?_
          refine c_op ?_
          refine c_call ?_
          refine ea_to (ea_cons (ev_var rfl) ea_nil) ?_
          refine ⟨a_v_law_state, (r1.2 : (T3 Int Script Int)), star [lstA p83 ([(Any.int 1), (Any.int 0), Any.non, (Any.str ("True" : Str))] : (List Any)), imA p81 ((Any.tup (cutL xs78 none (some (3)))) : Any), imA a_v_law_deed_here (v_law_deed_here : Any), F], rfl, Sep.unstar (M := [stA a_v_law_state (r1.2 : T3 Int Script Int)]) (hS.sel [2, 0, 1, 3, 4] (by decide) rfl : Sep H (([stA a_v_law_state (r1.2 : T3 Int Script Int)] ++ [lstA p83 ([(Any.int 1), (Any.int 0), Any.non, (Any.str ("True" : Str))] : (List Any)), imA p81 ((Any.tup (cutL xs78 none (some (3)))) : Any), imA a_v_law_deed_here (v_law_deed_here : Any), F] : List (Asn G)))), R.wp_mono (R.wp_bind hm) (fun r84 hm H hS => ?_) (fun _ z => z)⟩
          have hS : Sep H ([stA a_v_law_state (r84.2 : T3 Int Script Int), lstA p83 ([(Any.int 1), (Any.int 0), Any.non, (Any.str ("True" : Str))] : (List Any)), imA p81 ((Any.tup (cutL xs78 none (some (3)))) : Any), imA a_v_law_deed_here (v_law_deed_here : Any), F] : List (Asn G)) := Sep.star (M := [stA a_v_law_state (r84.2 : T3 Int Script Int)]) hS
          refine ev_to ev_c ?_
          refine r_mod (by decide) ?_
          obtain ⟨x85, hx85, hm⟩ := wp_idx hm
          obtain ⟨vs86, hq87, hM88⟩ := hS.sq (i := 1) rfl
          obtain ⟨u89, hu90, hi91⟩ := atI_im hM88 hx85
          refine r_ixSq hq87 hu90 _ ?_
          have hS := hS.addIm (v := u89) (x := (x85 : Any)) hi91
          refine c_nil ?_
          refine k_tupP (x := ((⟨x85⟩ : T1 _) : (T1 Any))) hS (fun H' p h s => mk1 (hS.im (i := 0) rfl) h s) (by show 1 ≤ sizeLine; decide) fun p93 H hS => ?_
          obtain ⟨u95, hT97, h96⟩ := im1 (hS.im (i := 0) rfl)
          obtain ⟨h98, hm⟩ := R.wp_need hm
          refine k_catA (xs := (cutL xs78 none (some (3)))) (ys := [(⟨x85⟩ : T1 _).a]) hS (hS.im (i := 4) rfl) ((any_tup (xs := [(⟨x85⟩ : T1 _).a])).mpr ⟨_, _, rfl, hT97, ⟨h96, True.intro⟩⟩) h98 fun p99 H hS => ?_
          exact hm _ _ (hS.sel [0, 3, 7] (by decide) rfl)
        · have hm := R.wp_ifN hm (by first | (rw [hb77]; decide) | simpa using hb77)
          refine st_nx ?_
          refine sq_nx ?_
          refine f_seq ?_
          refine f_if ?_
          obtain ⟨xs101, h102, hm⟩ := Ml.wp_asTup hm
          obtain ⟨x103, hx103, hm⟩ := wp_idx hm
          obtain ⟨a104, vs105, he106, hg107, hM108⟩ := any_tupE (hS.im (i := 1) rfl) h102
          obtain ⟨u109, hu110, hi111⟩ := atI_im hM108 hx103
          obtain ⟨b112, hb112, hm⟩ := wp_eqA hm
          refine et_to (et_test (ev_eqA (ev_ixT (ev_is (ev_var rfl) he106) ev_c hg107 hu110) ev_c hi111 (any_str.mpr rfl) hb112)) ?_
          refine ifK_2 (fun hb113 => ?_) (fun hb113 => ?_)
          · have hm := R.wp_ifY hm hb113
            refine c_ret ?_
            refine c_op ?_
            refine c_sl ?_
            refine ev_to (ev_var rfl) ?_
            obtain ⟨xs114, h115, hm⟩ := Ml.wp_asTup hm
            obtain ⟨h116, hm⟩ := R.wp_need hm
            refine eo_to eo_no ?_
            refine eo_to (eo_some ev_c) ?_
            refine k_slA (xs := xs114) hS (tupE (hS.im (i := 1) rfl) h115) h116 fun p117 H hS => ?_
            refine c_tup ?_
            refine c_cons ?_
            refine c_call ?_
            obtain ⟨xs119, h120, hm⟩ := Ml.wp_asTup hm
            obtain ⟨x121, hx121, hm⟩ := wp_idx hm
            obtain ⟨a122, vs123, he124, hg125, hM126⟩ := any_tupE (hS.im (i := 2) rfl) h120
            obtain ⟨u127, hu128, hi129⟩ := atI_im hM126 hx121
            refine ea_to (ea_cons (ev_var rfl) (ea_cons (ev_ixT (ev_is (ev_var rfl) he124) ev_c hg125 hu128) ea_nil)) ?_
            have hS := hS.addIm (v := u127) (x := (x121 : Any)) hi129
            refine ⟨a_v_law_state, (r1.2 : (T3 Int Script Int)), u127, (x121 : Any), star [imA u127 (x121 : Any), imA p117 ((Any.tup (cutL xs114 none (some (2)))) : Any), imA a_v_law_deed_here (v_law_deed_here : Any), F], rfl, (hS.im (i := 0) rfl), Sep.unstar (M := [stA a_v_law_state (r1.2 : T3 Int Script Int)]) (hS.sel [2, 0, 1, 3, 4] (by decide) rfl : Sep H (([stA a_v_law_state (r1.2 : T3 Int Script Int)] ++ [imA u127 (x121 : Any), imA p117 ((Any.tup (cutL xs114 none (some (2)))) : Any), imA a_v_law_deed_here (v_law_deed_here : Any), F] : List (Asn G)))), R.wp_mono (R.wp_bind hm) (fun r131 hm p132 H hS => ?_) (fun _ z => z)⟩
            have hS : Sep H ([imA p132 (r131.1 : Any), stA a_v_law_state (r131.2 : T3 Int Script Int), imA u127 (x121 : Any), imA p117 ((Any.tup (cutL xs114 none (some (2)))) : Any), imA a_v_law_deed_here (v_law_deed_here : Any), F] : List (Asn G)) := Sep.star (M := [imA p132 (r131.1 : Any), stA a_v_law_state (r131.2 : T3 Int Script Int)]) hS
            refine c_nil ?_
            refine k_tupP (x := ((⟨r131.1⟩ : T1 _) : (T1 Any))) hS (fun H' p h s => mk1 (hS.im (i := 0) rfl) h s) (by show 1 ≤ sizeLine; decide) fun p134 H hS => ?_
            obtain ⟨u136, hT138, h137⟩ := im1 (hS.im (i := 0) rfl)
            obtain ⟨h139, hm⟩ := R.wp_need hm
            refine k_catA (xs := (cutL xs114 none (some (2)))) (ys := [(⟨r131.1⟩ : T1 _).a]) hS (hS.im (i := 4) rfl) ((any_tup (xs := [(⟨r131.1⟩ : T1 _).a])).mpr ⟨_, _, rfl, hT138, ⟨h137, True.intro⟩⟩) h139 fun p140 H hS => ?_
            exact hm _ _ (hS.sel [0, 3, 7] (by decide) rfl)
          · have hm := R.wp_ifN hm (by first | (rw [hb113]; decide) | simpa using hb113)
            refine st_nx ?_
            refine sq_nx ?_
            refine c_ret ?_
            refine c_op ?_
            refine c_op ?_
            refine c_sl ?_
            refine ev_to (ev_var rfl) ?_
            obtain ⟨xs142, h143, hm⟩ := Ml.wp_asTup hm
            obtain ⟨h144, hm⟩ := R.wp_need hm
            refine eo_to eo_no ?_
            refine eo_to (eo_some ev_c) ?_
            refine k_slA (xs := xs142) hS (tupE (hS.im (i := 1) rfl) h143) h144 fun p145 H hS => ?_
            refine c_tup ?_
            refine c_cons ?_
            refine c_call ?_
            refine ea_to (ea_cons (ev_var rfl) ea_nil) ?_
            refine ⟨a_v_law_state, (r1.2 : (T3 Int Script Int)), star [imA p145 ((Any.tup (cutL xs142 none (some (2)))) : Any), imA a_v_law_deed_here (v_law_deed_here : Any), F], rfl, Sep.unstar (M := [stA a_v_law_state (r1.2 : T3 Int Script Int)]) (hS.sel [1, 0, 2, 3] (by decide) rfl : Sep H (([stA a_v_law_state (r1.2 : T3 Int Script Int)] ++ [imA p145 ((Any.tup (cutL xs142 none (some (2)))) : Any), imA a_v_law_deed_here (v_law_deed_here : Any), F] : List (Asn G)))), R.wp_mono (R.wp_bind hm) (fun r147 hm p148 H hS => ?_) (fun _ z => z)⟩
            have hS : Sep H ([imA p148 (r147.1 : Any), stA a_v_law_state (r147.2 : T3 Int Script Int), imA p145 ((Any.tup (cutL xs142 none (some (2)))) : Any), imA a_v_law_deed_here (v_law_deed_here : Any), F] : List (Asn G)) := Sep.star (M := [imA p148 (r147.1 : Any), stA a_v_law_state (r147.2 : T3 Int Script Int)]) hS
            refine c_nil ?_
            refine k_tupP (x := ((⟨r147.1⟩ : T1 _) : (T1 Any))) hS (fun H' p h s => mk1 (hS.im (i := 0) rfl) h s) (by show 1 ≤ sizeLine; decide) fun p150 H hS => ?_
            obtain ⟨u152, hT154, h153⟩ := im1 (hS.im (i := 0) rfl)
            obtain ⟨h155, hm⟩ := R.wp_need hm
            refine k_catA (xs := (cutL xs142 none (some (2)))) (ys := [(⟨r147.1⟩ : T1 _).a]) hS (hS.im (i := 3) rfl) ((any_tup (xs := [(⟨r147.1⟩ : T1 _).a])).mpr ⟨_, _, rfl, hT154, ⟨h153, True.intro⟩⟩) h155 fun p156 H hS => ?_
            refine c_sl ?_
            refine ev_to (ev_var rfl) ?_
            obtain ⟨xs158, h159, hm⟩ := Ml.wp_asTup hm
            obtain ⟨h160, hm⟩ := R.wp_need hm
            refine eo_to (eo_some ev_c) ?_
            refine eo_to eo_no ?_
            refine k_slA (xs := xs158) hS (tupE (hS.im (i := 5) rfl) h159) h160 fun p161 H hS => ?_
            obtain ⟨h163, hm⟩ := R.wp_need hm
            refine k_catA (xs := ((cutL xs142 none (some (2))) ++ [(⟨r147.1⟩ : T1 _).a])) (ys := (cutL xs158 (some (3)) none)) hS (hS.im (i := 1) rfl) (hS.im (i := 0) rfl) h163 fun p164 H hS => ?_
            exact hm _ _ (hS.sel [0, 5, 8] (by decide) rfl)
def sp_law_odd (G : Gx) : Sp := fun vs H Q E => ∃ (a_v_law_state : Addr) (v_law_state : (T3 Int Script Int)) (v_law_hand : Str) (v_law_puts : Int) (F : Asn G), vs = [.ref a_v_law_state, (.str (v_law_hand)), (.int (v_law_puts))] ∧ Sep H ([stA a_v_law_state (v_law_state : T3 Int Script Int), F] : List (Asn G)) ∧ R.wp (m_law_odd v_law_state v_law_hand v_law_puts) (fun r => ∀ (p : V) H', Sep H' ([imA p (r.1 : Any), stA a_v_law_state (r.2 : T3 Int Script Int), F] : List (Asn G)) → Q p H') (fun _ => False)
abbrev N_law_odd : List Str := ["_law_state", "_law_hand", "_law_puts", "_law_parts_here", "_law_some"]
theorem sc_law_odd : FnScope N_law_odd ["_law_state", "_law_hand", "_law_puts"] (defScope s_law_odd) := ⟨rfl, rfl, rfl, by decide +kernel, rfl, by decide +kernel, by decide +kernel⟩
theorem ok_law_odd (T : Txt G mg) : FnOk P w G.K mg base CX0 7 T.a_law_odd T.fd_law_odd ["_law_state", "_law_hand", "_law_puts"] (sp_law_odd G) := by
  have nd := sc_law_odd.nd
  refine Fun.ok T.F_law_odd sc_law_odd (fun vs H Q E h => ?_) (fun cdv A outer s H vs Q E hr h => ?_)
  · obtain ⟨a_v_law_state, v_law_state, v_law_hand, v_law_puts, F, rfl, _⟩ := h; rfl
  · obtain ⟨a_v_law_state, v_law_state, v_law_hand, v_law_puts, F, rfl, hS, hm⟩ := h
    refine ⟨_, (pss_cons (ps_set (i := 3) nd rfl (Or.inl rfl) (pe_call (ok_law_parts T) (hr.mono (by decide)) rfl T.g_law_parts T.kp_law_parts T.b_law_parts .nil pass0 (pa_cons (pv 0) pa_nil)))
      (pss_cons (ps_set (i := 4) nd rfl (Or.inl rfl) (pe_fz (pe_lst (pa_cons (pe_tup (pa_cons pe_str (pa_cons (pe_op op_catS (pv 1) (pe_callTy call_str_int (by rfl) T.z_str (by decide +kernel) (pa_cons (pe_op op_add (pv 2) pe_int) pa_nil))) (pa_cons (pv 3) pa_nil)))) (pa_cons (pe_tup (pa_cons pe_str (pa_cons (pe_op op_catS (pv 1) (pe_callTy call_str_int (by rfl) T.z_str (by decide +kernel) (pa_cons (pv 2) pa_nil))) (pa_cons (pv 3) pa_nil)))) (pa_cons (pe_tup (pa_cons pe_str (pa_cons (pe_op op_catS pe_str (pv 1)) (pa_cons (pv 3) pa_nil)))) pa_nil))))))
      (pss_cons (ps_set (i := 4) nd rfl (Or.inl rfl) (pe_fz (pe_op op_catR (pe_fz (pv 4)) (pe_fz (pe_lst (pa_cons (pe_tup (pa_cons pe_str (pa_cons (pe_op op_catS (pe_op op_catS (pv 1) pe_str) (pe_callTy call_str_int (by rfl) T.z_str (by decide +kernel) (pa_cons (pe_op op_add (pv 2) pe_int) pa_nil))) (pa_cons (pv 3) pa_nil)))) (pa_cons (pe_tup (pa_cons pe_str (pa_cons (pe_op op_catS (pv 1) (pe_callTy call_str_int (by rfl) T.z_str (by decide +kernel) (pa_cons (pe_op op_add (pv 2) pe_int) pa_nil))) (pa_cons (pe_fz (pe_callTy (listSqK G.K) (by rfl) T.z_list (by decide +kernel) (pa_cons (pv 3) pa_nil))) pa_nil)))) pa_nil)))))))
      (pss_cons (ps_set (i := 4) nd rfl (Or.inl rfl) (pe_fz (pe_op op_catR (pe_fz (pv 4)) (pe_fz (pe_lst (pa_cons (pe_tup (pa_cons pe_str (pa_cons (pe_op op_catS (pv 1) pe_str) pa_nil))) (pa_cons (pe_tup (pa_cons pe_str (pa_cons (pe_op op_catS (pv 1) pe_str) (pa_cons pe_str (pa_cons pe_int pa_nil))))) (pa_cons (pe_fz (pe_lst (pa_cons pe_str (pa_cons (pe_op op_catS (pv 1) pe_str) pa_nil)))) (pa_cons pe_non (pa_cons (pe_tup (pa_cons pe_str (pa_cons pe_str pa_nil))) pa_nil))))))))))
      (pss_cons (ps_set (i := 4) nd rfl (Or.inl rfl) (pe_fz (pe_op op_catR (pe_fz (pv 4)) (pe_fz (pe_lst (pa_cons (pe_tup (pa_cons pe_str (pa_cons (pe_op op_catS (pe_op op_catS (pv 1) pe_str) (pe_callTy call_str_int (by rfl) T.z_str (by decide +kernel) (pa_cons (pe_op op_add (pv 2) pe_int) pa_nil))) (pa_cons (pv 3) pa_nil)))) (pa_cons (pe_call (ok_law_no_deed T) (hr.mono (by decide)) rfl T.g_law_no_deed T.kp_law_no_deed T.b_law_no_deed .nil pass0 (pa_cons (pv 0) (pa_cons (pe_call (ok_law_deed T) (hr.mono (by decide)) rfl T.g_law_deed T.kp_law_deed T.b_law_deed .nil pass0 (pa_cons (pv 0) (pa_cons (pe_fz (pe_lst pa_nil)) (pa_cons (pv 1) (pa_cons (pv 2) pa_nil))))) pa_nil))) pa_nil)))))))
      (pss_one (ps_ret (pe_ix (ix_listK G.K) (pe_fz (pv 4)) (pe_ix (ix_listK G.K) (pe_fz (pe_lst (pa_cons (pe_op op_mod (pe_call (ok_law_next T) (hr.mono (by decide)) rfl T.g_law_next T.kp_law_next T.b_law_next .nil pass0 (pa_cons (pv 0) pa_nil)) pe_int) (pa_cons pe_int pa_nil)))) (pe_op op_mod (pe_call (ok_law_next T) (hr.mono (by decide)) rfl T.g_law_next T.kp_law_next T.b_law_next .nil pass0 (pa_cons (pv 0) pa_nil)) pe_int) (fun _ _ => rfl)) (fun _ _ => rfl))))))))), ?_⟩
    unfold m_law_odd at hm
    refine f_seq ?_
    refine c_asg ?_
    refine c_call ?_
    refine ea_to (ea_cons (ev_var rfl) ea_nil) ?_
    refine ⟨a_v_law_state, (v_law_state : (T3 Int Script Int)), star [F], rfl, Sep.unstar (M := [stA a_v_law_state (v_law_state : T3 Int Script Int)]) (hS.sel [0, 1] (by decide) rfl : Sep H (([stA a_v_law_state (v_law_state : T3 Int Script Int)] ++ [F] : List (Asn G)))), R.wp_mono (R.wp_bind hm) (fun r1 hm p2 H hS => ?_) (fun _ z => z)⟩
    have hS : Sep H ([imA (.ref p2) (r1.1 : (T5 Str Str Str Int Str)), stA a_v_law_state (r1.2 : T3 Int Script Int), F] : List (Asn G)) := Sep.star (M := [imA (.ref p2) (r1.1 : (T5 Str Str Str Int Str)), stA a_v_law_state (r1.2 : T3 Int Script Int)]) hS
    refine c_set (σ' := [some (.ref a_v_law_state), some (.str (v_law_hand)), some (.int (v_law_puts)), some (.ref p2), none]) rfl ?_
    refine sq_nx ?_
    refine f_seq ?_
    refine c_asg ?_
    refine c_fz ?_
    refine c_lst ?_
    refine c_cons ?_
    refine c_tup ?_
    obtain ⟨h4, hm⟩ := R.wp_need hm
    obtain ⟨h5, hm⟩ := R.wp_need hm
    refine ea_to (ea_cons ev_c (ea_cons (ev_catS (ev_var rfl) (ev_cb (ea_cons (ev_add (ev_var rfl) ev_c) ea_nil) fun _ q => ⟨_, rfl, h4, q⟩) h5) (ea_cons (ev_var rfl) ea_nil))) ?_
    obtain ⟨u6, u7, u8, u9, u10, hT16, h11, h12, h13, h14, h15⟩ := im5 (hS.im (i := 0) rfl)
    obtain rfl : u6 = (.str (r1.1.a)) := h11
    obtain rfl : u7 = (.str (r1.1.b)) := h12
    obtain rfl : u8 = (.str (r1.1.c)) := h13
    obtain rfl : u9 = (.int (r1.1.d)) := h14
    obtain rfl : u10 = (.str (r1.1.e)) := h15
    refine k_tupA (vs := [(.str (("put" : Str))), (.str (v_law_hand ++ (Str.ofString (toString (v_law_puts + 2 : Int))))), (.ref p2)]) (xs := [(Any.str ("put" : Str)), (Any.str (v_law_hand ++ (Str.ofString (toString (v_law_puts + 2 : Int))))), (Any.tup [(Any.str r1.1.a), (Any.str r1.1.b), (Any.str r1.1.c), (Any.int r1.1.d), (Any.str r1.1.e)])]) hS ⟨(any_str.mpr rfl), ⟨(any_str.mpr rfl), ⟨((any_tup (xs := [(Any.str r1.1.a), (Any.str r1.1.b), (Any.str r1.1.c), (Any.int r1.1.d), (Any.str r1.1.e)])).mpr ⟨_, _, rfl, hT16, ⟨(any_str.mpr rfl), ⟨(any_str.mpr rfl), ⟨(any_str.mpr rfl), ⟨(any_int.mpr rfl), ⟨(any_str.mpr rfl), True.intro⟩⟩⟩⟩⟩⟩), True.intro⟩⟩⟩ (by show 3 ≤ sizeLine; decide) fun p17 H hS => ?_
    refine c_cons ?_
    refine c_tup ?_
    obtain ⟨h19, hm⟩ := R.wp_need hm
    obtain ⟨h20, hm⟩ := R.wp_need hm
    refine ea_to (ea_cons ev_c (ea_cons (ev_catS (ev_var rfl) (ev_cb (ea_cons (ev_var rfl) ea_nil) fun _ q => ⟨_, rfl, h19, q⟩) h20) (ea_cons (ev_var rfl) ea_nil))) ?_
    obtain ⟨u21, u22, u23, u24, u25, hT31, h26, h27, h28, h29, h30⟩ := im5 (hS.im (i := 1) rfl)
    obtain rfl : u21 = (.str (r1.1.a)) := h26
    obtain rfl : u22 = (.str (r1.1.b)) := h27
    obtain rfl : u23 = (.str (r1.1.c)) := h28
    obtain rfl : u24 = (.int (r1.1.d)) := h29
    obtain rfl : u25 = (.str (r1.1.e)) := h30
    refine k_tupA (vs := [(.str (("put" : Str))), (.str (v_law_hand ++ (Str.ofString (toString (v_law_puts : Int))))), (.ref p2)]) (xs := [(Any.str ("put" : Str)), (Any.str (v_law_hand ++ (Str.ofString (toString (v_law_puts : Int))))), (Any.tup [(Any.str r1.1.a), (Any.str r1.1.b), (Any.str r1.1.c), (Any.int r1.1.d), (Any.str r1.1.e)])]) hS ⟨(any_str.mpr rfl), ⟨(any_str.mpr rfl), ⟨((any_tup (xs := [(Any.str r1.1.a), (Any.str r1.1.b), (Any.str r1.1.c), (Any.int r1.1.d), (Any.str r1.1.e)])).mpr ⟨_, _, rfl, hT31, ⟨(any_str.mpr rfl), ⟨(any_str.mpr rfl), ⟨(any_str.mpr rfl), ⟨(any_int.mpr rfl), ⟨(any_str.mpr rfl), True.intro⟩⟩⟩⟩⟩⟩), True.intro⟩⟩⟩ (by show 3 ≤ sizeLine; decide) fun p32 H hS => ?_
    refine c_cons ?_
    refine c_tup ?_
    obtain ⟨h34, hm⟩ := R.wp_need hm
    refine ea_to (ea_cons ev_c (ea_cons (ev_catS ev_c (ev_var rfl) h34) (ea_cons (ev_var rfl) ea_nil))) ?_
    obtain ⟨u35, u36, u37, u38, u39, hT45, h40, h41, h42, h43, h44⟩ := im5 (hS.im (i := 2) rfl)
    obtain rfl : u35 = (.str (r1.1.a)) := h40
    obtain rfl : u36 = (.str (r1.1.b)) := h41
    obtain rfl : u37 = (.str (r1.1.c)) := h42
    obtain rfl : u38 = (.int (r1.1.d)) := h43
    obtain rfl : u39 = (.str (r1.1.e)) := h44
    refine k_tupA (vs := [(.str (("put" : Str))), (.str (("x" : Str) ++ v_law_hand)), (.ref p2)]) (xs := [(Any.str ("put" : Str)), (Any.str (("x" : Str) ++ v_law_hand)), (Any.tup [(Any.str r1.1.a), (Any.str r1.1.b), (Any.str r1.1.c), (Any.int r1.1.d), (Any.str r1.1.e)])]) hS ⟨(any_str.mpr rfl), ⟨(any_str.mpr rfl), ⟨((any_tup (xs := [(Any.str r1.1.a), (Any.str r1.1.b), (Any.str r1.1.c), (Any.int r1.1.d), (Any.str r1.1.e)])).mpr ⟨_, _, rfl, hT45, ⟨(any_str.mpr rfl), ⟨(any_str.mpr rfl), ⟨(any_str.mpr rfl), ⟨(any_int.mpr rfl), ⟨(any_str.mpr rfl), True.intro⟩⟩⟩⟩⟩⟩), True.intro⟩⟩⟩ (by show 3 ≤ sizeLine; decide) fun p46 H hS => ?_
    refine c_nil ?_
    refine k_lst (α := Any) (vs := [(.ref p17), (.ref p32), (.ref p46)]) (xs := [(Any.tup [(Any.str ("put" : Str)), (Any.str (v_law_hand ++ (Str.ofString (toString (v_law_puts + 2 : Int))))), (Any.tup [(Any.str r1.1.a), (Any.str r1.1.b), (Any.str r1.1.c), (Any.int r1.1.d), (Any.str r1.1.e)])]), (Any.tup [(Any.str ("put" : Str)), (Any.str (v_law_hand ++ (Str.ofString (toString (v_law_puts : Int))))), (Any.tup [(Any.str r1.1.a), (Any.str r1.1.b), (Any.str r1.1.c), (Any.int r1.1.d), (Any.str r1.1.e)])]), (Any.tup [(Any.str ("put" : Str)), (Any.str (("x" : Str) ++ v_law_hand)), (Any.tup [(Any.str r1.1.a), (Any.str r1.1.b), (Any.str r1.1.c), (Any.int r1.1.d), (Any.str r1.1.e)])])]) hS ⟨(hS.im (i := 2) rfl), ⟨(hS.im (i := 1) rfl), ⟨(hS.im (i := 0) rfl), True.intro⟩⟩⟩ (by show 3 ≤ sizeLine; decide) fun p48 H hS => ?_
    refine fz_no ?_
    obtain ⟨y49, hy49, hm⟩ := wp_let hm
    have hS : Sep H ([lstA p48 (y49 : (List Any)), imA (.ref p46) ((Any.tup [(Any.str ("put" : Str)), (Any.str (("x" : Str) ++ v_law_hand)), (Any.tup [(Any.str r1.1.a), (Any.str r1.1.b), (Any.str r1.1.c), (Any.int r1.1.d), (Any.str r1.1.e)])]) : Any), imA (.ref p32) ((Any.tup [(Any.str ("put" : Str)), (Any.str (v_law_hand ++ (Str.ofString (toString (v_law_puts : Int))))), (Any.tup [(Any.str r1.1.a), (Any.str r1.1.b), (Any.str r1.1.c), (Any.int r1.1.d), (Any.str r1.1.e)])]) : Any), imA (.ref p17) ((Any.tup [(Any.str ("put" : Str)), (Any.str (v_law_hand ++ (Str.ofString (toString (v_law_puts + 2 : Int))))), (Any.tup [(Any.str r1.1.a), (Any.str r1.1.b), (Any.str r1.1.c), (Any.int r1.1.d), (Any.str r1.1.e)])]) : Any), imA (.ref p2) (r1.1 : (T5 Str Str Str Int Str)), stA a_v_law_state (r1.2 : T3 Int Script Int), F] : List (Asn G)) := by rw [← hy49]; exact hS
    refine c_set (σ' := [some (.ref a_v_law_state), some (.str (v_law_hand)), some (.int (v_law_puts)), some (.ref p2), some (.ref p48)]) rfl ?_
    refine sq_nx ?_
    refine f_seq ?_
    refine c_asg ?_
    refine c_fz ?_
    refine c_op ?_
    refine ev_to (ev_fz (ev_var rfl)) ?_
    refine c_fz ?_
    refine c_lst ?_
    refine c_cons ?_
    refine c_tup ?_
    obtain ⟨h50, hm⟩ := R.wp_need hm
    obtain ⟨h51, hm⟩ := R.wp_need hm
    revert hm; refine R.need_rev fun h52 hm => ?_
    refine ea_to (ea_cons ev_c (ea_cons (ev_catS (ev_catS (ev_var rfl) ev_c h50) (ev_cb (ea_cons (ev_add (ev_var rfl) ev_c) ea_nil) fun _ q => ⟨_, rfl, h51, q⟩) h52) (ea_cons (ev_var rfl) ea_nil))) ?_
    obtain ⟨u53, u54, u55, u56, u57, hT63, h58, h59, h60, h61, h62⟩ := im5 (hS.im (i := 4) rfl)
    obtain rfl : u53 = (.str (r1.1.a)) := h58
    obtain rfl : u54 = (.str (r1.1.b)) := h59
    obtain rfl : u55 = (.str (r1.1.c)) := h60
    obtain rfl : u56 = (.int (r1.1.d)) := h61
    obtain rfl : u57 = (.str (r1.1.e)) := h62
    refine k_tupA (vs := [(.str (("put" : Str))), (.str ((v_law_hand ++ ("0" : Str)) ++ (Str.ofString (toString (v_law_puts + 1 : Int))))), (.ref p2)]) (xs := [(Any.str ("put" : Str)), (Any.str ((v_law_hand ++ ("0" : Str)) ++ (Str.ofString (toString (v_law_puts + 1 : Int))))), (Any.tup [(Any.str r1.1.a), (Any.str r1.1.b), (Any.str r1.1.c), (Any.int r1.1.d), (Any.str r1.1.e)])]) hS ⟨(any_str.mpr rfl), ⟨(any_str.mpr rfl), ⟨((any_tup (xs := [(Any.str r1.1.a), (Any.str r1.1.b), (Any.str r1.1.c), (Any.int r1.1.d), (Any.str r1.1.e)])).mpr ⟨_, _, rfl, hT63, ⟨(any_str.mpr rfl), ⟨(any_str.mpr rfl), ⟨(any_str.mpr rfl), ⟨(any_int.mpr rfl), ⟨(any_str.mpr rfl), True.intro⟩⟩⟩⟩⟩⟩), True.intro⟩⟩⟩ (by show 3 ≤ sizeLine; decide) fun p64 H hS => ?_
    refine c_cons ?_
    refine c_tup ?_
    refine c_cons ?_
    refine ev_to ev_c ?_
    refine c_cons ?_
    obtain ⟨h66, hm⟩ := R.wp_need hm
    obtain ⟨h67, hm⟩ := R.wp_need hm
    refine ev_to (ev_catS (ev_var rfl) (ev_cb (ea_cons (ev_add (ev_var rfl) ev_c) ea_nil) fun _ q => ⟨_, rfl, h66, q⟩) h67) ?_
    refine c_cons ?_
    refine c_fz ?_
    refine c_cb ?_
    refine ea_to (ea_cons (ev_var rfl) ea_nil) ?_
    obtain ⟨u69, u70, u71, u72, u73, hT79, h74, h75, h76, h77, h78⟩ := im5 (hS.im (i := 5) rfl)
    obtain rfl : u69 = (.str (r1.1.a)) := h74
    obtain rfl : u70 = (.str (r1.1.b)) := h75
    obtain rfl : u71 = (.str (r1.1.c)) := h76
    obtain rfl : u72 = (.int (r1.1.d)) := h77
    obtain rfl : u73 = (.str (r1.1.e)) := h78
    refine k_listA (xs := [(Any.str r1.1.a), (Any.str r1.1.b), (Any.str r1.1.c), (Any.int r1.1.d), (Any.str r1.1.e)]) hS ((any_tup (xs := [(Any.str r1.1.a), (Any.str r1.1.b), (Any.str r1.1.c), (Any.int r1.1.d), (Any.str r1.1.e)])).mpr ⟨_, _, rfl, hT79, ⟨(any_str.mpr rfl), ⟨(any_str.mpr rfl), ⟨(any_str.mpr rfl), ⟨(any_int.mpr rfl), ⟨(any_str.mpr rfl), True.intro⟩⟩⟩⟩⟩⟩) fun p68 H hS => ?_
    refine fz_yes (xs := ([(Any.str r1.1.a), (Any.str r1.1.b), (Any.str r1.1.c), (Any.int r1.1.d), (Any.str r1.1.e)] : (List Any))) hS (i := 0) rfl fun H hS => ?_
    have hS : Sep H ([imA (.ref p68) ([(Any.str r1.1.a), (Any.str r1.1.b), (Any.str r1.1.c), (Any.int r1.1.d), (Any.str r1.1.e)] : (List Any)), imA (.ref p64) ((Any.tup [(Any.str ("put" : Str)), (Any.str ((v_law_hand ++ ("0" : Str)) ++ (Str.ofString (toString (v_law_puts + 1 : Int))))), (Any.tup [(Any.str r1.1.a), (Any.str r1.1.b), (Any.str r1.1.c), (Any.int r1.1.d), (Any.str r1.1.e)])]) : Any), lstA p48 (y49 : (List Any)), imA (.ref p46) ((Any.tup [(Any.str ("put" : Str)), (Any.str (("x" : Str) ++ v_law_hand)), (Any.tup [(Any.str r1.1.a), (Any.str r1.1.b), (Any.str r1.1.c), (Any.int r1.1.d), (Any.str r1.1.e)])]) : Any), imA (.ref p32) ((Any.tup [(Any.str ("put" : Str)), (Any.str (v_law_hand ++ (Str.ofString (toString (v_law_puts : Int))))), (Any.tup [(Any.str r1.1.a), (Any.str r1.1.b), (Any.str r1.1.c), (Any.int r1.1.d), (Any.str r1.1.e)])]) : Any), imA (.ref p17) ((Any.tup [(Any.str ("put" : Str)), (Any.str (v_law_hand ++ (Str.ofString (toString (v_law_puts + 2 : Int))))), (Any.tup [(Any.str r1.1.a), (Any.str r1.1.b), (Any.str r1.1.c), (Any.int r1.1.d), (Any.str r1.1.e)])]) : Any), imA (.ref p2) (r1.1 : (T5 Str Str Str Int Str)), stA a_v_law_state (r1.2 : T3 Int Script Int), F] : List (Asn G)) := hS
    refine c_nil ?_
    refine k_tupA (vs := [(.str (("put" : Str))), (.str (v_law_hand ++ (Str.ofString (toString (v_law_puts + 1 : Int))))), (.ref p68)]) (xs := [(Any.str ("put" : Str)), (Any.str (v_law_hand ++ (Str.ofString (toString (v_law_puts + 1 : Int))))), (Any.lst ([(Any.str r1.1.a), (Any.str r1.1.b), (Any.str r1.1.c), (Any.int r1.1.d), (Any.str r1.1.e)]))]) hS ⟨(any_str.mpr rfl), ⟨(any_str.mpr rfl), ⟨(any_lstA (hS.im (i := 0) rfl)), True.intro⟩⟩⟩ (by show 3 ≤ sizeLine; decide) fun p81 H hS => ?_
    refine c_nil ?_
    refine k_lst (α := Any) (vs := [(.ref p64), (.ref p81)]) (xs := [(Any.tup [(Any.str ("put" : Str)), (Any.str ((v_law_hand ++ ("0" : Str)) ++ (Str.ofString (toString (v_law_puts + 1 : Int))))), (Any.tup [(Any.str r1.1.a), (Any.str r1.1.b), (Any.str r1.1.c), (Any.int r1.1.d), (Any.str r1.1.e)])]), (Any.tup [(Any.str ("put" : Str)), (Any.str (v_law_hand ++ (Str.ofString (toString (v_law_puts + 1 : Int))))), (Any.lst ([(Any.str r1.1.a), (Any.str r1.1.b), (Any.str r1.1.c), (Any.int r1.1.d), (Any.str r1.1.e)]))])]) hS ⟨(hS.im (i := 2) rfl), ⟨(hS.im (i := 0) rfl), True.intro⟩⟩ (by show 2 ≤ sizeLine; decide) fun p83 H hS => ?_
    refine fz_no ?_
    revert hm; refine R.need_rev fun h84 hm => ?_
    refine k_catG hS (hS.rdL (i := 4) rfl) (hS.rdL (i := 0) rfl) h84 fun p85 H hS => ?_
    refine fz_no ?_
    obtain ⟨y86, hy86, hm⟩ := wp_let hm
    have hS : Sep H ([lstA p85 (y86 : (List Any)), lstA p83 ([(Any.tup [(Any.str ("put" : Str)), (Any.str ((v_law_hand ++ ("0" : Str)) ++ (Str.ofString (toString (v_law_puts + 1 : Int))))), (Any.tup [(Any.str r1.1.a), (Any.str r1.1.b), (Any.str r1.1.c), (Any.int r1.1.d), (Any.str r1.1.e)])]), (Any.tup [(Any.str ("put" : Str)), (Any.str (v_law_hand ++ (Str.ofString (toString (v_law_puts + 1 : Int))))), (Any.lst ([(Any.str r1.1.a), (Any.str r1.1.b), (Any.str r1.1.c), (Any.int r1.1.d), (Any.str r1.1.e)]))])] : (List Any)), imA (.ref p81) ((Any.tup [(Any.str ("put" : Str)), (Any.str (v_law_hand ++ (Str.ofString (toString (v_law_puts + 1 : Int))))), (Any.lst ([(Any.str r1.1.a), (Any.str r1.1.b), (Any.str r1.1.c), (Any.int r1.1.d), (Any.str r1.1.e)]))]) : Any), imA (.ref p68) ([(Any.str r1.1.a), (Any.str r1.1.b), (Any.str r1.1.c), (Any.int r1.1.d), (Any.str r1.1.e)] : (List Any)), imA (.ref p64) ((Any.tup [(Any.str ("put" : Str)), (Any.str ((v_law_hand ++ ("0" : Str)) ++ (Str.ofString (toString (v_law_puts + 1 : Int))))), (Any.tup [(Any.str r1.1.a), (Any.str r1.1.b), (Any.str r1.1.c), (Any.int r1.1.d), (Any.str r1.1.e)])]) : Any), lstA p48 (y49 : (List Any)), imA (.ref p46) ((Any.tup [(Any.str ("put" : Str)), (Any.str (("x" : Str) ++ v_law_hand)), (Any.tup [(Any.str r1.1.a), (Any.str r1.1.b), (Any.str r1.1.c), (Any.int r1.1.d), (Any.str r1.1.e)])]) : Any), imA (.ref p32) ((Any.tup [(Any.str ("put" : Str)), (Any.str (v_law_hand ++ (Str.ofString (toString (v_law_puts : Int))))), (Any.tup [(Any.str r1.1.a), (Any.str r1.1.b), (Any.str r1.1.c), (Any.int r1.1.d), (Any.str r1.1.e)])]) : Any), imA (.ref p17) ((Any.tup [(Any.str ("put" : Str)), (Any.str (v_law_hand ++ (Str.ofString (toString (v_law_puts + 2 : Int))))), (Any.tup [(Any.str r1.1.a), (Any.str r1.1.b), (Any.str r1.1.c), (Any.int r1.1.d), (Any.str r1.1.e)])]) : Any), imA (.ref p2) (r1.1 : (T5 Str Str Str Int Str)), stA a_v_law_state (r1.2 : T3 Int Script Int), F] : List (Asn G)) := by rw [← hy86]; exact hS
    refine c_set (σ' := [some (.ref a_v_law_state), some (.str (v_law_hand)), some (.int (v_law_puts)), some (.ref p2), some (.ref p85)]) rfl ?_
    refine sq_nx ?_
    refine f_seq ?_
    refine c_asg ?_
    refine c_fz ?_
    refine c_op ?_
    refine ev_to (ev_fz (ev_var rfl)) ?_
    refine c_fz ?_
    refine c_lst ?_
    refine c_cons ?_
    refine c_tup ?_
    obtain ⟨h87, hm⟩ := R.wp_need hm
    refine ea_to (ea_cons ev_c (ea_cons (ev_catS (ev_var rfl) ev_c h87) ea_nil)) ?_
    refine k_tupA (vs := [(.str (("place" : Str))), (.str (v_law_hand ++ ("1" : Str)))]) (xs := [(Any.str ("place" : Str)), (Any.str (v_law_hand ++ ("1" : Str)))]) hS ⟨(any_str.mpr rfl), ⟨(any_str.mpr rfl), True.intro⟩⟩ (by show 2 ≤ sizeLine; decide) fun p88 H hS => ?_
    refine c_cons ?_
    refine c_tup ?_
    obtain ⟨h90, hm⟩ := R.wp_need hm
    refine ea_to (ea_cons ev_c (ea_cons (ev_catS (ev_var rfl) ev_c h90) (ea_cons ev_c (ea_cons ev_c ea_nil)))) ?_
    refine k_tupA (vs := [(.str (("mark" : Str))), (.str (v_law_hand ++ ("1" : Str))), (.str (("a" : Str))), (.int (1))]) (xs := [(Any.str ("mark" : Str)), (Any.str (v_law_hand ++ ("1" : Str))), (Any.str ("a" : Str)), (Any.int 1)]) hS ⟨(any_str.mpr rfl), ⟨(any_str.mpr rfl), ⟨(any_str.mpr rfl), ⟨(any_int.mpr rfl), True.intro⟩⟩⟩⟩ (by show 4 ≤ sizeLine; decide) fun p91 H hS => ?_
    refine c_cons ?_
    refine c_fz ?_
    refine c_lst ?_
    obtain ⟨h93, hm⟩ := R.wp_need hm
    refine ea_to (ea_cons ev_c (ea_cons (ev_catS (ev_var rfl) ev_c h93) ea_nil)) ?_
    refine k_lst (α := Str) (vs := [(.str (("drop" : Str))), (.str (v_law_hand ++ ("1" : Str)))]) (xs := [("drop" : Str), v_law_hand ++ ("1" : Str)]) hS ⟨rfl, ⟨rfl, True.intro⟩⟩ (by show 2 ≤ sizeLine; decide) fun p94 H hS => ?_
    refine fz_yes (xs := ([("drop" : Str), v_law_hand ++ ("1" : Str)] : (List Str))) hS (i := 0) rfl fun H hS => ?_
    have hS : Sep H ([imA (.ref p94) ([("drop" : Str), v_law_hand ++ ("1" : Str)] : (List Str)), imA (.ref p91) ((Any.tup [(Any.str ("mark" : Str)), (Any.str (v_law_hand ++ ("1" : Str))), (Any.str ("a" : Str)), (Any.int 1)]) : Any), imA (.ref p88) ((Any.tup [(Any.str ("place" : Str)), (Any.str (v_law_hand ++ ("1" : Str)))]) : Any), lstA p85 (y86 : (List Any)), lstA p83 ([(Any.tup [(Any.str ("put" : Str)), (Any.str ((v_law_hand ++ ("0" : Str)) ++ (Str.ofString (toString (v_law_puts + 1 : Int))))), (Any.tup [(Any.str r1.1.a), (Any.str r1.1.b), (Any.str r1.1.c), (Any.int r1.1.d), (Any.str r1.1.e)])]), (Any.tup [(Any.str ("put" : Str)), (Any.str (v_law_hand ++ (Str.ofString (toString (v_law_puts + 1 : Int))))), (Any.lst ([(Any.str r1.1.a), (Any.str r1.1.b), (Any.str r1.1.c), (Any.int r1.1.d), (Any.str r1.1.e)]))])] : (List Any)), imA (.ref p81) ((Any.tup [(Any.str ("put" : Str)), (Any.str (v_law_hand ++ (Str.ofString (toString (v_law_puts + 1 : Int))))), (Any.lst ([(Any.str r1.1.a), (Any.str r1.1.b), (Any.str r1.1.c), (Any.int r1.1.d), (Any.str r1.1.e)]))]) : Any), imA (.ref p68) ([(Any.str r1.1.a), (Any.str r1.1.b), (Any.str r1.1.c), (Any.int r1.1.d), (Any.str r1.1.e)] : (List Any)), imA (.ref p64) ((Any.tup [(Any.str ("put" : Str)), (Any.str ((v_law_hand ++ ("0" : Str)) ++ (Str.ofString (toString (v_law_puts + 1 : Int))))), (Any.tup [(Any.str r1.1.a), (Any.str r1.1.b), (Any.str r1.1.c), (Any.int r1.1.d), (Any.str r1.1.e)])]) : Any), lstA p48 (y49 : (List Any)), imA (.ref p46) ((Any.tup [(Any.str ("put" : Str)), (Any.str (("x" : Str) ++ v_law_hand)), (Any.tup [(Any.str r1.1.a), (Any.str r1.1.b), (Any.str r1.1.c), (Any.int r1.1.d), (Any.str r1.1.e)])]) : Any), imA (.ref p32) ((Any.tup [(Any.str ("put" : Str)), (Any.str (v_law_hand ++ (Str.ofString (toString (v_law_puts : Int))))), (Any.tup [(Any.str r1.1.a), (Any.str r1.1.b), (Any.str r1.1.c), (Any.int r1.1.d), (Any.str r1.1.e)])]) : Any), imA (.ref p17) ((Any.tup [(Any.str ("put" : Str)), (Any.str (v_law_hand ++ (Str.ofString (toString (v_law_puts + 2 : Int))))), (Any.tup [(Any.str r1.1.a), (Any.str r1.1.b), (Any.str r1.1.c), (Any.int r1.1.d), (Any.str r1.1.e)])]) : Any), imA (.ref p2) (r1.1 : (T5 Str Str Str Int Str)), stA a_v_law_state (r1.2 : T3 Int Script Int), F] : List (Asn G)) := hS
    refine c_cons ?_
    refine ev_to ev_c ?_
    refine c_cons ?_
    refine c_tup ?_
    refine ea_to (ea_cons ev_c (ea_cons ev_c ea_nil)) ?_
    refine k_tupA (vs := [(.str (("drop" : Str))), (.str (("A" : Str)))]) (xs := [(Any.str ("drop" : Str)), (Any.str ("A" : Str))]) hS ⟨(any_str.mpr rfl), ⟨(any_str.mpr rfl), True.intro⟩⟩ (by show 2 ≤ sizeLine; decide) fun p96 H hS => ?_
    refine c_nil ?_
    refine k_lst (α := Any) (vs := [(.ref p88), (.ref p91), (.ref p94), .non, (.ref p96)]) (xs := [(Any.tup [(Any.str ("place" : Str)), (Any.str (v_law_hand ++ ("1" : Str)))]), (Any.tup [(Any.str ("mark" : Str)), (Any.str (v_law_hand ++ ("1" : Str))), (Any.str ("a" : Str)), (Any.int 1)]), (Any.lst (([("drop" : Str), v_law_hand ++ ("1" : Str)]).map Any.str)), Any.non, (Any.tup [(Any.str ("drop" : Str)), (Any.str ("A" : Str))])]) hS ⟨(hS.im (i := 3) rfl), ⟨(hS.im (i := 2) rfl), ⟨(any_lstS (hS.im (i := 1) rfl)), ⟨(any_non.mpr rfl), ⟨(hS.im (i := 0) rfl), True.intro⟩⟩⟩⟩⟩ (by show 5 ≤ sizeLine; decide) fun p98 H hS => ?_
    refine fz_no ?_
    revert hm; refine R.need_rev fun h99 hm => ?_
    refine k_catG hS (hS.rdL (i := 5) rfl) (hS.rdL (i := 0) rfl) h99 fun p100 H hS => ?_
    refine fz_no ?_
    obtain ⟨y101, hy101, hm⟩ := wp_let hm
    have hS : Sep H ([lstA p100 (y101 : (List Any)), lstA p98 ([(Any.tup [(Any.str ("place" : Str)), (Any.str (v_law_hand ++ ("1" : Str)))]), (Any.tup [(Any.str ("mark" : Str)), (Any.str (v_law_hand ++ ("1" : Str))), (Any.str ("a" : Str)), (Any.int 1)]), (Any.lst (([("drop" : Str), v_law_hand ++ ("1" : Str)]).map Any.str)), Any.non, (Any.tup [(Any.str ("drop" : Str)), (Any.str ("A" : Str))])] : (List Any)), imA (.ref p96) ((Any.tup [(Any.str ("drop" : Str)), (Any.str ("A" : Str))]) : Any), imA (.ref p94) ([("drop" : Str), v_law_hand ++ ("1" : Str)] : (List Str)), imA (.ref p91) ((Any.tup [(Any.str ("mark" : Str)), (Any.str (v_law_hand ++ ("1" : Str))), (Any.str ("a" : Str)), (Any.int 1)]) : Any), imA (.ref p88) ((Any.tup [(Any.str ("place" : Str)), (Any.str (v_law_hand ++ ("1" : Str)))]) : Any), lstA p85 (y86 : (List Any)), lstA p83 ([(Any.tup [(Any.str ("put" : Str)), (Any.str ((v_law_hand ++ ("0" : Str)) ++ (Str.ofString (toString (v_law_puts + 1 : Int))))), (Any.tup [(Any.str r1.1.a), (Any.str r1.1.b), (Any.str r1.1.c), (Any.int r1.1.d), (Any.str r1.1.e)])]), (Any.tup [(Any.str ("put" : Str)), (Any.str (v_law_hand ++ (Str.ofString (toString (v_law_puts + 1 : Int))))), (Any.lst ([(Any.str r1.1.a), (Any.str r1.1.b), (Any.str r1.1.c), (Any.int r1.1.d), (Any.str r1.1.e)]))])] : (List Any)), imA (.ref p81) ((Any.tup [(Any.str ("put" : Str)), (Any.str (v_law_hand ++ (Str.ofString (toString (v_law_puts + 1 : Int))))), (Any.lst ([(Any.str r1.1.a), (Any.str r1.1.b), (Any.str r1.1.c), (Any.int r1.1.d), (Any.str r1.1.e)]))]) : Any), imA (.ref p68) ([(Any.str r1.1.a), (Any.str r1.1.b), (Any.str r1.1.c), (Any.int r1.1.d), (Any.str r1.1.e)] : (List Any)), imA (.ref p64) ((Any.tup [(Any.str ("put" : Str)), (Any.str ((v_law_hand ++ ("0" : Str)) ++ (Str.ofString (toString (v_law_puts + 1 : Int))))), (Any.tup [(Any.str r1.1.a), (Any.str r1.1.b), (Any.str r1.1.c), (Any.int r1.1.d), (Any.str r1.1.e)])]) : Any), lstA p48 (y49 : (List Any)), imA (.ref p46) ((Any.tup [(Any.str ("put" : Str)), (Any.str (("x" : Str) ++ v_law_hand)), (Any.tup [(Any.str r1.1.a), (Any.str r1.1.b), (Any.str r1.1.c), (Any.int r1.1.d), (Any.str r1.1.e)])]) : Any), imA (.ref p32) ((Any.tup [(Any.str ("put" : Str)), (Any.str (v_law_hand ++ (Str.ofString (toString (v_law_puts : Int))))), (Any.tup [(Any.str r1.1.a), (Any.str r1.1.b), (Any.str r1.1.c), (Any.int r1.1.d), (Any.str r1.1.e)])]) : Any), imA (.ref p17) ((Any.tup [(Any.str ("put" : Str)), (Any.str (v_law_hand ++ (Str.ofString (toString (v_law_puts + 2 : Int))))), (Any.tup [(Any.str r1.1.a), (Any.str r1.1.b), (Any.str r1.1.c), (Any.int r1.1.d), (Any.str r1.1.e)])]) : Any), imA (.ref p2) (r1.1 : (T5 Str Str Str Int Str)), stA a_v_law_state (r1.2 : T3 Int Script Int), F] : List (Asn G)) := by rw [← hy101]; exact hS
    refine c_set (σ' := [some (.ref a_v_law_state), some (.str (v_law_hand)), some (.int (v_law_puts)), some (.ref p2), some (.ref p100)]) rfl ?_
    refine sq_nx ?_
    refine f_seq ?_
    refine c_asg ?_
    refine c_fz ?_
    refine c_op ?_
    refine ev_to (ev_fz (ev_var rfl)) ?_
    refine c_fz ?_
    refine c_lst ?_
    refine c_cons ?_
    refine c_tup ?_
    obtain ⟨h102, hm⟩ := R.wp_need hm
    obtain ⟨h103, hm⟩ := R.wp_need hm
    revert hm; refine R.need_rev fun h104 hm => ?_
    refine ea_to (ea_cons ev_c (ea_cons (ev_catS (ev_catS (ev_var rfl) ev_c h102) (ev_cb (ea_cons (ev_add (ev_var rfl) ev_c) ea_nil) fun _ q => ⟨_, rfl, h103, q⟩) h104) (ea_cons (ev_var rfl) ea_nil))) ?_
    obtain ⟨u105, u106, u107, u108, u109, hT115, h110, h111, h112, h113, h114⟩ := im5 (hS.im (i := 15) rfl)
    obtain rfl : u105 = (.str (r1.1.a)) := h110
    obtain rfl : u106 = (.str (r1.1.b)) := h111
    obtain rfl : u107 = (.str (r1.1.c)) := h112
    obtain rfl : u108 = (.int (r1.1.d)) := h113
    obtain rfl : u109 = (.str (r1.1.e)) := h114
    refine k_tupA (vs := [(.str (("put" : Str))), (.str ((v_law_hand ++ ("1" : Str)) ++ (Str.ofString (toString (v_law_puts + 1 : Int))))), (.ref p2)]) (xs := [(Any.str ("put" : Str)), (Any.str ((v_law_hand ++ ("1" : Str)) ++ (Str.ofString (toString (v_law_puts + 1 : Int))))), (Any.tup [(Any.str r1.1.a), (Any.str r1.1.b), (Any.str r1.1.c), (Any.int r1.1.d), (Any.str r1.1.e)])]) hS ⟨(any_str.mpr rfl), ⟨(any_str.mpr rfl), ⟨((any_tup (xs := [(Any.str r1.1.a), (Any.str r1.1.b), (Any.str r1.1.c), (Any.int r1.1.d), (Any.str r1.1.e)])).mpr ⟨_, _, rfl, hT115, ⟨(any_str.mpr rfl), ⟨(any_str.mpr rfl), ⟨(any_str.mpr rfl), ⟨(any_int.mpr rfl), ⟨(any_str.mpr rfl), True.intro⟩⟩⟩⟩⟩⟩), True.intro⟩⟩⟩ (by show 3 ≤ sizeLine; decide) fun p116 H hS => ?_
    refine c_cons ?_
    refine c_call ?_
    refine c_cons ?_
    refine ev_to (ev_var rfl) ?_
    refine c_cons ?_
    refine c_call ?_
    refine c_cons ?_
    refine ev_to (ev_var rfl) ?_
    refine c_cons ?_
    refine c_fz ?_
    refine c_lst ?_
    refine ea_to ea_nil ?_
    refine k_lst (α := Str) (vs := []) (xs := ([] : (List Str))) hS True.intro (by show 0 ≤ sizeLine; decide) fun p118 H hS => ?_
    refine fz_no ?_
    refine c_cons ?_
    refine ev_to (ev_var rfl) ?_
    refine c_cons ?_
    refine ev_to (ev_var rfl) ?_
    refine c_nil ?_
    refine ⟨a_v_law_state, (r1.2 : (T3 Int Script Int)), p118, (([] : (List Str)) : (List Str)), v_law_hand, v_law_puts, star [imA (.ref p116) ((Any.tup [(Any.str ("put" : Str)), (Any.str ((v_law_hand ++ ("1" : Str)) ++ (Str.ofString (toString (v_law_puts + 1 : Int))))), (Any.tup [(Any.str r1.1.a), (Any.str r1.1.b), (Any.str r1.1.c), (Any.int r1.1.d), (Any.str r1.1.e)])]) : Any), lstA p100 (y101 : (List Any)), lstA p98 ([(Any.tup [(Any.str ("place" : Str)), (Any.str (v_law_hand ++ ("1" : Str)))]), (Any.tup [(Any.str ("mark" : Str)), (Any.str (v_law_hand ++ ("1" : Str))), (Any.str ("a" : Str)), (Any.int 1)]), (Any.lst (([("drop" : Str), v_law_hand ++ ("1" : Str)]).map Any.str)), Any.non, (Any.tup [(Any.str ("drop" : Str)), (Any.str ("A" : Str))])] : (List Any)), imA (.ref p96) ((Any.tup [(Any.str ("drop" : Str)), (Any.str ("A" : Str))]) : Any), imA (.ref p94) ([("drop" : Str), v_law_hand ++ ("1" : Str)] : (List Str)), imA (.ref p91) ((Any.tup [(Any.str ("mark" : Str)), (Any.str (v_law_hand ++ ("1" : Str))), (Any.str ("a" : Str)), (Any.int 1)]) : Any), imA (.ref p88) ((Any.tup [(Any.str ("place" : Str)), (Any.str (v_law_hand ++ ("1" : Str)))]) : Any), lstA p85 (y86 : (List Any)), lstA p83 ([(Any.tup [(Any.str ("put" : Str)), (Any.str ((v_law_hand ++ ("0" : Str)) ++ (Str.ofString (toString (v_law_puts + 1 : Int))))), (Any.tup [(Any.str r1.1.a), (Any.str r1.1.b), (Any.str r1.1.c), (Any.int r1.1.d), (Any.str r1.1.e)])]), (Any.tup [(Any.str ("put" : Str)), (Any.str (v_law_hand ++ (Str.ofString (toString (v_law_puts + 1 : Int))))), (Any.lst ([(Any.str r1.1.a), (Any.str r1.1.b), (Any.str r1.1.c), (Any.int r1.1.d), (Any.str r1.1.e)]))])] : (List Any)), imA (.ref p81) ((Any.tup [(Any.str ("put" : Str)), (Any.str (v_law_hand ++ (Str.ofString (toString (v_law_puts + 1 : Int))))), (Any.lst ([(Any.str r1.1.a), (Any.str r1.1.b), (Any.str r1.1.c), (Any.int r1.1.d), (Any.str r1.1.e)]))]) : Any), imA (.ref p68) ([(Any.str r1.1.a), (Any.str r1.1.b), (Any.str r1.1.c), (Any.int r1.1.d), (Any.str r1.1.e)] : (List Any)), imA (.ref p64) ((Any.tup [(Any.str ("put" : Str)), (Any.str ((v_law_hand ++ ("0" : Str)) ++ (Str.ofString (toString (v_law_puts + 1 : Int))))), (Any.tup [(Any.str r1.1.a), (Any.str r1.1.b), (Any.str r1.1.c), (Any.int r1.1.d), (Any.str r1.1.e)])]) : Any), lstA p48 (y49 : (List Any)), imA (.ref p46) ((Any.tup [(Any.str ("put" : Str)), (Any.str (("x" : Str) ++ v_law_hand)), (Any.tup [(Any.str r1.1.a), (Any.str r1.1.b), (Any.str r1.1.c), (Any.int r1.1.d), (Any.str r1.1.e)])]) : Any), imA (.ref p32) ((Any.tup [(Any.str ("put" : Str)), (Any.str (v_law_hand ++ (Str.ofString (toString (v_law_puts : Int))))), (Any.tup [(Any.str r1.1.a), (Any.str r1.1.b), (Any.str r1.1.c), (Any.int r1.1.d), (Any.str r1.1.e)])]) : Any), imA (.ref p17) ((Any.tup [(Any.str ("put" : Str)), (Any.str (v_law_hand ++ (Str.ofString (toString (v_law_puts + 2 : Int))))), (Any.tup [(Any.str r1.1.a), (Any.str r1.1.b), (Any.str r1.1.c), (Any.int r1.1.d), (Any.str r1.1.e)])]) : Any), imA (.ref p2) (r1.1 : (T5 Str Str Str Int Str)), F], rfl, Sep.unstar (M := [stA a_v_law_state (r1.2 : T3 Int Script Int), lstA p118 (([] : (List Str)) : (List Str))]) (hS.sel [18, 0, 1, 2, 3, 4, 5, 6, 7, 8, 9, 10, 11, 12, 13, 14, 15, 16, 17, 19] (by decide) rfl : Sep H (([stA a_v_law_state (r1.2 : T3 Int Script Int), lstA p118 (([] : (List Str)) : (List Str))] ++ [imA (.ref p116) ((Any.tup [(Any.str ("put" : Str)), (Any.str ((v_law_hand ++ ("1" : Str)) ++ (Str.ofString (toString (v_law_puts + 1 : Int))))), (Any.tup [(Any.str r1.1.a), (Any.str r1.1.b), (Any.str r1.1.c), (Any.int r1.1.d), (Any.str r1.1.e)])]) : Any), lstA p100 (y101 : (List Any)), lstA p98 ([(Any.tup [(Any.str ("place" : Str)), (Any.str (v_law_hand ++ ("1" : Str)))]), (Any.tup [(Any.str ("mark" : Str)), (Any.str (v_law_hand ++ ("1" : Str))), (Any.str ("a" : Str)), (Any.int 1)]), (Any.lst (([("drop" : Str), v_law_hand ++ ("1" : Str)]).map Any.str)), Any.non, (Any.tup [(Any.str ("drop" : Str)), (Any.str ("A" : Str))])] : (List Any)), imA (.ref p96) ((Any.tup [(Any.str ("drop" : Str)), (Any.str ("A" : Str))]) : Any), imA (.ref p94) ([("drop" : Str), v_law_hand ++ ("1" : Str)] : (List Str)), imA (.ref p91) ((Any.tup [(Any.str ("mark" : Str)), (Any.str (v_law_hand ++ ("1" : Str))), (Any.str ("a" : Str)), (Any.int 1)]) : Any), imA (.ref p88) ((Any.tup [(Any.str ("place" : Str)), (Any.str (v_law_hand ++ ("1" : Str)))]) : Any), lstA p85 (y86 : (List Any)), lstA p83 ([(Any.tup [(Any.str ("put" : Str)), (Any.str ((v_law_hand ++ ("0" : Str)) ++ (Str.ofString (toString (v_law_puts + 1 : Int))))), (Any.tup [(Any.str r1.1.a), (Any.str r1.1.b), (Any.str r1.1.c), (Any.int r1.1.d), (Any.str r1.1.e)])]), (Any.tup [(Any.str ("put" : Str)), (Any.str (v_law_hand ++ (Str.ofString (toString (v_law_puts + 1 : Int))))), (Any.lst ([(Any.str r1.1.a), (Any.str r1.1.b), (Any.str r1.1.c), (Any.int r1.1.d), (Any.str r1.1.e)]))])] : (List Any)), imA (.ref p81) ((Any.tup [(Any.str ("put" : Str)), (Any.str (v_law_hand ++ (Str.ofString (toString (v_law_puts + 1 : Int))))), (Any.lst ([(Any.str r1.1.a), (Any.str r1.1.b), (Any.str r1.1.c), (Any.int r1.1.d), (Any.str r1.1.e)]))]) : Any), imA (.ref p68) ([(Any.str r1.1.a), (Any.str r1.1.b), (Any.str r1.1.c), (Any.int r1.1.d), (Any.str r1.1.e)] : (List Any)), imA (.ref p64) ((Any.tup [(Any.str ("put" : Str)), (Any.str ((v_law_hand ++ ("0" : Str)) ++ (Str.ofString (toString (v_law_puts + 1 : Int))))), (Any.tup [(Any.str r1.1.a), (Any.str r1.1.b), (Any.str r1.1.c), (Any.int r1.1.d), (Any.str r1.1.e)])]) : Any), lstA p48 (y49 : (List Any)), imA (.ref p46) ((Any.tup [(Any.str ("put" : Str)), (Any.str (("x" : Str) ++ v_law_hand)), (Any.tup [(Any.str r1.1.a), (Any.str r1.1.b), (Any.str r1.1.c), (Any.int r1.1.d), (Any.str r1.1.e)])]) : Any), imA (.ref p32) ((Any.tup [(Any.str ("put" : Str)), (Any.str (v_law_hand ++ (Str.ofString (toString (v_law_puts : Int))))), (Any.tup [(Any.str r1.1.a), (Any.str r1.1.b), (Any.str r1.1.c), (Any.int r1.1.d), (Any.str r1.1.e)])]) : Any), imA (.ref p17) ((Any.tup [(Any.str ("put" : Str)), (Any.str (v_law_hand ++ (Str.ofString (toString (v_law_puts + 2 : Int))))), (Any.tup [(Any.str r1.1.a), (Any.str r1.1.b), (Any.str r1.1.c), (Any.int r1.1.d), (Any.str r1.1.e)])]) : Any), imA (.ref p2) (r1.1 : (T5 Str Str Str Int Str)), F] : List (Asn G)))), R.wp_mono (R.wp_bind hm) (fun r119 hm p120 H hS => ?_) (fun _ z => z)⟩
    have hS : Sep H ([imA p120 (r119.1 : Any), stA a_v_law_state (r119.2 : T3 Int Script Int), lstA p118 (([] : (List Str)) : (List Str)), imA (.ref p116) ((Any.tup [(Any.str ("put" : Str)), (Any.str ((v_law_hand ++ ("1" : Str)) ++ (Str.ofString (toString (v_law_puts + 1 : Int))))), (Any.tup [(Any.str r1.1.a), (Any.str r1.1.b), (Any.str r1.1.c), (Any.int r1.1.d), (Any.str r1.1.e)])]) : Any), lstA p100 (y101 : (List Any)), lstA p98 ([(Any.tup [(Any.str ("place" : Str)), (Any.str (v_law_hand ++ ("1" : Str)))]), (Any.tup [(Any.str ("mark" : Str)), (Any.str (v_law_hand ++ ("1" : Str))), (Any.str ("a" : Str)), (Any.int 1)]), (Any.lst (([("drop" : Str), v_law_hand ++ ("1" : Str)]).map Any.str)), Any.non, (Any.tup [(Any.str ("drop" : Str)), (Any.str ("A" : Str))])] : (List Any)), imA (.ref p96) ((Any.tup [(Any.str ("drop" : Str)), (Any.str ("A" : Str))]) : Any), imA (.ref p94) ([("drop" : Str), v_law_hand ++ ("1" : Str)] : (List Str)), imA (.ref p91) ((Any.tup [(Any.str ("mark" : Str)), (Any.str (v_law_hand ++ ("1" : Str))), (Any.str ("a" : Str)), (Any.int 1)]) : Any), imA (.ref p88) ((Any.tup [(Any.str ("place" : Str)), (Any.str (v_law_hand ++ ("1" : Str)))]) : Any), lstA p85 (y86 : (List Any)), lstA p83 ([(Any.tup [(Any.str ("put" : Str)), (Any.str ((v_law_hand ++ ("0" : Str)) ++ (Str.ofString (toString (v_law_puts + 1 : Int))))), (Any.tup [(Any.str r1.1.a), (Any.str r1.1.b), (Any.str r1.1.c), (Any.int r1.1.d), (Any.str r1.1.e)])]), (Any.tup [(Any.str ("put" : Str)), (Any.str (v_law_hand ++ (Str.ofString (toString (v_law_puts + 1 : Int))))), (Any.lst ([(Any.str r1.1.a), (Any.str r1.1.b), (Any.str r1.1.c), (Any.int r1.1.d), (Any.str r1.1.e)]))])] : (List Any)), imA (.ref p81) ((Any.tup [(Any.str ("put" : Str)), (Any.str (v_law_hand ++ (Str.ofString (toString (v_law_puts + 1 : Int))))), (Any.lst ([(Any.str r1.1.a), (Any.str r1.1.b), (Any.str r1.1.c), (Any.int r1.1.d), (Any.str r1.1.e)]))]) : Any), imA (.ref p68) ([(Any.str r1.1.a), (Any.str r1.1.b), (Any.str r1.1.c), (Any.int r1.1.d), (Any.str r1.1.e)] : (List Any)), imA (.ref p64) ((Any.tup [(Any.str ("put" : Str)), (Any.str ((v_law_hand ++ ("0" : Str)) ++ (Str.ofString (toString (v_law_puts + 1 : Int))))), (Any.tup [(Any.str r1.1.a), (Any.str r1.1.b), (Any.str r1.1.c), (Any.int r1.1.d), (Any.str r1.1.e)])]) : Any), lstA p48 (y49 : (List Any)), imA (.ref p46) ((Any.tup [(Any.str ("put" : Str)), (Any.str (("x" : Str) ++ v_law_hand)), (Any.tup [(Any.str r1.1.a), (Any.str r1.1.b), (Any.str r1.1.c), (Any.int r1.1.d), (Any.str r1.1.e)])]) : Any), imA (.ref p32) ((Any.tup [(Any.str ("put" : Str)), (Any.str (v_law_hand ++ (Str.ofString (toString (v_law_puts : Int))))), (Any.tup [(Any.str r1.1.a), (Any.str r1.1.b), (Any.str r1.1.c), (Any.int r1.1.d), (Any.str r1.1.e)])]) : Any), imA (.ref p17) ((Any.tup [(Any.str ("put" : Str)), (Any.str (v_law_hand ++ (Str.ofString (toString (v_law_puts + 2 : Int))))), (Any.tup [(Any.str r1.1.a), (Any.str r1.1.b), (Any.str r1.1.c), (Any.int r1.1.d), (Any.str r1.1.e)])]) : Any), imA (.ref p2) (r1.1 : (T5 Str Str Str Int Str)), F] : List (Asn G)) := Sep.star (M := [imA p120 (r119.1 : Any), stA a_v_law_state (r119.2 : T3 Int Script Int), lstA p118 (([] : (List Str)) : (List Str))]) hS
    refine c_nil ?_
    refine ⟨a_v_law_state, (r119.2 : (T3 Int Script Int)), p120, (r119.1 : Any), star [imA p120 (r119.1 : Any), lstA p118 (([] : (List Str)) : (List Str)), imA (.ref p116) ((Any.tup [(Any.str ("put" : Str)), (Any.str ((v_law_hand ++ ("1" : Str)) ++ (Str.ofString (toString (v_law_puts + 1 : Int))))), (Any.tup [(Any.str r1.1.a), (Any.str r1.1.b), (Any.str r1.1.c), (Any.int r1.1.d), (Any.str r1.1.e)])]) : Any), lstA p100 (y101 : (List Any)), lstA p98 ([(Any.tup [(Any.str ("place" : Str)), (Any.str (v_law_hand ++ ("1" : Str)))]), (Any.tup [(Any.str ("mark" : Str)), (Any.str (v_law_hand ++ ("1" : Str))), (Any.str ("a" : Str)), (Any.int 1)]), (Any.lst (([("drop" : Str), v_law_hand ++ ("1" : Str)]).map Any.str)), Any.non, (Any.tup [(Any.str ("drop" : Str)), (Any.str ("A" : Str))])] : (List Any)), imA (.ref p96) ((Any.tup [(Any.str ("drop" : Str)), (Any.str ("A" : Str))]) : Any), imA (.ref p94) ([("drop" : Str), v_law_hand ++ ("1" : Str)] : (List Str)), imA (.ref p91) ((Any.tup [(Any.str ("mark" : Str)), (Any.str (v_law_hand ++ ("1" : Str))), (Any.str ("a" : Str)), (Any.int 1)]) : Any), imA (.ref p88) ((Any.tup [(Any.str ("place" : Str)), (Any.str (v_law_hand ++ ("1" : Str)))]) : Any), lstA p85 (y86 : (List Any)), lstA p83 ([(Any.tup [(Any.str ("put" : Str)), (Any.str ((v_law_hand ++ ("0" : Str)) ++ (Str.ofString (toString (v_law_puts + 1 : Int))))), (Any.tup [(Any.str r1.1.a), (Any.str r1.1.b), (Any.str r1.1.c), (Any.int r1.1.d), (Any.str r1.1.e)])]), (Any.tup [(Any.str ("put" : Str)), (Any.str (v_law_hand ++ (Str.ofString (toString (v_law_puts + 1 : Int))))), (Any.lst ([(Any.str r1.1.a), (Any.str r1.1.b), (Any.str r1.1.c), (Any.int r1.1.d), (Any.str r1.1.e)]))])] : (List Any)), imA (.ref p81) ((Any.tup [(Any.str ("put" : Str)), (Any.str (v_law_hand ++ (Str.ofString (toString (v_law_puts + 1 : Int))))), (Any.lst ([(Any.str r1.1.a), (Any.str r1.1.b), (Any.str r1.1.c), (Any.int r1.1.d), (Any.str r1.1.e)]))]) : Any), imA (.ref p68) ([(Any.str r1.1.a), (Any.str r1.1.b), (Any.str r1.1.c), (Any.int r1.1.d), (Any.str r1.1.e)] : (List Any)), imA (.ref p64) ((Any.tup [(Any.str ("put" : Str)), (Any.str ((v_law_hand ++ ("0" : Str)) ++ (Str.ofString (toString (v_law_puts + 1 : Int))))), (Any.tup [(Any.str r1.1.a), (Any.str r1.1.b), (Any.str r1.1.c), (Any.int r1.1.d), (Any.str r1.1.e)])]) : Any), lstA p48 (y49 : (List Any)), imA (.ref p46) ((Any.tup [(Any.str ("put" : Str)), (Any.str (("x" : Str) ++ v_law_hand)), (Any.tup [(Any.str r1.1.a), (Any.str r1.1.b), (Any.str r1.1.c), (Any.int r1.1.d), (Any.str r1.1.e)])]) : Any), imA (.ref p32) ((Any.tup [(Any.str ("put" : Str)), (Any.str (v_law_hand ++ (Str.ofString (toString (v_law_puts : Int))))), (Any.tup [(Any.str r1.1.a), (Any.str r1.1.b), (Any.str r1.1.c), (Any.int r1.1.d), (Any.str r1.1.e)])]) : Any), imA (.ref p17) ((Any.tup [(Any.str ("put" : Str)), (Any.str (v_law_hand ++ (Str.ofString (toString (v_law_puts + 2 : Int))))), (Any.tup [(Any.str r1.1.a), (Any.str r1.1.b), (Any.str r1.1.c), (Any.int r1.1.d), (Any.str r1.1.e)])]) : Any), imA (.ref p2) (r1.1 : (T5 Str Str Str Int Str)), F], rfl, (hS.im (i := 0) rfl), Sep.unstar (M := [stA a_v_law_state (r119.2 : T3 Int Script Int)]) (hS.sel [1, 0, 2, 3, 4, 5, 6, 7, 8, 9, 10, 11, 12, 13, 14, 15, 16, 17, 18, 19, 20] (by decide) rfl : Sep H (([stA a_v_law_state (r119.2 : T3 Int Script Int)] ++ [imA p120 (r119.1 : Any), lstA p118 (([] : (List Str)) : (List Str)), imA (.ref p116) ((Any.tup [(Any.str ("put" : Str)), (Any.str ((v_law_hand ++ ("1" : Str)) ++ (Str.ofString (toString (v_law_puts + 1 : Int))))), (Any.tup [(Any.str r1.1.a), (Any.str r1.1.b), (Any.str r1.1.c), (Any.int r1.1.d), (Any.str r1.1.e)])]) : Any), lstA p100 (y101 : (List Any)), lstA p98 ([(Any.tup [(Any.str ("place" : Str)), (Any.str (v_law_hand ++ ("1" : Str)))]), (Any.tup [(Any.str ("mark" : Str)), (Any.str (v_law_hand ++ ("1" : Str))), (Any.str ("a" : Str)), (Any.int 1)]), (Any.lst (([("drop" : Str), v_law_hand ++ ("1" : Str)]).map Any.str)), Any.non, (Any.tup [(Any.str ("drop" : Str)), (Any.str ("A" : Str))])] : (List Any)), imA (.ref p96) ((Any.tup [(Any.str ("drop" : Str)), (Any.str ("A" : Str))]) : Any), imA (.ref p94) ([("drop" : Str), v_law_hand ++ ("1" : Str)] : (List Str)), imA (.ref p91) ((Any.tup [(Any.str ("mark" : Str)), (Any.str (v_law_hand ++ ("1" : Str))), (Any.str ("a" : Str)), (Any.int 1)]) : Any), imA (.ref p88) ((Any.tup [(Any.str ("place" : Str)), (Any.str (v_law_hand ++ ("1" : Str)))]) : Any), lstA p85 (y86 : (List Any)), lstA p83 ([(Any.tup [(Any.str ("put" : Str)), (Any.str ((v_law_hand ++ ("0" : Str)) ++ (Str.ofString (toString (v_law_puts + 1 : Int))))), (Any.tup [(Any.str r1.1.a), (Any.str r1.1.b), (Any.str r1.1.c), (Any.int r1.1.d), (Any.str r1.1.e)])]), (Any.tup [(Any.str ("put" : Str)), (Any.str (v_law_hand ++ (Str.ofString (toString (v_law_puts + 1 : Int))))), (Any.lst ([(Any.str r1.1.a), (Any.str r1.1.b), (Any.str r1.1.c), (Any.int r1.1.d), (Any.str r1.1.e)]))])] : (List Any)), imA (.ref p81) ((Any.tup [(Any.str ("put" : Str)), (Any.str (v_law_hand ++ (Str.ofString (toString (v_law_puts + 1 : Int))))), (Any.lst ([(Any.str r1.1.a), (Any.str r1.1.b), (Any.str r1.1.c), (Any.int r1.1.d), (Any.str r1.1.e)]))]) : Any), imA (.ref p68) ([(Any.str r1.1.a), (Any.str r1.1.b), (Any.str r1.1.c), (Any.int r1.1.d), (Any.str r1.1.e)] : (List Any)), imA (.ref p64) ((Any.tup [(Any.str ("put" : Str)), (Any.str ((v_law_hand ++ ("0" : Str)) ++ (Str.ofString (toString (v_law_puts + 1 : Int))))), (Any.tup [(Any.str r1.1.a), (Any.str r1.1.b), (Any.str r1.1.c), (Any.int r1.1.d), (Any.str r1.1.e)])]) : Any), lstA p48 (y49 : (List Any)), imA (.ref p46) ((Any.tup [(Any.str ("put" : Str)), (Any.str (("x" : Str) ++ v_law_hand)), (Any.tup [(Any.str r1.1.a), (Any.str r1.1.b), (Any.str r1.1.c), (Any.int r1.1.d), (Any.str r1.1.e)])]) : Any), imA (.ref p32) ((Any.tup [(Any.str ("put" : Str)), (Any.str (v_law_hand ++ (Str.ofString (toString (v_law_puts : Int))))), (Any.tup [(Any.str r1.1.a), (Any.str r1.1.b), (Any.str r1.1.c), (Any.int r1.1.d), (Any.str r1.1.e)])]) : Any), imA (.ref p17) ((Any.tup [(Any.str ("put" : Str)), (Any.str (v_law_hand ++ (Str.ofString (toString (v_law_puts + 2 : Int))))), (Any.tup [(Any.str r1.1.a), (Any.str r1.1.b), (Any.str r1.1.c), (Any.int r1.1.d), (Any.str r1.1.e)])]) : Any), imA (.ref p2) (r1.1 : (T5 Str Str Str Int Str)), F] : List (Asn G)))), R.wp_mono (R.wp_bind hm) (fun r122 hm p123 H hS => ?_) (fun _ z => z)⟩
    have hS : Sep H ([imA p123 (r122.1 : Any), stA a_v_law_state (r122.2 : T3 Int Script Int), imA p120 (r119.1 : Any), lstA p118 (([] : (List Str)) : (List Str)), imA (.ref p116) ((Any.tup [(Any.str ("put" : Str)), (Any.str ((v_law_hand ++ ("1" : Str)) ++ (Str.ofString (toString (v_law_puts + 1 : Int))))), (Any.tup [(Any.str r1.1.a), (Any.str r1.1.b), (Any.str r1.1.c), (Any.int r1.1.d), (Any.str r1.1.e)])]) : Any), lstA p100 (y101 : (List Any)), lstA p98 ([(Any.tup [(Any.str ("place" : Str)), (Any.str (v_law_hand ++ ("1" : Str)))]), (Any.tup [(Any.str ("mark" : Str)), (Any.str (v_law_hand ++ ("1" : Str))), (Any.str ("a" : Str)), (Any.int 1)]), (Any.lst (([("drop" : Str), v_law_hand ++ ("1" : Str)]).map Any.str)), Any.non, (Any.tup [(Any.str ("drop" : Str)), (Any.str ("A" : Str))])] : (List Any)), imA (.ref p96) ((Any.tup [(Any.str ("drop" : Str)), (Any.str ("A" : Str))]) : Any), imA (.ref p94) ([("drop" : Str), v_law_hand ++ ("1" : Str)] : (List Str)), imA (.ref p91) ((Any.tup [(Any.str ("mark" : Str)), (Any.str (v_law_hand ++ ("1" : Str))), (Any.str ("a" : Str)), (Any.int 1)]) : Any), imA (.ref p88) ((Any.tup [(Any.str ("place" : Str)), (Any.str (v_law_hand ++ ("1" : Str)))]) : Any), lstA p85 (y86 : (List Any)), lstA p83 ([(Any.tup [(Any.str ("put" : Str)), (Any.str ((v_law_hand ++ ("0" : Str)) ++ (Str.ofString (toString (v_law_puts + 1 : Int))))), (Any.tup [(Any.str r1.1.a), (Any.str r1.1.b), (Any.str r1.1.c), (Any.int r1.1.d), (Any.str r1.1.e)])]), (Any.tup [(Any.str ("put" : Str)), (Any.str (v_law_hand ++ (Str.ofString (toString (v_law_puts + 1 : Int))))), (Any.lst ([(Any.str r1.1.a), (Any.str r1.1.b), (Any.str r1.1.c), (Any.int r1.1.d), (Any.str r1.1.e)]))])] : (List Any)), imA (.ref p81) ((Any.tup [(Any.str ("put" : Str)), (Any.str (v_law_hand ++ (Str.ofString (toString (v_law_puts + 1 : Int))))), (Any.lst ([(Any.str r1.1.a), (Any.str r1.1.b), (Any.str r1.1.c), (Any.int r1.1.d), (Any.str r1.1.e)]))]) : Any), imA (.ref p68) ([(Any.str r1.1.a), (Any.str r1.1.b), (Any.str r1.1.c), (Any.int r1.1.d), (Any.str r1.1.e)] : (List Any)), imA (.ref p64) ((Any.tup [(Any.str ("put" : Str)), (Any.str ((v_law_hand ++ ("0" : Str)) ++ (Str.ofString (toString (v_law_puts + 1 : Int))))), (Any.tup [(Any.str r1.1.a), (Any.str r1.1.b), (Any.str r1.1.c), (Any.int r1.1.d), (Any.str r1.1.e)])]) : Any), lstA p48 (y49 : (List Any)), imA (.ref p46) ((Any.tup [(Any.str ("put" : Str)), (Any.str (("x" : Str) ++ v_law_hand)), (Any.tup [(Any.str r1.1.a), (Any.str r1.1.b), (Any.str r1.1.c), (Any.int r1.1.d), (Any.str r1.1.e)])]) : Any), imA (.ref p32) ((Any.tup [(Any.str ("put" : Str)), (Any.str (v_law_hand ++ (Str.ofString (toString (v_law_puts : Int))))), (Any.tup [(Any.str r1.1.a), (Any.str r1.1.b), (Any.str r1.1.c), (Any.int r1.1.d), (Any.str r1.1.e)])]) : Any), imA (.ref p17) ((Any.tup [(Any.str ("put" : Str)), (Any.str (v_law_hand ++ (Str.ofString (toString (v_law_puts + 2 : Int))))), (Any.tup [(Any.str r1.1.a), (Any.str r1.1.b), (Any.str r1.1.c), (Any.int r1.1.d), (Any.str r1.1.e)])]) : Any), imA (.ref p2) (r1.1 : (T5 Str Str Str Int Str)), F] : List (Asn G)) := Sep.star (M := [imA p123 (r122.1 : Any), stA a_v_law_state (r122.2 : T3 Int Script Int)]) hS
    refine c_nil ?_
    refine k_lst (α := Any) (vs := [(.ref p116), p123]) (xs := [(Any.tup [(Any.str ("put" : Str)), (Any.str ((v_law_hand ++ ("1" : Str)) ++ (Str.ofString (toString (v_law_puts + 1 : Int))))), (Any.tup [(Any.str r1.1.a), (Any.str r1.1.b), (Any.str r1.1.c), (Any.int r1.1.d), (Any.str r1.1.e)])]), r122.1]) hS ⟨(hS.im (i := 4) rfl), ⟨(hS.im (i := 0) rfl), True.intro⟩⟩ (by show 2 ≤ sizeLine; decide) fun p125 H hS => ?_
    refine fz_no ?_
    revert hm; refine R.need_rev fun h126 hm => ?_
    refine k_catG hS (hS.rdL (i := 6) rfl) (hS.rdL (i := 0) rfl) h126 fun p127 H hS => ?_
    refine fz_no ?_
    obtain ⟨y128, hy128, hm⟩ := wp_let hm
    have hS : Sep H ([lstA p127 (y128 : (List Any)), lstA p125 ([(Any.tup [(Any.str ("put" : Str)), (Any.str ((v_law_hand ++ ("1" : Str)) ++ (Str.ofString (toString (v_law_puts + 1 : Int))))), (Any.tup [(Any.str r1.1.a), (Any.str r1.1.b), (Any.str r1.1.c), (Any.int r1.1.d), (Any.str r1.1.e)])]), r122.1] : (List Any)), imA p123 (r122.1 : Any), stA a_v_law_state (r122.2 : T3 Int Script Int), imA p120 (r119.1 : Any), lstA p118 (([] : (List Str)) : (List Str)), imA (.ref p116) ((Any.tup [(Any.str ("put" : Str)), (Any.str ((v_law_hand ++ ("1" : Str)) ++ (Str.ofString (toString (v_law_puts + 1 : Int))))), (Any.tup [(Any.str r1.1.a), (Any.str r1.1.b), (Any.str r1.1.c), (Any.int r1.1.d), (Any.str r1.1.e)])]) : Any), lstA p100 (y101 : (List Any)), lstA p98 ([(Any.tup [(Any.str ("place" : Str)), (Any.str (v_law_hand ++ ("1" : Str)))]), (Any.tup [(Any.str ("mark" : Str)), (Any.str (v_law_hand ++ ("1" : Str))), (Any.str ("a" : Str)), (Any.int 1)]), (Any.lst (([("drop" : Str), v_law_hand ++ ("1" : Str)]).map Any.str)), Any.non, (Any.tup [(Any.str ("drop" : Str)), (Any.str ("A" : Str))])] : (List Any)), imA (.ref p96) ((Any.tup [(Any.str ("drop" : Str)), (Any.str ("A" : Str))]) : Any), imA (.ref p94) ([("drop" : Str), v_law_hand ++ ("1" : Str)] : (List Str)), imA (.ref p91) ((Any.tup [(Any.str ("mark" : Str)), (Any.str (v_law_hand ++ ("1" : Str))), (Any.str ("a" : Str)), (Any.int 1)]) : Any), imA (.ref p88) ((Any.tup [(Any.str ("place" : Str)), (Any.str (v_law_hand ++ ("1" : Str)))]) : Any), lstA p85 (y86 : (List Any)), lstA p83 ([(Any.tup [(Any.str ("put" : Str)), (Any.str ((v_law_hand ++ ("0" : Str)) ++ (Str.ofString (toString (v_law_puts + 1 : Int))))), (Any.tup [(Any.str r1.1.a), (Any.str r1.1.b), (Any.str r1.1.c), (Any.int r1.1.d), (Any.str r1.1.e)])]), (Any.tup [(Any.str ("put" : Str)), (Any.str (v_law_hand ++ (Str.ofString (toString (v_law_puts + 1 : Int))))), (Any.lst ([(Any.str r1.1.a), (Any.str r1.1.b), (Any.str r1.1.c), (Any.int r1.1.d), (Any.str r1.1.e)]))])] : (List Any)), imA (.ref p81) ((Any.tup [(Any.str ("put" : Str)), (Any.str (v_law_hand ++ (Str.ofString (toString (v_law_puts + 1 : Int))))), (Any.lst ([(Any.str r1.1.a), (Any.str r1.1.b), (Any.str r1.1.c), (Any.int r1.1.d), (Any.str r1.1.e)]))]) : Any), imA (.ref p68) ([(Any.str r1.1.a), (Any.str r1.1.b), (Any.str r1.1.c), (Any.int r1.1.d), (Any.str r1.1.e)] : (List Any)), imA (.ref p64) ((Any.tup [(Any.str ("put" : Str)), (Any.str ((v_law_hand ++ ("0" : Str)) ++ (Str.ofString (toString (v_law_puts + 1 : Int))))), (Any.tup [(Any.str r1.1.a), (Any.str r1.1.b), (Any.str r1.1.c), (Any.int r1.1.d), (Any.str r1.1.e)])]) : Any), lstA p48 (y49 : (List Any)), imA (.ref p46) ((Any.tup [(Any.str ("put" : Str)), (Any.str (("x" : Str) ++ v_law_hand)), (Any.tup [(Any.str r1.1.a), (Any.str r1.1.b), (Any.str r1.1.c), (Any.int r1.1.d), (Any.str r1.1.e)])]) : Any), imA (.ref p32) ((Any.tup [(Any.str ("put" : Str)), (Any.str (v_law_hand ++ (Str.ofString (toString (v_law_puts : Int))))), (Any.tup [(Any.str r1.1.a), (Any.str r1.1.b), (Any.str r1.1.c), (Any.int r1.1.d), (Any.str r1.1.e)])]) : Any), imA (.ref p17) ((Any.tup [(Any.str ("put" : Str)), (Any.str (v_law_hand ++ (Str.ofString (toString (v_law_puts + 2 : Int))))), (Any.tup [(Any.str r1.1.a), (Any.str r1.1.b), (Any.str r1.1.c), (Any.int r1.1.d), (Any.str r1.1.e)])]) : Any), imA (.ref p2) (r1.1 : (T5 Str Str Str Int Str)), F] : List (Asn G)) := by rw [← hy128]; exact hS
    refine c_set (σ' := [some (.ref a_v_law_state), some (.str (v_law_hand)), some (.int (v_law_puts)), some (.ref p2), some (.ref p127)]) rfl ?_
    refine sq_nx ?_
    refine c_ret ?_
    refine c_op ?_
    refine ev_to (ev_fz (ev_var rfl)) ?_
    refine c_op ?_
    refine c_fz ?_
    refine c_lst ?_
    refine c_cons ?_
    refine c_op ?_
    refine c_call ?_
    refine ea_to (ea_cons (ev_var rfl) ea_nil) ?_
    refine ⟨a_v_law_state, (r122.2 : (T3 Int Script Int)), star [lstA p127 (y128 : (List Any)), lstA p125 ([(Any.tup [(Any.str ("put" : Str)), (Any.str ((v_law_hand ++ ("1" : Str)) ++ (Str.ofString (toString (v_law_puts + 1 : Int))))), (Any.tup [(Any.str r1.1.a), (Any.str r1.1.b), (Any.str r1.1.c), (Any.int r1.1.d), (Any.str r1.1.e)])]), r122.1] : (List Any)), imA p123 (r122.1 : Any), imA p120 (r119.1 : Any), lstA p118 (([] : (List Str)) : (List Str)), imA (.ref p116) ((Any.tup [(Any.str ("put" : Str)), (Any.str ((v_law_hand ++ ("1" : Str)) ++ (Str.ofString (toString (v_law_puts + 1 : Int))))), (Any.tup [(Any.str r1.1.a), (Any.str r1.1.b), (Any.str r1.1.c), (Any.int r1.1.d), (Any.str r1.1.e)])]) : Any), lstA p100 (y101 : (List Any)), lstA p98 ([(Any.tup [(Any.str ("place" : Str)), (Any.str (v_law_hand ++ ("1" : Str)))]), (Any.tup [(Any.str ("mark" : Str)), (Any.str (v_law_hand ++ ("1" : Str))), (Any.str ("a" : Str)), (Any.int 1)]), (Any.lst (([("drop" : Str), v_law_hand ++ ("1" : Str)]).map Any.str)), Any.non, (Any.tup [(Any.str ("drop" : Str)), (Any.str ("A" : Str))])] : (List Any)), imA (.ref p96) ((Any.tup [(Any.str ("drop" : Str)), (Any.str ("A" : Str))]) : Any), imA (.ref p94) ([("drop" : Str), v_law_hand ++ ("1" : Str)] : (List Str)), imA (.ref p91) ((Any.tup [(Any.str ("mark" : Str)), (Any.str (v_law_hand ++ ("1" : Str))), (Any.str ("a" : Str)), (Any.int 1)]) : Any), imA (.ref p88) ((Any.tup [(Any.str ("place" : Str)), (Any.str (v_law_hand ++ ("1" : Str)))]) : Any), lstA p85 (y86 : (List Any)), lstA p83 ([(Any.tup [(Any.str ("put" : Str)), (Any.str ((v_law_hand ++ ("0" : Str)) ++ (Str.ofString (toString (v_law_puts + 1 : Int))))), (Any.tup [(Any.str r1.1.a), (Any.str r1.1.b), (Any.str r1.1.c), (Any.int r1.1.d), (Any.str r1.1.e)])]), (Any.tup [(Any.str ("put" : Str)), (Any.str (v_law_hand ++ (Str.ofString (toString (v_law_puts + 1 : Int))))), (Any.lst ([(Any.str r1.1.a), (Any.str r1.1.b), (Any.str r1.1.c), (Any.int r1.1.d), (Any.str r1.1.e)]))])] : (List Any)), imA (.ref p81) ((Any.tup [(Any.str ("put" : Str)), (Any.str (v_law_hand ++ (Str.ofString (toString (v_law_puts + 1 : Int))))), (Any.lst ([(Any.str r1.1.a), (Any.str r1.1.b), (Any.str r1.1.c), (Any.int r1.1.d), (Any.str r1.1.e)]))]) : Any), imA (.ref p68) ([(Any.str r1.1.a), (Any.str r1.1.b), (Any.str r1.1.c), (Any.int r1.1.d), (Any.str r1.1.e)] : (List Any)), imA (.ref p64) ((Any.tup [(Any.str ("put" : Str)), (Any.str ((v_law_hand ++ ("0" : Str)) ++ (Str.ofString (toString (v_law_puts + 1 : Int))))), (Any.tup [(Any.str r1.1.a), (Any.str r1.1.b), (Any.str r1.1.c), (Any.int r1.1.d), (Any.str r1.1.e)])]) : Any), lstA p48 (y49 : (List Any)), imA (.ref p46) ((Any.tup [(Any.str ("put" : Str)), (Any.str (("x" : Str) ++ v_law_hand)), (Any.tup [(Any.str r1.1.a), (Any.str r1.1.b), (Any.str r1.1.c), (Any.int r1.1.d), (Any.str r1.1.e)])]) : Any), imA (.ref p32) ((Any.tup [(Any.str ("put" : Str)), (Any.str (v_law_hand ++ (Str.ofString (toString (v_law_puts : Int))))), (Any.tup [(Any.str r1.1.a), (Any.str r1.1.b), (Any.str r1.1.c), (Any.int r1.1.d), (Any.str r1.1.e)])]) : Any), imA (.ref p17) ((Any.tup [(Any.str ("put" : Str)), (Any.str (v_law_hand ++ (Str.ofString (toString (v_law_puts + 2 : Int))))), (Any.tup [(Any.str r1.1.a), (Any.str r1.1.b), (Any.str r1.1.c), (Any.int r1.1.d), (Any.str r1.1.e)])]) : Any), imA (.ref p2) (r1.1 : (T5 Str Str Str Int Str)), F], rfl, Sep.unstar (M := [stA a_v_law_state (r122.2 : T3 Int Script Int)]) (hS.sel [3, 0, 1, 2, 4, 5, 6, 7, 8, 9, 10, 11, 12, 13, 14, 15, 16, 17, 18, 19, 20, 21, 22, 23] (by decide) rfl : Sep H (([stA a_v_law_state (r122.2 : T3 Int Script Int)] ++ [lstA p127 (y128 : (List Any)), lstA p125 ([(Any.tup [(Any.str ("put" : Str)), (Any.str ((v_law_hand ++ ("1" : Str)) ++ (Str.ofString (toString (v_law_puts + 1 : Int))))), (Any.tup [(Any.str r1.1.a), (Any.str r1.1.b), (Any.str r1.1.c), (Any.int r1.1.d), (Any.str r1.1.e)])]), r122.1] : (List Any)), imA p123 (r122.1 : Any), imA p120 (r119.1 : Any), lstA p118 (([] : (List Str)) : (List Str)), imA (.ref p116) ((Any.tup [(Any.str ("put" : Str)), (Any.str ((v_law_hand ++ ("1" : Str)) ++ (Str.ofString (toString (v_law_puts + 1 : Int))))), (Any.tup [(Any.str r1.1.a), (Any.str r1.1.b), (Any.str r1.1.c), (Any.int r1.1.d), (Any.str r1.1.e)])]) : Any), lstA p100 (y101 : (List Any)), lstA p98 ([(Any.tup [(Any.str ("place" : Str)), (Any.str (v_law_hand ++ ("1" : Str)))]), (Any.tup [(Any.str ("mark" : Str)), (Any.str (v_law_hand ++ ("1" : Str))), (Any.str ("a" : Str)), (Any.int 1)]), (Any.lst (([("drop" : Str), v_law_hand ++ ("1" : Str)]).map Any.str)), Any.non, (Any.tup [(Any.str ("drop" : Str)), (Any.str ("A" : Str))])] : (List Any)), imA (.ref p96) ((Any.tup [(Any.str ("drop" : Str)), (Any.str ("A" : Str))]) : Any), imA (.ref p94) ([("drop" : Str), v_law_hand ++ ("1" : Str)] : (List Str)), imA (.ref p91) ((Any.tup [(Any.str ("mark" : Str)), (Any.str (v_law_hand ++ ("1" : Str))), (Any.str ("a" : Str)), (Any.int 1)]) : Any), imA (.ref p88) ((Any.tup [(Any.str ("place" : Str)), (Any.str (v_law_hand ++ ("1" : Str)))]) : Any), lstA p85 (y86 : (List Any)), lstA p83 ([(Any.tup [(Any.str ("put" : Str)), (Any.str ((v_law_hand ++ ("0" : Str)) ++ (Str.ofString (toString (v_law_puts + 1 : Int))))), (Any.tup [(Any.str r1.1.a), (Any.str r1.1.b), (Any.str r1.1.c), (Any.int r1.1.d), (Any.str r1.1.e)])]), (Any.tup [(Any.str ("put" : Str)), (Any.str (v_law_hand ++ (Str.ofString (toString (v_law_puts + 1 : Int))))), (Any.lst ([(Any.str r1.1.a), (Any.str r1.1.b), (Any.str r1.1.c), (Any.int r1.1.d), (Any.str r1.1.e)]))])] : (List Any)), imA (.ref p81) ((Any.tup [(Any.str ("put" : Str)), (Any.str (v_law_hand ++ (Str.ofString (toString (v_law_puts + 1 : Int))))), (Any.lst ([(Any.str r1.1.a), (Any.str r1.1.b), (Any.str r1.1.c), (Any.int r1.1.d), (Any.str r1.1.e)]))]) : Any), imA (.ref p68) ([(Any.str r1.1.a), (Any.str r1.1.b), (Any.str r1.1.c), (Any.int r1.1.d), (Any.str r1.1.e)] : (List Any)), imA (.ref p64) ((Any.tup [(Any.str ("put" : Str)), (Any.str ((v_law_hand ++ ("0" : Str)) ++ (Str.ofString (toString (v_law_puts + 1 : Int))))), (Any.tup [(Any.str r1.1.a), (Any.str r1.1.b), (Any.str r1.1.c), (Any.int r1.1.d), (Any.str r1.1.e)])]) : Any), lstA p48 (y49 : (List Any)), imA (.ref p46) ((Any.tup [(Any.str ("put" : Str)), (Any.str (("x" : Str) ++ v_law_hand)), (Any.tup [(Any.str r1.1.a), (Any.str r1.1.b), (Any.str r1.1.c), (Any.int r1.1.d), (Any.str r1.1.e)])]) : Any), imA (.ref p32) ((Any.tup [(Any.str ("put" : Str)), (Any.str (v_law_hand ++ (Str.ofString (toString (v_law_puts : Int))))), (Any.tup [(Any.str r1.1.a), (Any.str r1.1.b), (Any.str r1.1.c), (Any.int r1.1.d), (Any.str r1.1.e)])]) : Any), imA (.ref p17) ((Any.tup [(Any.str ("put" : Str)), (Any.str (v_law_hand ++ (Str.ofString (toString (v_law_puts + 2 : Int))))), (Any.tup [(Any.str r1.1.a), (Any.str r1.1.b), (Any.str r1.1.c), (Any.int r1.1.d), (Any.str r1.1.e)])]) : Any), imA (.ref p2) (r1.1 : (T5 Str Str Str Int Str)), F] : List (Asn G)))), R.wp_mono (R.wp_bind hm) (fun r129 hm H hS => ?_) (fun _ z => z)⟩
    have hS : Sep H ([stA a_v_law_state (r129.2 : T3 Int Script Int), lstA p127 (y128 : (List Any)), lstA p125 ([(Any.tup [(Any.str ("put" : Str)), (Any.str ((v_law_hand ++ ("1" : Str)) ++ (Str.ofString (toString (v_law_puts + 1 : Int))))), (Any.tup [(Any.str r1.1.a), (Any.str r1.1.b), (Any.str r1.1.c), (Any.int r1.1.d), (Any.str r1.1.e)])]), r122.1] : (List Any)), imA p123 (r122.1 : Any), imA p120 (r119.1 : Any), lstA p118 (([] : (List Str)) : (List Str)), imA (.ref p116) ((Any.tup [(Any.str ("put" : Str)), (Any.str ((v_law_hand ++ ("1" : Str)) ++ (Str.ofString (toString (v_law_puts + 1 : Int))))), (Any.tup [(Any.str r1.1.a), (Any.str r1.1.b), (Any.str r1.1.c), (Any.int r1.1.d), (Any.str r1.1.e)])]) : Any), lstA p100 (y101 : (List Any)), lstA p98 ([(Any.tup [(Any.str ("place" : Str)), (Any.str (v_law_hand ++ ("1" : Str)))]), (Any.tup [(Any.str ("mark" : Str)), (Any.str (v_law_hand ++ ("1" : Str))), (Any.str ("a" : Str)), (Any.int 1)]), (Any.lst (([("drop" : Str), v_law_hand ++ ("1" : Str)]).map Any.str)), Any.non, (Any.tup [(Any.str ("drop" : Str)), (Any.str ("A" : Str))])] : (List Any)), imA (.ref p96) ((Any.tup [(Any.str ("drop" : Str)), (Any.str ("A" : Str))]) : Any), imA (.ref p94) ([("drop" : Str), v_law_hand ++ ("1" : Str)] : (List Str)), imA (.ref p91) ((Any.tup [(Any.str ("mark" : Str)), (Any.str (v_law_hand ++ ("1" : Str))), (Any.str ("a" : Str)), (Any.int 1)]) : Any), imA (.ref p88) ((Any.tup [(Any.str ("place" : Str)), (Any.str (v_law_hand ++ ("1" : Str)))]) : Any), lstA p85 (y86 : (List Any)), lstA p83 ([(Any.tup [(Any.str ("put" : Str)), (Any.str ((v_law_hand ++ ("0" : Str)) ++ (Str.ofString (toString (v_law_puts + 1 : Int))))), (Any.tup [(Any.str r1.1.a), (Any.str r1.1.b), (Any.str r1.1.c), (Any.int r1.1.d), (Any.str r1.1.e)])]), (Any.tup [(Any.str ("put" : Str)), (Any.str (v_law_hand ++ (Str.ofString (toString (v_law_puts + 1 : Int))))), (Any.lst ([(Any.str r1.1.a), (Any.str r1.1.b), (Any.str r1.1.c), (Any.int r1.1.d), (Any.str r1.1.e)]))])] : (List Any)), imA (.ref p81) ((Any.tup [(Any.str ("put" : Str)), (Any.str (v_law_hand ++ (Str.ofString (toString (v_law_puts + 1 : Int))))), (Any.lst ([(Any.str r1.1.a), (Any.str r1.1.b), (Any.str r1.1.c), (Any.int r1.1.d), (Any.str r1.1.e)]))]) : Any), imA (.ref p68) ([(Any.str r1.1.a), (Any.str r1.1.b), (Any.str r1.1.c), (Any.int r1.1.d), (Any.str r1.1.e)] : (List Any)), imA (.ref p64) ((Any.tup [(Any.str ("put" : Str)), (Any.str ((v_law_hand ++ ("0" : Str)) ++ (Str.ofString (toString (v_law_puts + 1 : Int))))), (Any.tup [(Any.str r1.1.a), (Any.str r1.1.b), (Any.str r1.1.c), (Any.int r1.1.d), (Any.str r1.1.e)])]) : Any), lstA p48 (y49 : (List Any)), imA (.ref p46) ((Any.tup [(Any.str ("put" : Str)), (Any.str (("x" : Str) ++ v_law_hand)), (Any.tup [(Any.str r1.1.a), (Any.str r1.1.b), (Any.str r1.1.c), (Any.int r1.1.d), (Any.str r1.1.e)])]) : Any), imA (.ref p32) ((Any.tup [(Any.str ("put" : Str)), (Any.str (v_law_hand ++ (Str.ofString (toString (v_law_puts : Int))))), (Any.tup [(Any.str r1.1.a), (Any.str r1.1.b), (Any.str r1.1.c), (Any.int r1.1.d), (Any.str r1.1.e)])]) : Any), imA (.ref p17) ((Any.tup [(Any.str ("put" : Str)), (Any.str (v_law_hand ++ (Str.ofString (toString (v_law_puts + 2 : Int))))), (Any.tup [(Any.str r1.1.a), (Any.str r1.1.b), (Any.str r1.1.c), (Any.int r1.1.d), (Any.str r1.1.e)])]) : Any), imA (.ref p2) (r1.1 : (T5 Str Str Str Int Str)), F] : List (Asn G)) := Sep.star (M := [stA a_v_law_state (r129.2 : T3 Int Script Int)]) hS
    refine ev_to ev_c ?_
    refine r_mod (by decide) ?_
    refine c_cons ?_
    refine ev_to ev_c ?_
    refine c_nil ?_
    refine k_lst (α := Int) (vs := [(.int (r129.1 % 11)), (.int (11))]) (xs := [r129.1 % 11, 11]) hS ⟨rfl, ⟨rfl, True.intro⟩⟩ (by show 2 ≤ sizeLine; decide) fun p130 H hS => ?_
    refine fz_no ?_
    refine c_op ?_
    refine c_call ?_
    refine ea_to (ea_cons (ev_var rfl) ea_nil) ?_
    refine ⟨a_v_law_state, (r129.2 : (T3 Int Script Int)), star [lstA p130 ([r129.1 % 11, 11] : (List Int)), lstA p127 (y128 : (List Any)), lstA p125 ([(Any.tup [(Any.str ("put" : Str)), (Any.str ((v_law_hand ++ ("1" : Str)) ++ (Str.ofString (toString (v_law_puts + 1 : Int))))), (Any.tup [(Any.str r1.1.a), (Any.str r1.1.b), (Any.str r1.1.c), (Any.int r1.1.d), (Any.str r1.1.e)])]), r122.1] : (List Any)), imA p123 (r122.1 : Any), imA p120 (r119.1 : Any), lstA p118 (([] : (List Str)) : (List Str)), imA (.ref p116) ((Any.tup [(Any.str ("put" : Str)), (Any.str ((v_law_hand ++ ("1" : Str)) ++ (Str.ofString (toString (v_law_puts + 1 : Int))))), (Any.tup [(Any.str r1.1.a), (Any.str r1.1.b), (Any.str r1.1.c), (Any.int r1.1.d), (Any.str r1.1.e)])]) : Any), lstA p100 (y101 : (List Any)), lstA p98 ([(Any.tup [(Any.str ("place" : Str)), (Any.str (v_law_hand ++ ("1" : Str)))]), (Any.tup [(Any.str ("mark" : Str)), (Any.str (v_law_hand ++ ("1" : Str))), (Any.str ("a" : Str)), (Any.int 1)]), (Any.lst (([("drop" : Str), v_law_hand ++ ("1" : Str)]).map Any.str)), Any.non, (Any.tup [(Any.str ("drop" : Str)), (Any.str ("A" : Str))])] : (List Any)), imA (.ref p96) ((Any.tup [(Any.str ("drop" : Str)), (Any.str ("A" : Str))]) : Any), imA (.ref p94) ([("drop" : Str), v_law_hand ++ ("1" : Str)] : (List Str)), imA (.ref p91) ((Any.tup [(Any.str ("mark" : Str)), (Any.str (v_law_hand ++ ("1" : Str))), (Any.str ("a" : Str)), (Any.int 1)]) : Any), imA (.ref p88) ((Any.tup [(Any.str ("place" : Str)), (Any.str (v_law_hand ++ ("1" : Str)))]) : Any), lstA p85 (y86 : (List Any)), lstA p83 ([(Any.tup [(Any.str ("put" : Str)), (Any.str ((v_law_hand ++ ("0" : Str)) ++ (Str.ofString (toString (v_law_puts + 1 : Int))))), (Any.tup [(Any.str r1.1.a), (Any.str r1.1.b), (Any.str r1.1.c), (Any.int r1.1.d), (Any.str r1.1.e)])]), (Any.tup [(Any.str ("put" : Str)), (Any.str (v_law_hand ++ (Str.ofString (toString (v_law_puts + 1 : Int))))), (Any.lst ([(Any.str r1.1.a), (Any.str r1.1.b), (Any.str r1.1.c), (Any.int r1.1.d), (Any.str r1.1.e)]))])] : (List Any)), imA (.ref p81) ((Any.tup [(Any.str ("put" : Str)), (Any.str (v_law_hand ++ (Str.ofString (toString (v_law_puts + 1 : Int))))), (Any.lst ([(Any.str r1.1.a), (Any.str r1.1.b), (Any.str r1.1.c), (Any.int r1.1.d), (Any.str r1.1.e)]))]) : Any), imA (.ref p68) ([(Any.str r1.1.a), (Any.str r1.1.b), (Any.str r1.1.c), (Any.int r1.1.d), (Any.str r1.1.e)] : (List Any)), imA (.ref p64) ((Any.tup [(Any.str ("put" : Str)), (Any.str ((v_law_hand ++ ("0" : Str)) ++ (Str.ofString (toString (v_law_puts + 1 : Int))))), (Any.tup [(Any.str r1.1.a), (Any.str r1.1.b), (Any.str r1.1.c), (Any.int r1.1.d), (Any.str r1.1.e)])]) : Any), lstA p48 (y49 : (List Any)), imA (.ref p46) ((Any.tup [(Any.str ("put" : Str)), (Any.str (("x" : Str) ++ v_law_hand)), (Any.tup [(Any.str r1.1.a), (Any.str r1.1.b), (Any.str r1.1.c), (Any.int r1.1.d), (Any.str r1.1.e)])]) : Any), imA (.ref p32) ((Any.tup [(Any.str ("put" : Str)), (Any.str (v_law_hand ++ (Str.ofString (toString (v_law_puts : Int))))), (Any.tup [(Any.str r1.1.a), (Any.str r1.1.b), (Any.str r1.1.c), (Any.int r1.1.d), (Any.str r1.1.e)])]) : Any), imA (.ref p17) ((Any.tup [(Any.str ("put" : Str)), (Any.str (v_law_hand ++ (Str.ofString (toString (v_law_puts + 2 : Int))))), (Any.tup [(Any.str r1.1.a), (Any.str r1.1.b), (Any.str r1.1.c), (Any.int r1.1.d), (Any.str r1.1.e)])]) : Any), imA (.ref p2) (r1.1 : (T5 Str Str Str Int Str)), F], rfl, Sep.unstar (M := [stA a_v_law_state (r129.2 : T3 Int Script Int)]) (hS.sel [1, 0, 2, 3, 4, 5, 6, 7, 8, 9, 10, 11, 12, 13, 14, 15, 16, 17, 18, 19, 20, 21, 22, 23, 24] (by decide) rfl : Sep H (([stA a_v_law_state (r129.2 : T3 Int Script Int)] ++ [lstA p130 ([r129.1 % 11, 11] : (List Int)), lstA p127 (y128 : (List Any)), lstA p125 ([(Any.tup [(Any.str ("put" : Str)), (Any.str ((v_law_hand ++ ("1" : Str)) ++ (Str.ofString (toString (v_law_puts + 1 : Int))))), (Any.tup [(Any.str r1.1.a), (Any.str r1.1.b), (Any.str r1.1.c), (Any.int r1.1.d), (Any.str r1.1.e)])]), r122.1] : (List Any)), imA p123 (r122.1 : Any), imA p120 (r119.1 : Any), lstA p118 (([] : (List Str)) : (List Str)), imA (.ref p116) ((Any.tup [(Any.str ("put" : Str)), (Any.str ((v_law_hand ++ ("1" : Str)) ++ (Str.ofString (toString (v_law_puts + 1 : Int))))), (Any.tup [(Any.str r1.1.a), (Any.str r1.1.b), (Any.str r1.1.c), (Any.int r1.1.d), (Any.str r1.1.e)])]) : Any), lstA p100 (y101 : (List Any)), lstA p98 ([(Any.tup [(Any.str ("place" : Str)), (Any.str (v_law_hand ++ ("1" : Str)))]), (Any.tup [(Any.str ("mark" : Str)), (Any.str (v_law_hand ++ ("1" : Str))), (Any.str ("a" : Str)), (Any.int 1)]), (Any.lst (([("drop" : Str), v_law_hand ++ ("1" : Str)]).map Any.str)), Any.non, (Any.tup [(Any.str ("drop" : Str)), (Any.str ("A" : Str))])] : (List Any)), imA (.ref p96) ((Any.tup [(Any.str ("drop" : Str)), (Any.str ("A" : Str))]) : Any), imA (.ref p94) ([("drop" : Str), v_law_hand ++ ("1" : Str)] : (List Str)), imA (.ref p91) ((Any.tup [(Any.str ("mark" : Str)), (Any.str (v_law_hand ++ ("1" : Str))), (Any.str ("a" : Str)), (Any.int 1)]) : Any), imA (.ref p88) ((Any.tup [(Any.str ("place" : Str)), (Any.str (v_law_hand ++ ("1" : Str)))]) : Any), lstA p85 (y86 : (List Any)), lstA p83 ([(Any.tup [(Any.str ("put" : Str)), (Any.str ((v_law_hand ++ ("0" : Str)) ++ (Str.ofString (toString (v_law_puts + 1 : Int))))), (Any.tup [(Any.str r1.1.a), (Any.str r1.1.b), (Any.str r1.1.c), (Any.int r1.1.d), (Any.str r1.1.e)])]), (Any.tup [(Any.str ("put" : Str)), (Any.str (v_law_hand ++ (Str.ofString (toString (v_law_puts + 1 : Int))))), (Any.lst ([(Any.str r1.1.a), (Any.str r1.1.b), (Any.str r1.1.c), (Any.int r1.1.d), (Any.str r1.1.e)]))])] : (List Any)), imA (.ref p81) ((Any.tup [(Any.str ("put" : Str)), (Any.str (v_law_hand ++ (Str.ofString (toString (v_law_puts + 1 : Int))))), (Any.lst ([(Any.str r1.1.a), (Any.str r1.1.b), (Any.str r1.1.c), (Any.int r1.1.d), (Any.str r1.1.e)]))]) : Any), imA (.ref p68) ([(Any.str r1.1.a), (Any.str r1.1.b), (Any.str r1.1.c), (Any.int r1.1.d), (Any.str r1.1.e)] : (List Any)), imA (.ref p64) ((Any.tup [(Any.str ("put" : Str)), (Any.str ((v_law_hand ++ ("0" : Str)) ++ (Str.ofString (toString (v_law_puts + 1 : Int))))), (Any.tup [(Any.str r1.1.a), (Any.str r1.1.b), (Any.str r1.1.c), (Any.int r1.1.d), (Any.str r1.1.e)])]) : Any), lstA p48 (y49 : (List Any)), imA (.ref p46) ((Any.tup [(Any.str ("put" : Str)), (Any.str (("x" : Str) ++ v_law_hand)), (Any.tup [(Any.str r1.1.a), (Any.str r1.1.b), (Any.str r1.1.c), (Any.int r1.1.d), (Any.str r1.1.e)])]) : Any), imA (.ref p32) ((Any.tup [(Any.str ("put" : Str)), (Any.str (v_law_hand ++ (Str.ofString (toString (v_law_puts : Int))))), (Any.tup [(Any.str r1.1.a), (Any.str r1.1.b), (Any.str r1.1.c), (Any.int r1.1.d), (Any.str r1.1.e)])]) : Any), imA (.ref p17) ((Any.tup [(Any.str ("put" : Str)), (Any.str (v_law_hand ++ (Str.ofString (toString (v_law_puts + 2 : Int))))), (Any.tup [(Any.str r1.1.a), (Any.str r1.1.b), (Any.str r1.1.c), (Any.int r1.1.d), (Any.str r1.1.e)])]) : Any), imA (.ref p2) (r1.1 : (T5 Str Str Str Int Str)), F] : List (Asn G)))), R.wp_mono (R.wp_bind hm) (fun r131 hm H hS => ?_) (fun _ z => z)⟩
    have hS : Sep H ([stA a_v_law_state (r131.2 : T3 Int Script Int), lstA p130 ([r129.1 % 11, 11] : (List Int)), lstA p127 (y128 : (List Any)), lstA p125 ([(Any.tup [(Any.str ("put" : Str)), (Any.str ((v_law_hand ++ ("1" : Str)) ++ (Str.ofString (toString (v_law_puts + 1 : Int))))), (Any.tup [(Any.str r1.1.a), (Any.str r1.1.b), (Any.str r1.1.c), (Any.int r1.1.d), (Any.str r1.1.e)])]), r122.1] : (List Any)), imA p123 (r122.1 : Any), imA p120 (r119.1 : Any), lstA p118 (([] : (List Str)) : (List Str)), imA (.ref p116) ((Any.tup [(Any.str ("put" : Str)), (Any.str ((v_law_hand ++ ("1" : Str)) ++ (Str.ofString (toString (v_law_puts + 1 : Int))))), (Any.tup [(Any.str r1.1.a), (Any.str r1.1.b), (Any.str r1.1.c), (Any.int r1.1.d), (Any.str r1.1.e)])]) : Any), lstA p100 (y101 : (List Any)), lstA p98 ([(Any.tup [(Any.str ("place" : Str)), (Any.str (v_law_hand ++ ("1" : Str)))]), (Any.tup [(Any.str ("mark" : Str)), (Any.str (v_law_hand ++ ("1" : Str))), (Any.str ("a" : Str)), (Any.int 1)]), (Any.lst (([("drop" : Str), v_law_hand ++ ("1" : Str)]).map Any.str)), Any.non, (Any.tup [(Any.str ("drop" : Str)), (Any.str ("A" : Str))])] : (List Any)), imA (.ref p96) ((Any.tup [(Any.str ("drop" : Str)), (Any.str ("A" : Str))]) : Any), imA (.ref p94) ([("drop" : Str), v_law_hand ++ ("1" : Str)] : (List Str)), imA (.ref p91) ((Any.tup [(Any.str ("mark" : Str)), (Any.str (v_law_hand ++ ("1" : Str))), (Any.str ("a" : Str)), (Any.int 1)]) : Any), imA (.ref p88) ((Any.tup [(Any.str ("place" : Str)), (Any.str (v_law_hand ++ ("1" : Str)))]) : Any), lstA p85 (y86 : (List Any)), lstA p83 ([(Any.tup [(Any.str ("put" : Str)), (Any.str ((v_law_hand ++ ("0" : Str)) ++ (Str.ofString (toString (v_law_puts + 1 : Int))))), (Any.tup [(Any.str r1.1.a), (Any.str r1.1.b), (Any.str r1.1.c), (Any.int r1.1.d), (Any.str r1.1.e)])]), (Any.tup [(Any.str ("put" : Str)), (Any.str (v_law_hand ++ (Str.ofString (toString (v_law_puts + 1 : Int))))), (Any.lst ([(Any.str r1.1.a), (Any.str r1.1.b), (Any.str r1.1.c), (Any.int r1.1.d), (Any.str r1.1.e)]))])] : (List Any)), imA (.ref p81) ((Any.tup [(Any.str ("put" : Str)), (Any.str (v_law_hand ++ (Str.ofString (toString (v_law_puts + 1 : Int))))), (Any.lst ([(Any.str r1.1.a), (Any.str r1.1.b), (Any.str r1.1.c), (Any.int r1.1.d), (Any.str r1.1.e)]))]) : Any), imA (.ref p68) ([(Any.str r1.1.a), (Any.str r1.1.b), (Any.str r1.1.c), (Any.int r1.1.d), (Any.str r1.1.e)] : (List Any)), imA (.ref p64) ((Any.tup [(Any.str ("put" : Str)), (Any.str ((v_law_hand ++ ("0" : Str)) ++ (Str.ofString (toString (v_law_puts + 1 : Int))))), (Any.tup [(Any.str r1.1.a), (Any.str r1.1.b), (Any.str r1.1.c), (Any.int r1.1.d), (Any.str r1.1.e)])]) : Any), lstA p48 (y49 : (List Any)), imA (.ref p46) ((Any.tup [(Any.str ("put" : Str)), (Any.str (("x" : Str) ++ v_law_hand)), (Any.tup [(Any.str r1.1.a), (Any.str r1.1.b), (Any.str r1.1.c), (Any.int r1.1.d), (Any.str r1.1.e)])]) : Any), imA (.ref p32) ((Any.tup [(Any.str ("put" : Str)), (Any.str (v_law_hand ++ (Str.ofString (toString (v_law_puts : Int))))), (Any.tup [(Any.str r1.1.a), (Any.str r1.1.b), (Any.str r1.1.c), (Any.int r1.1.d), (Any.str r1.1.e)])]) : Any), imA (.ref p17) ((Any.tup [(Any.str ("put" : Str)), (Any.str (v_law_hand ++ (Str.ofString (toString (v_law_puts + 2 : Int))))), (Any.tup [(Any.str r1.1.a), (Any.str r1.1.b), (Any.str r1.1.c), (Any.int r1.1.d), (Any.str r1.1.e)])]) : Any), imA (.ref p2) (r1.1 : (T5 Str Str Str Int Str)), F] : List (Asn G)) := Sep.star (M := [stA a_v_law_state (r131.2 : T3 Int Script Int)]) hS
    refine ev_to ev_c ?_
    refine r_mod (by decide) ?_
    obtain ⟨x132, hx132, hm⟩ := wp_idx hm
    refine r_ixSq (hS.sqF (i := 1) rfl) (atI_map hx132) _ ?_
    obtain ⟨x133, hx133, hm⟩ := wp_idx hm
    obtain ⟨vs134, hq135, hM136⟩ := hS.sq (i := 2) rfl
    obtain ⟨u137, hu138, hi139⟩ := atI_im hM136 hx133
    refine r_ixSq hq135 hu138 _ ?_
    have hS := hS.addIm (v := u137) (x := (x133 : Any)) hi139
    exact hm _ _ (hS.sel [0, 1, 25] (by decide) rfl)
def sp_law_looked (G : Gx) : Sp := fun vs H Q E => ∃ (a_v_law_ledger : Addr) (v_law_ledger : Ledger) (a_v_law_rows : Addr) (v_law_rows : (List (T4 Int Str Int Any))) (v_law_way : Int) (F : Asn G), vs = [.ref a_v_law_ledger, .ref a_v_law_rows, (.int (v_law_way))] ∧ Sep H ([LedgerA a_v_law_ledger v_law_ledger, lstA a_v_law_rows (v_law_rows : (List (T4 Int Str Int Any))), F] : List (Asn G)) ∧ R.wp (m_law_looked v_law_ledger v_law_rows v_law_way) (fun r => ∀ H', Sep H' ([LedgerA a_v_law_ledger v_law_ledger, lstA a_v_law_rows (v_law_rows : (List (T4 Int Str Int Any))), F] : List (Asn G)) → Q (.bl (r)) H') (fun _ => False)
abbrev N_law_looked : List Str := ["_law_ledger", "_law_rows", "_law_way", "_law_due", "_law_found"]
theorem sc_law_looked : FnScope N_law_looked ["_law_ledger", "_law_rows", "_law_way"] (defScope s_law_looked) := ⟨rfl, rfl, rfl, by decide +kernel, rfl, by decide +kernel, by decide +kernel⟩
theorem ok_law_looked (T : Txt G mg) : FnOk P w G.K mg base CX0 3 T.a_law_looked T.fd_law_looked ["_law_ledger", "_law_rows", "_law_way"] (sp_law_looked G) := by
  have nd := sc_law_looked.nd
  refine Fun.ok T.F_law_looked sc_law_looked (fun vs H Q E h => ?_) (fun cdv A outer s H vs Q E hr h => ?_)
  · obtain ⟨a_v_law_ledger, v_law_ledger, a_v_law_rows, v_law_rows, v_law_way, F, rfl, _⟩ := h; rfl
  · obtain ⟨a_v_law_ledger, v_law_ledger, a_v_law_rows, v_law_rows, v_law_way, F, rfl, hS, hm⟩ := h
    refine ⟨_, (pss_cons (ps_set (i := 3) nd rfl (Or.inl rfl) pe_dnewK)
      (pss_cons (ps_if (pt_cmpR (neDK G.K hr.units) (pe_fz (pv 1)) (pe_fz (pe_lst pa_nil)) (nomark _)) (pss_one (ps_set (i := 3) nd rfl (Or.inl rfl) (pe_disp (pps_cons (pe_fld (pv 0) rfl) (pe_callB (lenSqK G.K) (by rfl) T.z_len PySem.boot_len (pa_cons (pe_fz (pv 1)) pa_nil)) pps_nil) rfl rfl (by simp) (by show 1 ≤ 15; decide)))) pss_nil)
      (pss_cons (ps_if (PW.pt (pw_and (pt_cmpR op_eq (pv 2) pe_int (nomark _)) (pw_and1 (pt_cmpR (op_ne_dictR (unR hr)) (pe_meth0 (pv 0) T.cl_Ledger T.m_Ledger_have (ok_Ledger_have T) (hr.mono (by decide)) T.b_Ledger_have .nil pass0) (pv 3) (nomark _))))) (pss_one (ps_ret pe_bl)) pss_nil)
      (pss_cons (ps_set (i := 4) nd rfl (Or.inl rfl) (pe_fz (pe_meth0 (pv 0) T.cl_Ledger T.m_Ledger_told (ok_Ledger_told T) (hr.mono (by decide)) (T.bd_Ledger_told_1).2 (T.bd_Ledger_told_1).1 pass0)))
      (pss_one (ps_ret (pe_and (pe_callB (isiK G.K) (by rfl) T.z_isinstance (by decide +kernel) (pa_cons (pe_fz (pv 4)) (pa_cons (pe_bltn (v := .ty "list") (by rfl) T.z_list (by decide +kernel) rfl) pa_nil))) (pe_and (pe_cmpR (eqDK G.K hr.units) (pe_fz (pv 4)) (pe_fz (pv 1)) (nomark _)) (pe_one (pe_cmpR (op_eq_dictR (unR hr)) (pe_meth0 (pv 0) T.cl_Ledger T.m_Ledger_have (ok_Ledger_have T) (hr.mono (by decide)) T.b_Ledger_have .nil pass0) (pv 3) (nomark _))))))))))), ?_⟩
    unfold m_law_looked at hm
    have hS : Sep H (LedgerA a_v_law_ledger v_law_ledger :: [lstA a_v_law_rows (v_law_rows : (List (T4 Int Str Int Any))), F] : List (Asn G)) := hS.sel [0, 1, 2] (by decide) rfl
    obtain ⟨dx1, p2, hS⟩ := open_Ledger hS
    have hS : Sep H ([cell a_v_law_ledger (.ins (G.cl 8) dx1 [("hand", (.str (v_law_ledger.hand))), ("kept", (.ref p2))]), dictE lstA p2 (v_law_ledger.kept : (List (Str × (List (T4 Int Str Int Any))))), lstA a_v_law_rows (v_law_rows : (List (T4 Int Str Int Any))), F] : List (Asn G)) := hS
    refine f_seq ?_
    refine c_asg ?_
    refine k_dnew (κ := Str) (β := Int) hS fun p3 H hS => ?_
    refine c_set (σ' := [some (.ref a_v_law_ledger), some (.ref a_v_law_rows), some (.int (v_law_way)), some (.ref p3), none]) rfl ?_
    refine sq_nx ?_
    refine f_seq ?_
    refine f_if ?_
    refine f_test ?_
    refine c_op ?_
    refine ev_to (ev_fz (ev_var rfl)) ?_
    refine c_fz ?_
    refine c_lst ?_
    refine ea_to ea_nil ?_
    refine k_lst (α := (T4 Int Str Int Any)) (vs := []) (xs := ([] : (List (T4 Int Str Int Any)))) hS True.intro (by show 0 ≤ sizeLine; decide) fun p4 H hS => ?_
    refine fz_no ?_
    obtain ⟨b5, hb5, hm⟩ := wp_eqA hm
    refine ev_op2 (ev_neO ev_c ev_c (dpOwn4 hS (i := 4) rfl) (dpOwn4 hS (i := 0) rfl) hb5) ?_
    refine f_bl ?_
    refine ifK_J (τ := (List (Str × Int))) (fun (s6 : (List (Str × Int))) (σ : L2.St) (H : Hp) => ∃ (a7 : Addr), σ = [some (.ref a_v_law_ledger), some (.ref a_v_law_rows), some (.int (v_law_way)), some (.ref a7), none] ∧ Sep H ([lstA p4 (([] : (List (T4 Int Str Int Any))) : (List (T4 Int Str Int Any))), dictA a7 (s6 : (List (Str × Int))), cell a_v_law_ledger (.ins (G.cl 8) dx1 [("hand", (.str (v_law_ledger.hand))), ("kept", (.ref p2))]), dictE lstA p2 (v_law_ledger.kept : (List (Str × (List (T4 Int Str Int Any))))), lstA a_v_law_rows (v_law_rows : (List (T4 Int Str Int Any))), F] : List (Asn G))) hm (fun hb q hm nx => ?_) (fun hb q hm nx => ?_) (fun s6 σ H hm hI => ?_)
    ·
      refine c_asg ?_
      refine c_disp ?_
      refine k_disp (κ := Str) (β := Int) hS fun p8 H hS => ?_
      have hS : Sep H ([dictA p8 (([] : (List (Str × Int))) : (List (Str × Int))), lstA p4 (([] : (List (T4 Int Str Int Any))) : (List (T4 Int Str Int Any))), dictA p3 (([] : (List (Str × Int))) : (List (Str × Int))), cell a_v_law_ledger (.ins (G.cl 8) dx1 [("hand", (.str (v_law_ledger.hand))), ("kept", (.ref p2))]), dictE lstA p2 (v_law_ledger.kept : (List (Str × (List (T4 Int Str Int Any))))), lstA a_v_law_rows (v_law_rows : (List (T4 Int Str Int Any))), F] : List (Asn G)) := hS
      refine pr_cons ?_
      refine ev_to (ev_fld (ev_var rfl) (hS.getCell (i := 3) rfl) T.cl_Ledger T.n_Ledger_hand rfl) ?_
      refine pr_1 ?_
      refine ev_to (ev_lenG (ev_fz (ev_var rfl)) (hS.sq (i := 5) rfl)) ?_
      refine pr_2 ?_
      refine pr_nil ?_
      refine k_dispEnd (qs := ([(v_law_ledger.hand, (v_law_rows.length : Int))] : (List (Str × Int)))) (kvs := [(Kx.key v_law_ledger.hand, (.int ((v_law_rows.length : Int))))]) hS (i := 0) rfl rfl ⟨⟨rfl, rfl⟩, True.intro⟩ (by show 1 ≤ 15; decide) rfl fun H hS => ?_
      have hS : Sep H ([dictA p8 (mergeD [] ([(v_law_ledger.hand, (v_law_rows.length : Int))] : (List (Str × Int))) : (List (Str × Int))), lstA p4 (([] : (List (T4 Int Str Int Any))) : (List (T4 Int Str Int Any))), dictA p3 (([] : (List (Str × Int))) : (List (Str × Int))), cell a_v_law_ledger (.ins (G.cl 8) dx1 [("hand", (.str (v_law_ledger.hand))), ("kept", (.ref p2))]), dictE lstA p2 (v_law_ledger.kept : (List (Str × (List (T4 Int Str Int Any))))), lstA a_v_law_rows (v_law_rows : (List (T4 Int Str Int Any))), F] : List (Asn G)) := hS
      obtain ⟨y9, hy9, hm⟩ := wp_let hm
      have hS : Sep H ([dictA p8 (y9 : (List (Str × Int))), lstA p4 (([] : (List (T4 Int Str Int Any))) : (List (T4 Int Str Int Any))), dictA p3 (([] : (List (Str × Int))) : (List (Str × Int))), cell a_v_law_ledger (.ins (G.cl 8) dx1 [("hand", (.str (v_law_ledger.hand))), ("kept", (.ref p2))]), dictE lstA p2 (v_law_ledger.kept : (List (Str × (List (T4 Int Str Int Any))))), lstA a_v_law_rows (v_law_rows : (List (T4 Int Str Int Any))), F] : List (Asn G)) := by rw [← hy9]; exact hS
      refine c_set (σ' := [some (.ref a_v_law_ledger), some (.ref a_v_law_rows), some (.int (v_law_way)), some (.ref p8), none]) rfl ?_
      exact nx _ _ _ hm ⟨_, rfl, hS.sel [1, 0, 3, 4, 5, 6] (by decide) rfl⟩
    ·
      refine st_nx ?_
      exact nx _ _ _ hm ⟨_, rfl, hS.sel [0, 1, 2, 3, 4, 5] (by decide) rfl⟩
    · obtain ⟨a7, rfl, hS⟩ := hI
      refine sq_nx ?_
      refine f_seq ?_
      refine f_if ?_
      refine f_and ?_
      refine et_to (et_test (ev_eqI (ev_var rfl) ev_c)) ?_
      have hS : Sep H (LedgerA a_v_law_ledger v_law_ledger :: [lstA p4 (([] : (List (T4 Int Str Int Any))) : (List (T4 Int Str Int Any))), dictA a7 (s6 : (List (Str × Int))), lstA a_v_law_rows (v_law_rows : (List (T4 Int Str Int Any))), F] : List (Asn G)) := pack_Ledger (hS.sel [2, 3, 0, 1, 4, 5] (by decide) rfl)
      refine andK_J hm hS (fun hb q hm nx => ?_) (fun b10 H hm hS => ?_)
      ·
        have hS : Sep H (LedgerA a_v_law_ledger v_law_ledger :: [lstA p4 (([] : (List (T4 Int Str Int Any))) : (List (T4 Int Str Int Any))), dictA a7 (s6 : (List (Str × Int))), lstA a_v_law_rows (v_law_rows : (List (T4 Int Str Int Any))), F] : List (Asn G)) := hS.sel [0, 1, 2, 3, 4] (by decide) rfl
        obtain ⟨dx11, p12, hS⟩ := open_Ledger hS
        have hS : Sep H ([cell a_v_law_ledger (.ins (G.cl 8) dx11 [("hand", (.str (v_law_ledger.hand))), ("kept", (.ref p12))]), dictE lstA p12 (v_law_ledger.kept : (List (Str × (List (T4 Int Str Int Any))))), lstA p4 (([] : (List (T4 Int Str Int Any))) : (List (T4 Int Str Int Any))), dictA a7 (s6 : (List (Str × Int))), lstA a_v_law_rows (v_law_rows : (List (T4 Int Str Int Any))), F] : List (Asn G)) := hS
        refine f_test ?_
        refine c_op ?_
        refine c_meth ?_
        refine ev_to (ev_var rfl) ?_
        refine ⟨_, _, _, rfl, (hS.getCell (i := 0) rfl), rfl, ?_⟩
        refine ea_to ea_nil ?_
        have hS : Sep H (LedgerA a_v_law_ledger v_law_ledger :: [lstA p4 (([] : (List (T4 Int Str Int Any))) : (List (T4 Int Str Int Any))), dictA a7 (s6 : (List (Str × Int))), lstA a_v_law_rows (v_law_rows : (List (T4 Int Str Int Any))), F] : List (Asn G)) := pack_Ledger (hS.sel [0, 1, 2, 3, 4, 5] (by decide) rfl)
        refine ⟨a_v_law_ledger, (v_law_ledger : Ledger), star [lstA p4 (([] : (List (T4 Int Str Int Any))) : (List (T4 Int Str Int Any))), dictA a7 (s6 : (List (Str × Int))), lstA a_v_law_rows (v_law_rows : (List (T4 Int Str Int Any))), F], rfl, Sep.unstar (M := [LedgerA a_v_law_ledger v_law_ledger]) (hS.sel [0, 1, 2, 3, 4] (by decide) rfl : Sep H (([LedgerA a_v_law_ledger v_law_ledger] ++ [lstA p4 (([] : (List (T4 Int Str Int Any))) : (List (T4 Int Str Int Any))), dictA a7 (s6 : (List (Str × Int))), lstA a_v_law_rows (v_law_rows : (List (T4 Int Str Int Any))), F] : List (Asn G)))), R.wp_mono (R.wp_bind hm) (fun r13 hm p14 H hS => ?_) (fun _ z => z)⟩
        have hS : Sep H ([dictA p14 (r13 : (List (Str × Int))), LedgerA a_v_law_ledger v_law_ledger, lstA p4 (([] : (List (T4 Int Str Int Any))) : (List (T4 Int Str Int Any))), dictA a7 (s6 : (List (Str × Int))), lstA a_v_law_rows (v_law_rows : (List (T4 Int Str Int Any))), F] : List (Asn G)) := Sep.star (M := [dictA p14 (r13 : (List (Str × Int))), LedgerA a_v_law_ledger v_law_ledger]) hS
        have hS : Sep H (LedgerA a_v_law_ledger v_law_ledger :: [dictA p14 (r13 : (List (Str × Int))), lstA p4 (([] : (List (T4 Int Str Int Any))) : (List (T4 Int Str Int Any))), dictA a7 (s6 : (List (Str × Int))), lstA a_v_law_rows (v_law_rows : (List (T4 Int Str Int Any))), F] : List (Asn G)) := hS.sel [1, 0, 2, 3, 4, 5] (by decide) rfl
        obtain ⟨dx15, p16, hS⟩ := open_Ledger hS
        have hS : Sep H ([cell a_v_law_ledger (.ins (G.cl 8) dx15 [("hand", (.str (v_law_ledger.hand))), ("kept", (.ref p16))]), dictE lstA p16 (v_law_ledger.kept : (List (Str × (List (T4 Int Str Int Any))))), dictA p14 (r13 : (List (Str × Int))), lstA p4 (([] : (List (T4 Int Str Int Any))) : (List (T4 Int Str Int Any))), dictA a7 (s6 : (List (Str × Int))), lstA a_v_law_rows (v_law_rows : (List (T4 Int Str Int Any))), F] : List (Asn G)) := hS
        refine ev_to (ev_var rfl) ?_
        obtain ⟨b17, hb17, hm⟩ := wp_eqDc hm
        refine ev_op2 (ev_neDc hS (i := 2) (j := 4) rfl rfl ev_c ev_c hb17) ?_
        refine f_bl ?_
        have hS : Sep H (LedgerA a_v_law_ledger v_law_ledger :: [dictA p14 (r13 : (List (Str × Int))), lstA p4 (([] : (List (T4 Int Str Int Any))) : (List (T4 Int Str Int Any))), dictA a7 (s6 : (List (Str × Int))), lstA a_v_law_rows (v_law_rows : (List (T4 Int Str Int Any))), F] : List (Asn G)) := pack_Ledger (hS.sel [0, 1, 2, 3, 4, 5, 6] (by decide) rfl)
        exact nx _ _ hm (hS.sel [0, 2, 3, 4, 5] (by decide) rfl)
      ·
        have hS : Sep H (LedgerA a_v_law_ledger v_law_ledger :: [lstA p4 (([] : (List (T4 Int Str Int Any))) : (List (T4 Int Str Int Any))), dictA a7 (s6 : (List (Str × Int))), lstA a_v_law_rows (v_law_rows : (List (T4 Int Str Int Any))), F] : List (Asn G)) := hS.sel [0, 1, 2, 3, 4] (by decide) rfl
        obtain ⟨dx18, p19, hS⟩ := open_Ledger hS
        have hS : Sep H ([cell a_v_law_ledger (.ins (G.cl 8) dx18 [("hand", (.str (v_law_ledger.hand))), ("kept", (.ref p19))]), dictE lstA p19 (v_law_ledger.kept : (List (Str × (List (T4 Int Str Int Any))))), lstA p4 (([] : (List (T4 Int Str Int Any))) : (List (T4 Int Str Int Any))), dictA a7 (s6 : (List (Str × Int))), lstA a_v_law_rows (v_law_rows : (List (T4 Int Str Int Any))), F] : List (Asn G)) := hS
        refine ifK_2 (fun hb20 => ?_) (fun hb20 => ?_)
        · have hm := R.wp_ifY hm hb20
          refine c_ret ?_
          refine ev_to ev_c ?_
          have hS : Sep H (LedgerA a_v_law_ledger v_law_ledger :: [lstA p4 (([] : (List (T4 Int Str Int Any))) : (List (T4 Int Str Int Any))), dictA a7 (s6 : (List (Str × Int))), lstA a_v_law_rows (v_law_rows : (List (T4 Int Str Int Any))), F] : List (Asn G)) := pack_Ledger (hS.sel [0, 1, 2, 3, 4, 5] (by decide) rfl)
          exact hm _ (hS.sel [0, 3, 4] (by decide) rfl)
        · have hm := R.wp_ifN hm (by first | (rw [hb20]; decide) | simpa using hb20)
          refine st_nx ?_
          refine sq_nx ?_
          refine f_seq ?_
          refine c_asg ?_
          refine c_fz ?_
          refine c_meth ?_
          refine ev_to (ev_var rfl) ?_
          refine ⟨_, _, _, rfl, (hS.getCell (i := 0) rfl), rfl, ?_⟩
          refine ea_to ea_nil ?_
          have hS : Sep H (LedgerA a_v_law_ledger v_law_ledger :: [lstA p4 (([] : (List (T4 Int Str Int Any))) : (List (T4 Int Str Int Any))), dictA a7 (s6 : (List (Str × Int))), lstA a_v_law_rows (v_law_rows : (List (T4 Int Str Int Any))), F] : List (Asn G)) := pack_Ledger (hS.sel [0, 1, 2, 3, 4, 5] (by decide) rfl)
          refine ⟨a_v_law_ledger, (v_law_ledger : Ledger), .non, (Any.non : Any), star [lstA p4 (([] : (List (T4 Int Str Int Any))) : (List (T4 Int Str Int Any))), dictA a7 (s6 : (List (Str × Int))), lstA a_v_law_rows (v_law_rows : (List (T4 Int Str Int Any))), F], rfl, (any_non.mpr rfl), Sep.unstar (M := [LedgerA a_v_law_ledger v_law_ledger]) (hS.sel [0, 1, 2, 3, 4] (by decide) rfl : Sep H (([LedgerA a_v_law_ledger v_law_ledger] ++ [lstA p4 (([] : (List (T4 Int Str Int Any))) : (List (T4 Int Str Int Any))), dictA a7 (s6 : (List (Str × Int))), lstA a_v_law_rows (v_law_rows : (List (T4 Int Str Int Any))), F] : List (Asn G)))), R.wp_mono (R.wp_bind hm) (fun r21 hm p22 H hS => ?_) (fun _ z => z)⟩
          have hS : Sep H ([lstA p22 (r21 : (List (T4 Int Str Int Any))), LedgerA a_v_law_ledger v_law_ledger, lstA p4 (([] : (List (T4 Int Str Int Any))) : (List (T4 Int Str Int Any))), dictA a7 (s6 : (List (Str × Int))), lstA a_v_law_rows (v_law_rows : (List (T4 Int Str Int Any))), F] : List (Asn G)) := Sep.star (M := [lstA p22 (r21 : (List (T4 Int Str Int Any))), LedgerA a_v_law_ledger v_law_ledger]) hS
          have hS : Sep H (LedgerA a_v_law_ledger v_law_ledger :: [lstA p22 (r21 : (List (T4 Int Str Int Any))), lstA p4 (([] : (List (T4 Int Str Int Any))) : (List (T4 Int Str Int Any))), dictA a7 (s6 : (List (Str × Int))), lstA a_v_law_rows (v_law_rows : (List (T4 Int Str Int Any))), F] : List (Asn G)) := hS.sel [1, 0, 2, 3, 4, 5] (by decide) rfl
          obtain ⟨dx23, p24, hS⟩ := open_Ledger hS
          have hS : Sep H ([cell a_v_law_ledger (.ins (G.cl 8) dx23 [("hand", (.str (v_law_ledger.hand))), ("kept", (.ref p24))]), dictE lstA p24 (v_law_ledger.kept : (List (Str × (List (T4 Int Str Int Any))))), lstA p22 (r21 : (List (T4 Int Str Int Any))), lstA p4 (([] : (List (T4 Int Str Int Any))) : (List (T4 Int Str Int Any))), dictA a7 (s6 : (List (Str × Int))), lstA a_v_law_rows (v_law_rows : (List (T4 Int Str Int Any))), F] : List (Asn G)) := hS
          refine fz_no ?_
          refine c_set (σ' := [some (.ref a_v_law_ledger), some (.ref a_v_law_rows), some (.int (v_law_way)), some (.ref a7), some (.ref p22)]) rfl ?_
          refine sq_nx ?_
          refine c_ret ?_
          refine f_andV ?_
          refine ev_to (ev_isi (G := G) (x := (.ref p22)) (T := "list") (U := "list") (b := true) (ev_fz (ev_var rfl)) ev_c (ty_lst hS (i := 2) rfl) (by decide +kernel)) ?_
          refine andVK_t ?_
          refine f_andV ?_
          obtain ⟨b25, hb25, hm⟩ := wp_eqA hm
          refine ev_to (ev_eqO (ev_fz (ev_var rfl)) (ev_fz (ev_var rfl)) (dpOwn4 hS (i := 2) rfl) (dpOwn4 hS (i := 5) rfl) hb25) ?_
          have hS : Sep H (LedgerA a_v_law_ledger v_law_ledger :: [lstA p22 (r21 : (List (T4 Int Str Int Any))), lstA p4 (([] : (List (T4 Int Str Int Any))) : (List (T4 Int Str Int Any))), dictA a7 (s6 : (List (Str × Int))), lstA a_v_law_rows (v_law_rows : (List (T4 Int Str Int Any))), F] : List (Asn G)) := pack_Ledger (hS.sel [0, 1, 2, 3, 4, 5, 6] (by decide) rfl)
          refine andVK_J hm hS (fun hb q hm nx => ?_) (fun b26 H hm hS => ?_)
          ·
            have hS : Sep H (LedgerA a_v_law_ledger v_law_ledger :: [lstA p22 (r21 : (List (T4 Int Str Int Any))), lstA p4 (([] : (List (T4 Int Str Int Any))) : (List (T4 Int Str Int Any))), dictA a7 (s6 : (List (Str × Int))), lstA a_v_law_rows (v_law_rows : (List (T4 Int Str Int Any))), F] : List (Asn G)) := hS.sel [0, 1, 2, 3, 4, 5] (by decide) rfl
            obtain ⟨dx27, p28, hS⟩ := open_Ledger hS
            have hS : Sep H ([cell a_v_law_ledger (.ins (G.cl 8) dx27 [("hand", (.str (v_law_ledger.hand))), ("kept", (.ref p28))]), dictE lstA p28 (v_law_ledger.kept : (List (Str × (List (T4 Int Str Int Any))))), lstA p22 (r21 : (List (T4 Int Str Int Any))), lstA p4 (([] : (List (T4 Int Str Int Any))) : (List (T4 Int Str Int Any))), dictA a7 (s6 : (List (Str × Int))), lstA a_v_law_rows (v_law_rows : (List (T4 Int Str Int Any))), F] : List (Asn G)) := hS
            refine c_op ?_
            refine c_meth ?_
            refine ev_to (ev_var rfl) ?_
            refine ⟨_, _, _, rfl, (hS.getCell (i := 0) rfl), rfl, ?_⟩
            refine ea_to ea_nil ?_
            have hS : Sep H (LedgerA a_v_law_ledger v_law_ledger :: [lstA p22 (r21 : (List (T4 Int Str Int Any))), lstA p4 (([] : (List (T4 Int Str Int Any))) : (List (T4 Int Str Int Any))), dictA a7 (s6 : (List (Str × Int))), lstA a_v_law_rows (v_law_rows : (List (T4 Int Str Int Any))), F] : List (Asn G)) := pack_Ledger (hS.sel [0, 1, 2, 3, 4, 5, 6] (by decide) rfl)
            refine ⟨a_v_law_ledger, (v_law_ledger : Ledger), star [lstA p22 (r21 : (List (T4 Int Str Int Any))), lstA p4 (([] : (List (T4 Int Str Int Any))) : (List (T4 Int Str Int Any))), dictA a7 (s6 : (List (Str × Int))), lstA a_v_law_rows (v_law_rows : (List (T4 Int Str Int Any))), F], rfl, Sep.unstar (M := [LedgerA a_v_law_ledger v_law_ledger]) (hS.sel [0, 1, 2, 3, 4, 5] (by decide) rfl : Sep H (([LedgerA a_v_law_ledger v_law_ledger] ++ [lstA p22 (r21 : (List (T4 Int Str Int Any))), lstA p4 (([] : (List (T4 Int Str Int Any))) : (List (T4 Int Str Int Any))), dictA a7 (s6 : (List (Str × Int))), lstA a_v_law_rows (v_law_rows : (List (T4 Int Str Int Any))), F] : List (Asn G)))), R.wp_mono (R.wp_bind hm) (fun r29 hm p30 H hS => ?_) (fun _ z => z)⟩
            have hS : Sep H ([dictA p30 (r29 : (List (Str × Int))), LedgerA a_v_law_ledger v_law_ledger, lstA p22 (r21 : (List (T4 Int Str Int Any))), lstA p4 (([] : (List (T4 Int Str Int Any))) : (List (T4 Int Str Int Any))), dictA a7 (s6 : (List (Str × Int))), lstA a_v_law_rows (v_law_rows : (List (T4 Int Str Int Any))), F] : List (Asn G)) := Sep.star (M := [dictA p30 (r29 : (List (Str × Int))), LedgerA a_v_law_ledger v_law_ledger]) hS
            have hS : Sep H (LedgerA a_v_law_ledger v_law_ledger :: [dictA p30 (r29 : (List (Str × Int))), lstA p22 (r21 : (List (T4 Int Str Int Any))), lstA p4 (([] : (List (T4 Int Str Int Any))) : (List (T4 Int Str Int Any))), dictA a7 (s6 : (List (Str × Int))), lstA a_v_law_rows (v_law_rows : (List (T4 Int Str Int Any))), F] : List (Asn G)) := hS.sel [1, 0, 2, 3, 4, 5, 6] (by decide) rfl
            obtain ⟨dx31, p32, hS⟩ := open_Ledger hS
            have hS : Sep H ([cell a_v_law_ledger (.ins (G.cl 8) dx31 [("hand", (.str (v_law_ledger.hand))), ("kept", (.ref p32))]), dictE lstA p32 (v_law_ledger.kept : (List (Str × (List (T4 Int Str Int Any))))), dictA p30 (r29 : (List (Str × Int))), lstA p22 (r21 : (List (T4 Int Str Int Any))), lstA p4 (([] : (List (T4 Int Str Int Any))) : (List (T4 Int Str Int Any))), dictA a7 (s6 : (List (Str × Int))), lstA a_v_law_rows (v_law_rows : (List (T4 Int Str Int Any))), F] : List (Asn G)) := hS
            refine ev_to (ev_var rfl) ?_
            obtain ⟨b33, hb33, hm⟩ := wp_eqDc hm
            refine ev_op2 (ev_eqDc hS (i := 2) (j := 5) rfl rfl ev_c ev_c hb33) ?_
            have hS : Sep H (LedgerA a_v_law_ledger v_law_ledger :: [dictA p30 (r29 : (List (Str × Int))), lstA p22 (r21 : (List (T4 Int Str Int Any))), lstA p4 (([] : (List (T4 Int Str Int Any))) : (List (T4 Int Str Int Any))), dictA a7 (s6 : (List (Str × Int))), lstA a_v_law_rows (v_law_rows : (List (T4 Int Str Int Any))), F] : List (Asn G)) := pack_Ledger (hS.sel [0, 1, 2, 3, 4, 5, 6, 7] (by decide) rfl)
            exact nx _ _ hm (hS.sel [0, 2, 3, 4, 5, 6] (by decide) rfl)
          ·
            have hS : Sep H (LedgerA a_v_law_ledger v_law_ledger :: [lstA p22 (r21 : (List (T4 Int Str Int Any))), lstA p4 (([] : (List (T4 Int Str Int Any))) : (List (T4 Int Str Int Any))), dictA a7 (s6 : (List (Str × Int))), lstA a_v_law_rows (v_law_rows : (List (T4 Int Str Int Any))), F] : List (Asn G)) := hS.sel [0, 1, 2, 3, 4, 5] (by decide) rfl
            obtain ⟨dx34, p35, hS⟩ := open_Ledger hS
            have hS : Sep H ([cell a_v_law_ledger (.ins (G.cl 8) dx34 [("hand", (.str (v_law_ledger.hand))), ("kept", (.ref p35))]), dictE lstA p35 (v_law_ledger.kept : (List (Str × (List (T4 Int Str Int Any))))), lstA p22 (r21 : (List (T4 Int Str Int Any))), lstA p4 (([] : (List (T4 Int Str Int Any))) : (List (T4 Int Str Int Any))), dictA a7 (s6 : (List (Str × Int))), lstA a_v_law_rows (v_law_rows : (List (T4 Int Str Int Any))), F] : List (Asn G)) := hS
            have hS : Sep H (LedgerA a_v_law_ledger v_law_ledger :: [lstA p22 (r21 : (List (T4 Int Str Int Any))), lstA p4 (([] : (List (T4 Int Str Int Any))) : (List (T4 Int Str Int Any))), dictA a7 (s6 : (List (Str × Int))), lstA a_v_law_rows (v_law_rows : (List (T4 Int Str Int Any))), F] : List (Asn G)) := pack_Ledger (hS.sel [0, 1, 2, 3, 4, 5, 6] (by decide) rfl)
            exact hm _ (hS.sel [0, 4, 5] (by decide) rfl)
def sp_law (G : Gx) : Sp := fun vs H Q E => ∃ (a_v_law_script : V) (v_law_script : Script) (F : Asn G), vs = [a_v_law_script] ∧ Im.im G H a_v_law_script v_law_script ∧ Sep H ([F] : List (Asn G)) ∧ R.wp (m_law v_law_script) (fun r => ∀ H', Sep H' ([F] : List (Asn G)) → Q (.bl (r)) H') (fun _ => False)
abbrev N_law : List Str := ["_law_script", "_law_state", "_law_hands_here", "_law_ledgers", "_law_rows", "_law_names", "_law_held", "_law_cell", "_law_k", "_law_one", "_law_puts", "_law_deed_here", "_law_found", "_law_due", "_law_j", "_law_pair"]
theorem sc_law : FnScope N_law ["_law_script"] (defScope s_law) := ⟨rfl, rfl, rfl, by decide +kernel, rfl, by decide +kernel, by decide +kernel⟩
theorem ok_law (T : Txt G mg) : FnOk P w G.K mg base CX0 10 T.a_law T.fd_law ["_law_script"] (sp_law G) := by
  have nd := sc_law.nd
  refine Fun.ok T.F_law sc_law (fun vs H Q E h => ?_) (fun cdv A outer s H vs Q E hr h => ?_)
  · obtain ⟨a_v_law_script, v_law_script, F, rfl, _⟩ := h; rfl
  · obtain ⟨a_v_law_script, v_law_script, F, rfl, him_v_law_script, hS, hm⟩ := h
    obtain ⟨ad_v_law_script, rfl, _⟩ := im_script him_v_law_script
    have hS := hS.addIm him_v_law_script
    refine ⟨_, (pss_cons (ps_set (i := 1) nd rfl (Or.inl rfl) (pe_call (ok_law_begin T) (hr.mono (by decide)) rfl T.g_law_begin T.kp_law_begin T.b_law_begin .nil pass0 (pa_cons (pv 0) pa_nil)))
      (pss_cons (ps_set (i := 2) nd rfl (Or.inl rfl) (pe_fz (pe_call (ok_law_hands T) (hr.mono (by decide)) rfl T.g_law_hands T.kp_law_hands T.b_law_hands .nil pass0 (pa_cons (pv 1) (pa_cons pe_int pa_nil)))))
      (pss_cons (ps_set (i := 3) nd rfl (Or.inl rfl) (pe_fz (pe_lst (pa_cons (pe_make T.k_Ledger (ok_Ledger___init__ T) (hr.mono (by decide)) rfl T.g_Ledger T.b_Ledger___init__ .nil passL (pa_cons (pe_ix (ix_listK G.K) (pe_fz (pv 2)) pe_int (fun _ _ => rfl)) pa_nil)) (pa_cons (pe_make T.k_Ledger (ok_Ledger___init__ T) (hr.mono (by decide)) rfl T.g_Ledger T.b_Ledger___init__ .nil passL (pa_cons (pe_ix (ix_listK G.K) (pe_fz (pv 2)) pe_int (fun _ _ => rfl)) pa_nil)) pa_nil)))))
      (pss_cons (ps_set (i := 4) nd rfl (Or.inl rfl) (pe_fz (pe_lst (pa_cons (pe_fz (pe_lst pa_nil)) (pa_cons (pe_fz (pe_lst pa_nil)) pa_nil)))))
      (pss_cons (ps_set (i := 5) nd rfl (Or.inl rfl) (pe_fz (pe_lst pa_nil)))
      (pss_cons (ps_set (i := 6) nd rfl (Or.inl rfl) (pe_fz (pe_lst pa_nil)))
      (pss_cons (ps_for PassesOwn.never rfl (pi_listK G.K (pe_fz (pe_slice (sl_listK G.K) (pv 0) po_none (po_some pe_int)))) (pg_name (i := 7) nd rfl (Or.inl rfl)) (pss_cons (ps_set (i := 8) nd rfl (Or.inl rfl) (pe_op op_mod (pe_call (ok_law_next T) (hr.mono (by decide)) rfl T.g_law_next T.kp_law_next T.b_law_next .nil pass0 (pa_cons (pv 1) pa_nil)) pe_int))
      (pss_cons (ps_set (i := 10) nd rfl (Or.inl rfl) (pe_callB (lenSqK G.K) (by rfl) T.z_len PySem.boot_len (pa_cons (pe_fz (pe_lc (own := [("_law_one", 9)]) (g := gName 9) rfl nd (pi_listK G.K (pe_fz (pe_ix (ix_listK G.K) (pe_fz (pv 4)) (pv 8) (fun _ _ => rfl)))) (blkOk_by (own := [("_law_one", 9)]) (N := N_law) (sc := defScope s_law) (by decide +kernel)) (fun _ _ _ _ _ => pg_name (i := 9) nd rfl (Or.inl rfl)) (fun _ _ _ _ _ => pts_one (pt_cmpR (eqDK G.K hr.units) (pe_ix (ix_tupK G.K) (pe_ix (ix_tupK G.K) (pv 9) pe_int (fun _ _ => rfl)) pe_int (fun _ _ => rfl)) pe_str (nomark _))) (fun _ _ _ _ _ => (pv 9)))) pa_nil)))
      (pss_cons (ps_if (PW.pt (pw_and (pt_cmpR op_eq (pe_op op_mod (pe_call (ok_law_next T) (hr.mono (by decide)) rfl T.g_law_next T.kp_law_next T.b_law_next .nil pass0 (pa_cons (pv 1) pa_nil)) pe_int) pe_int (nomark _)) (pw_and1 (pt_not (pt_val (pe_call (ok_law_refused T) (hr.mono (by decide)) rfl T.g_law_refused T.kp_law_refused T.b_law_refused .nil pass0 (pa_cons (pe_ix (ix_listK G.K) (pe_fz (pv 3)) (pv 8) (fun _ _ => rfl)) (pa_cons (pe_call (ok_law_odd T) (hr.mono (by decide)) rfl T.g_law_odd T.kp_law_odd T.b_law_odd .nil pass0 (pa_cons (pv 1) (pa_cons (pe_ix (ix_listK G.K) (pe_fz (pv 2)) (pv 8) (fun _ _ => rfl)) (pa_cons (pv 10) pa_nil)))) pa_nil)))))))) (pss_one (ps_ret pe_bl)) pss_nil)
      (pss_cons (ps_set (i := 11) nd rfl (Or.inl rfl) (pe_call (ok_law_deed T) (hr.mono (by decide)) rfl T.g_law_deed T.kp_law_deed T.b_law_deed .nil pass0 (pa_cons (pv 1) (pa_cons (pe_fz (pv 5)) (pa_cons (pe_ix (ix_listK G.K) (pe_fz (pv 2)) (pv 8) (fun _ _ => rfl)) (pa_cons (pv 10) pa_nil))))))
      (pss_cons (ps_set (i := 12) nd rfl (Or.inl rfl) (pe_call (ok_law_done T) (hr.mono (by decide)) rfl T.g_law_done T.kp_law_done T.b_law_done .nil pass0 (pa_cons (pe_ix (ix_listK G.K) (pe_fz (pv 3)) (pv 8) (fun _ _ => rfl)) (pa_cons (pv 11) pa_nil))))
      (pss_cons (ps_set (i := 13) nd rfl (Or.inl rfl) (pe_tup (pa_cons (pe_op op_add (pe_callB (lenSqK G.K) (by rfl) T.z_len PySem.boot_len (pa_cons (pe_fz (pe_ix (ix_listK G.K) (pe_fz (pv 4)) (pv 8) (fun _ _ => rfl))) pa_nil)) pe_int) (pa_cons (pe_ix (ix_listK G.K) (pe_fz (pv 2)) (pv 8) (fun _ _ => rfl)) (pa_cons (pe_op op_add (pe_callB (lenSqK G.K) (by rfl) T.z_len PySem.boot_len (pa_cons (pe_fz (pe_ix (ix_listK G.K) (pe_fz (pv 4)) (pv 8) (fun _ _ => rfl))) pa_nil)) pe_int) (pa_cons (pv 11) pa_nil))))))
      (pss_cons (ps_if (PW.pt (pw_or (pt_not (pt_val (pe_callB (isiK G.K) (by rfl) T.z_isinstance (by decide +kernel) (pa_cons (pv 12) (pa_cons (pe_bltn (v := .ty "tuple") (by rfl) T.z_tuple (by decide +kernel) rfl) pa_nil))))) (pw_or (pt_cmpR (neDK G.K hr.units) (pv 12) (pv 13) (nomark _)) (pw_or1 (pt_val (pe_callB (isiK G.K) (by rfl) T.z_isinstance (by decide +kernel) (pa_cons (pe_ix (ix_tupK G.K) (pv 12) pe_int (fun _ _ => rfl)) (pa_cons (pe_bltn (v := .ty "bool") (by rfl) T.z_bool (by decide +kernel) rfl) pa_nil)))))))) (pss_one (ps_ret pe_bl)) pss_nil)
      (pss_cons (ps_expr (pe_bmK G.K PySem.F.plainAttrs_list PySem.F.slot_list_append PySem.F.type_list_append mt_append (pe_fz (pe_ix (ix_listK G.K) (pe_fz (pv 4)) (pv 8) (fun _ _ => rfl))) (pa_cons (pv 13) pa_nil)))
      (pss_cons (ps_for PassesOwn.never rfl (pi_listK G.K (pe_fz (pe_lst (pa_cons (pv 8) (pa_cons (pe_op op_sub pe_int (pv 8)) pa_nil))))) (pg_name (i := 14) nd rfl (Or.inl rfl)) (pss_one (ps_if (pt_not (pt_val (pe_call (ok_law_looked T) (hr.mono (by decide)) rfl T.g_law_looked T.kp_law_looked T.b_law_looked .nil pass0 (pa_cons (pe_ix (ix_listK G.K) (pe_fz (pv 3)) (pv 14) (fun _ _ => rfl)) (pa_cons (pe_fz (pe_ix (ix_listK G.K) (pe_fz (pv 4)) (pv 14) (fun _ _ => rfl))) (pa_cons (pe_op op_mod (pe_call (ok_law_next T) (hr.mono (by decide)) rfl T.g_law_next T.kp_law_next T.b_law_next .nil pass0 (pa_cons (pv 1) pa_nil)) pe_int) pa_nil)))))) (pss_one (ps_ret pe_bl)) pss_nil)))
      (pss_cons (ps_expr (pe_bmK G.K PySem.F.plainAttrs_list PySem.F.slot_list_append PySem.F.type_list_append mt_append (pe_fz (pv 6)) (pa_cons (pe_tup (pa_cons (pe_fz (pe_meth0 (pe_ix (ix_listK G.K) (pe_fz (pv 3)) (pv 8) (fun _ _ => rfl)) T.cl_Ledger T.m_Ledger_told (ok_Ledger_told T) (hr.mono (by decide)) (T.bd_Ledger_told_1).2 (T.bd_Ledger_told_1).1 pass0)) (pa_cons (pe_fz (pe_callTy (listSqK G.K) (by rfl) T.z_list (by decide +kernel) (pa_cons (pe_fz (pe_ix (ix_listK G.K) (pe_fz (pv 4)) (pv 8) (fun _ _ => rfl))) pa_nil))) pa_nil))) pa_nil)))
      (pss_one (ps_expr (pe_bmK G.K PySem.F.plainAttrs_list PySem.F.slot_list_append PySem.F.type_list_append mt_append (pe_fz (pv 6)) (pa_cons (pe_tup (pa_cons (pe_meth0 (pe_ix (ix_listK G.K) (pe_fz (pv 3)) (pv 8) (fun _ _ => rfl)) T.cl_Ledger T.m_Ledger_have (ok_Ledger_have T) (hr.mono (by decide)) T.b_Ledger_have .nil pass0) (pa_cons (pe_disp (pps_cons (pe_ix (ix_listK G.K) (pe_fz (pv 2)) (pv 8) (fun _ _ => rfl)) (pe_callB (lenSqK G.K) (by rfl) T.z_len PySem.boot_len (pa_cons (pe_fz (pe_ix (ix_listK G.K) (pe_fz (pv 4)) (pv 8) (fun _ _ => rfl))) pa_nil)) pps_nil) rfl rfl (by simp) (by show 1 ≤ 15; decide)) pa_nil))) pa_nil)))))))))))))))
      (pss_cons (ps_if (PW.pt (pw_or (pt_cmpR (neDK G.K hr.units) (pe_fz (pe_lc (own := [("_law_pair", 15)]) (g := gName 15) rfl nd (pi_listK G.K (pe_fz (pv 6))) (blkOk_by (own := [("_law_pair", 15)]) (N := N_law) (sc := defScope s_law) (by decide +kernel)) (fun _ _ _ _ _ => pg_name (i := 15) nd rfl (Or.inl rfl)) (fun _ _ _ _ _ => pts_one (pt_cmpR (neHdK G.K (neDK G.K hr.units) (op_ne_dictR (unR hr))) (pe_ix (ix_tupK G.K) (pv 15) pe_int (fun _ _ => rfl)) (pe_ix (ix_tupK G.K) (pv 15) pe_int (fun _ _ => rfl)) (nomark _))) (fun _ _ _ _ _ => (pv 15)))) (pe_fz (pe_lst pa_nil)) (nomark _)) (pw_or1 (pt_cmpR op_ne (pe_fld (pe_ix (ix_listK G.K) (pe_fz (pv 3)) pe_int (fun _ _ => rfl)) rfl) (pe_ix (ix_listK G.K) (pe_fz (pv 2)) pe_int (fun _ _ => rfl)) (nomark _))))) (pss_one (ps_ret pe_bl)) pss_nil)
      (pss_one (ps_ret (pe_call (ok_law_no_hand T) (hr.mono (by decide)) rfl T.g_law_no_hand T.kp_law_no_hand T.b_law_no_hand .nil pass0 (pa_cons (pe_ix (ix_listK G.K) (pe_fz (pe_lst (pa_cons pe_str (pa_cons (pe_op op_repS (pe_ix (ix_listK G.K) (pe_fz (pv 2)) pe_int (fun _ _ => rfl)) pe_int) (pa_cons (pe_op op_catS (pe_ix (ix_listK G.K) (pe_fz (pv 2)) pe_int (fun _ _ => rfl)) pe_str) (pa_cons pe_str (pa_cons pe_non (pa_cons pe_str pa_nil)))))))) (pe_op op_mod (pe_call (ok_law_next T) (hr.mono (by decide)) rfl T.g_law_next T.kp_law_next T.b_law_next .nil pass0 (pa_cons (pv 1) pa_nil)) pe_int) (fun _ _ => rfl)) pa_nil)))))))))))), ?_⟩
    unfold m_law at hm
    refine f_seq ?_
    refine c_asg ?_
    refine c_call ?_
    refine ea_to (ea_cons (ev_var rfl) ea_nil) ?_
    refine ⟨_, v_law_script, star [imA (.ref ad_v_law_script) v_law_script, F], rfl, (hS.im (i := 0) rfl), Sep.unstar (M := []) (hS.sel [0, 1] (by decide) rfl : Sep H (([] ++ [imA (.ref ad_v_law_script) v_law_script, F] : List (Asn G)))), R.wp_mono (R.wp_bind hm) (fun r1 hm p2 H hS => ?_) (fun _ z => z)⟩
    have hS : Sep H ([stA p2 (r1 : T3 Int Script Int), imA (.ref ad_v_law_script) v_law_script, F] : List (Asn G)) := Sep.star (M := [stA p2 (r1 : T3 Int Script Int)]) hS
    refine c_set (σ' := [some (.ref ad_v_law_script), some (.ref p2), none, none, none, none, none, none, none, none, none, none, none, none, none, none]) rfl ?_
    refine sq_nx ?_
    refine f_seq ?_
    refine c_asg ?_
    refine c_fz ?_
    refine c_call ?_
    refine ea_to (ea_cons (ev_var rfl) (ea_cons ev_c ea_nil)) ?_
    refine ⟨p2, (r1 : (T3 Int Script Int)), 2, star [imA (.ref ad_v_law_script) v_law_script, F], rfl, Sep.unstar (M := [stA p2 (r1 : T3 Int Script Int)]) (hS.sel [0, 1, 2] (by decide) rfl : Sep H (([stA p2 (r1 : T3 Int Script Int)] ++ [imA (.ref ad_v_law_script) v_law_script, F] : List (Asn G)))), R.wp_mono (R.wp_bind hm) (fun r3 hm p4 H hS => ?_) (fun _ z => z)⟩
    have hS : Sep H ([lstA p4 (r3.1 : (List Str)), stA p2 (r3.2 : T3 Int Script Int), imA (.ref ad_v_law_script) v_law_script, F] : List (Asn G)) := Sep.star (M := [lstA p4 (r3.1 : (List Str)), stA p2 (r3.2 : T3 Int Script Int)]) hS
    refine fz_no ?_
    refine c_set (σ' := [some (.ref ad_v_law_script), some (.ref p2), some (.ref p4), none, none, none, none, none, none, none, none, none, none, none, none, none]) rfl ?_
    refine sq_nx ?_
    refine f_seq ?_
    refine c_asg ?_
    refine c_fz ?_
    refine c_lst ?_
    refine c_cons ?_
    refine c_make ?_
    obtain ⟨x5, hx5, hm⟩ := wp_idx hm
    refine ea_to (ea_cons (ev_ixSq (ev_fz (ev_var rfl)) ev_c (hS.sqF (i := 0) rfl) (atI_map hx5)) ea_nil) ?_
    intro p6 d7 np nd ne
    have hS := hS.addIm (v := (.str (x5))) (x := ((Any.str x5) : Any)) (any_str.mpr rfl)
    have hS := hS.newI (C := G.cl 8) np nd ne (by rw [T.fz_Ledger]; decide)
    refine ⟨p6, d7, (.str (x5)), ((Any.str x5) : Any), star [lstA p4 (r3.1 : (List Str)), stA p2 (r3.2 : T3 Int Script Int), imA (.ref ad_v_law_script) v_law_script, F], rfl, (hS.im (i := 1) rfl), Sep.unstar (M := [cell p6 (.ins (G.cl 8) d7 [])]) (hS.sel [0, 2, 3, 4, 5] (by decide) rfl : Sep _ (([cell p6 (.ins (G.cl 8) d7 [])] ++ [lstA p4 (r3.1 : (List Str)), stA p2 (r3.2 : T3 Int Script Int), imA (.ref ad_v_law_script) v_law_script, F] : List (Asn G)))), R.wp_mono (R.wp_bind hm) (fun r9 hm H hS => ⟨rfl, ?_⟩) (fun _ z => z.elim)⟩
    have hS : Sep H ([LedgerA p6 r9, lstA p4 (r3.1 : (List Str)), stA p2 (r3.2 : T3 Int Script Int), imA (.ref ad_v_law_script) v_law_script, F] : List (Asn G)) := Sep.star (M := [LedgerA p6 r9]) hS
    refine c_cons ?_
    refine c_make ?_
    obtain ⟨x10, hx10, hm⟩ := wp_idx hm
    refine ea_to (ea_cons (ev_ixSq (ev_fz (ev_var rfl)) ev_c (hS.sqF (i := 1) rfl) (atI_map hx10)) ea_nil) ?_
    intro p11 d12 np nd ne
    have hS := hS.addIm (v := (.str (x10))) (x := ((Any.str x10) : Any)) (any_str.mpr rfl)
    have hS := hS.newI (C := G.cl 8) np nd ne (by rw [T.fz_Ledger]; decide)
    refine ⟨p11, d12, (.str (x10)), ((Any.str x10) : Any), star [LedgerA p6 r9, lstA p4 (r3.1 : (List Str)), stA p2 (r3.2 : T3 Int Script Int), imA (.ref ad_v_law_script) v_law_script, F], rfl, (hS.im (i := 1) rfl), Sep.unstar (M := [cell p11 (.ins (G.cl 8) d12 [])]) (hS.sel [0, 2, 3, 4, 5, 6] (by decide) rfl : Sep _ (([cell p11 (.ins (G.cl 8) d12 [])] ++ [LedgerA p6 r9, lstA p4 (r3.1 : (List Str)), stA p2 (r3.2 : T3 Int Script Int), imA (.ref ad_v_law_script) v_law_script, F] : List (Asn G)))), R.wp_mono (R.wp_bind hm) (fun r14 hm H hS => ⟨rfl, ?_⟩) (fun _ z => z.elim)⟩
    have hS : Sep H ([LedgerA p11 r14, LedgerA p6 r9, lstA p4 (r3.1 : (List Str)), stA p2 (r3.2 : T3 Int Script Int), imA (.ref ad_v_law_script) v_law_script, F] : List (Asn G)) := Sep.star (M := [LedgerA p11 r14]) hS
    refine c_nil ?_
    refine k_lstRaw hS (by show 2 ≤ sizeLine; decide) fun p15 H hS => ?_
    have hS : Sep H ([listE LedgerA p15 ([r9, r14] : (List Ledger)), lstA p4 (r3.1 : (List Str)), stA p2 (r3.2 : T3 Int Script Int), imA (.ref ad_v_law_script) v_law_script, F] : List (Asn G)) := packE [p6, p11] rfl (hS.sel [0, 2, 1, 3, 4, 5, 6] (by decide) rfl)
    refine fz_no ?_
    obtain ⟨y16, hy16, hm⟩ := wp_let hm
    have hS : Sep H ([listE LedgerA p15 (y16 : (List Ledger)), lstA p4 (r3.1 : (List Str)), stA p2 (r3.2 : T3 Int Script Int), imA (.ref ad_v_law_script) v_law_script, F] : List (Asn G)) := by rw [← hy16]; exact hS
    refine c_set (σ' := [some (.ref ad_v_law_script), some (.ref p2), some (.ref p4), some (.ref p15), none, none, none, none, none, none, none, none, none, none, none, none]) rfl ?_
    refine sq_nx ?_
    refine f_seq ?_
    refine c_asg ?_
    refine c_fz ?_
    refine c_lst ?_
    refine c_cons ?_
    refine c_fz ?_
    refine c_lst ?_
    refine ea_to ea_nil ?_
    refine k_lst (α := (T4 Int Str Int Any)) (vs := []) (xs := ([] : (List (T4 Int Str Int Any)))) hS True.intro (by show 0 ≤ sizeLine; decide) fun p17 H hS => ?_
    refine fz_no ?_
    refine c_cons ?_
    refine c_fz ?_
    refine c_lst ?_
    refine ea_to ea_nil ?_
    refine k_lst (α := (T4 Int Str Int Any)) (vs := []) (xs := ([] : (List (T4 Int Str Int Any)))) hS True.intro (by show 0 ≤ sizeLine; decide) fun p18 H hS => ?_
    refine fz_no ?_
    refine c_nil ?_
    refine k_lstRaw hS (by show 2 ≤ sizeLine; decide) fun p19 H hS => ?_
    have hS : Sep H ([listE lstA p19 ([([] : (List (T4 Int Str Int Any))), ([] : (List (T4 Int Str Int Any)))] : (List (List (T4 Int Str Int Any)))), listE LedgerA p15 (y16 : (List Ledger)), lstA p4 (r3.1 : (List Str)), stA p2 (r3.2 : T3 Int Script Int), imA (.ref ad_v_law_script) v_law_script, F] : List (Asn G)) := packE [p17, p18] rfl (hS.sel [0, 2, 1, 3, 4, 5, 6, 7] (by decide) rfl)
    refine fz_no ?_
    obtain ⟨y20, hy20, hm⟩ := wp_let hm
    have hS : Sep H ([listE lstA p19 (y20 : (List (List (T4 Int Str Int Any)))), listE LedgerA p15 (y16 : (List Ledger)), lstA p4 (r3.1 : (List Str)), stA p2 (r3.2 : T3 Int Script Int), imA (.ref ad_v_law_script) v_law_script, F] : List (Asn G)) := by rw [← hy20]; exact hS
    refine c_set (σ' := [some (.ref ad_v_law_script), some (.ref p2), some (.ref p4), some (.ref p15), some (.ref p19), none, none, none, none, none, none, none, none, none, none, none]) rfl ?_
    refine sq_nx ?_
    refine f_seq ?_
    refine c_asg ?_
    refine c_fz ?_
    refine c_lst ?_
    refine ea_to ea_nil ?_
    refine k_lst (α := Str) (vs := []) (xs := ([] : (List Str))) hS True.intro (by show 0 ≤ sizeLine; decide) fun p21 H hS => ?_
    refine fz_no ?_
    refine c_set (σ' := [some (.ref ad_v_law_script), some (.ref p2), some (.ref p4), some (.ref p15), some (.ref p19), some (.ref p21), none, none, none, none, none, none, none, none, none, none]) rfl ?_
    refine sq_nx ?_
    refine f_seq ?_
    refine c_asg ?_
    refine c_fz ?_
    refine c_lst ?_
    refine ea_to ea_nil ?_
    refine k_lstC (vs := []) hS (Nat.zero_le _) fun p22 H hS => ?_
    have hS : Sep H ([listE hdE p22 (([] : (List Hd)) : (List Hd)), lstA p21 (([] : (List Str)) : (List Str)), listE lstA p19 (y20 : (List (List (T4 Int Str Int Any)))), listE LedgerA p15 (y16 : (List Ledger)), lstA p4 (r3.1 : (List Str)), stA p2 (r3.2 : T3 Int Script Int), imA (.ref ad_v_law_script) v_law_script, F] : List (Asn G)) := listE_nil hS
    refine fz_no ?_
    refine c_set (σ' := [some (.ref ad_v_law_script), some (.ref p2), some (.ref p4), some (.ref p15), some (.ref p19), some (.ref p21), some (.ref p22), none, none, none, none, none, none, none, none, none]) rfl ?_
    refine sq_nx ?_
    refine f_seq ?_
    refine c_for ?_
    refine c_il ?_
    refine c_fz ?_
    refine c_sl ?_
    refine ev_to (ev_var rfl) ?_
    refine eo_to eo_no ?_
    refine eo_to (eo_some ev_c) ?_
    refine k_slG (xs := v_law_script.ns) hS (read_script ((hS.im (i := 6) rfl))) fun p23 H hS => ?_
    refine fz_no ?_
    refine k_il hS (i := 0) rfl ?_
    refine k_forF (τ := (T3 Int Script Int) × (List Ledger) × (List (List (T4 Int Str Int Any))) × (List Hd)) (fun (s24 : (T3 Int Script Int) × (List Ledger) × (List (List (T4 Int Str Int Any))) × (List Hd)) (σ : L2.St) (H : Hp) => ∃ (w27 w28 w29 w30 w31 w32 w33 : Option V), σ = [some (.ref ad_v_law_script), some (.ref p2), some (.ref p4), some (.ref p15), some (.ref p19), some (.ref p21), some (.ref p22), w27, w28, none, w29, w30, w31, w32, w33, none] ∧ Sep H ([lstA p23 (cutL v_law_script.ns none (some (30)) : (List Int)), listE hdE p22 (s24.2.2.2 : (List Hd)), lstA p21 (([] : (List Str)) : (List Str)), listE lstA p19 (s24.2.2.1 : (List (List (T4 Int Str Int Any)))), listE LedgerA p15 (s24.2.1 : (List Ledger)), lstA p4 (r3.1 : (List Str)), stA p2 (s24.1 : T3 Int Script Int), imA (.ref ad_v_law_script) v_law_script, F] : List (Asn G))) (im := (Im.im G)) (s := (r3.2, y16, y20, ([] : (List Hd)))) (fun _ => wk_list fun _ _ ⟨_, _, _, _, _, _, _, _, h⟩ => h.sq (i := 0) rfl) ⟨_, _, _, _, _, _, _, rfl, hS.sel [0, 1, 2, 3, 4, 5, 6, 7, 8] (by decide) rfl⟩ hm (fun s24 x25 v26 σ H q N B hI hx hm nx bk ho34 => ?_) (fun s24 σ H hm hI => ?_)
    ·
      obtain ⟨w27, w28, w29, w30, w31, w32, w33, rfl, hS⟩ := hI
      cases hx
      refine c_gN (σ' := [some (.ref ad_v_law_script), some (.ref p2), some (.ref p4), some (.ref p15), some (.ref p19), some (.ref p21), some (.ref p22), some (.int (x25)), w28, none, w29, w30, w31, w32, w33, none]) rfl ?_
      refine f_seq ?_
      refine c_asg ?_
      refine c_op ?_
      refine c_call ?_
      refine ea_to (ea_cons (ev_var rfl) ea_nil) ?_
      refine ⟨p2, (s24.1 : (T3 Int Script Int)), star [lstA p23 (cutL v_law_script.ns none (some (30)) : (List Int)), listE hdE p22 (s24.2.2.2 : (List Hd)), lstA p21 (([] : (List Str)) : (List Str)), listE lstA p19 (s24.2.2.1 : (List (List (T4 Int Str Int Any)))), listE LedgerA p15 (s24.2.1 : (List Ledger)), lstA p4 (r3.1 : (List Str)), imA (.ref ad_v_law_script) v_law_script, F], rfl, Sep.unstar (M := [stA p2 (s24.1 : T3 Int Script Int)]) (hS.sel [6, 0, 1, 2, 3, 4, 5, 7, 8] (by decide) rfl : Sep H (([stA p2 (s24.1 : T3 Int Script Int)] ++ [lstA p23 (cutL v_law_script.ns none (some (30)) : (List Int)), listE hdE p22 (s24.2.2.2 : (List Hd)), lstA p21 (([] : (List Str)) : (List Str)), listE lstA p19 (s24.2.2.1 : (List (List (T4 Int Str Int Any)))), listE LedgerA p15 (s24.2.1 : (List Ledger)), lstA p4 (r3.1 : (List Str)), imA (.ref ad_v_law_script) v_law_script, F] : List (Asn G)))), R.wp_mono (R.wp_bind hm) (fun r35 hm H hS => ?_) (fun _ z => z)⟩
      have hS : Sep H ([stA p2 (r35.2 : T3 Int Script Int), lstA p23 (cutL v_law_script.ns none (some (30)) : (List Int)), listE hdE p22 (s24.2.2.2 : (List Hd)), lstA p21 (([] : (List Str)) : (List Str)), listE lstA p19 (s24.2.2.1 : (List (List (T4 Int Str Int Any)))), listE LedgerA p15 (s24.2.1 : (List Ledger)), lstA p4 (r3.1 : (List Str)), imA (.ref ad_v_law_script) v_law_script, F] : List (Asn G)) := Sep.star (M := [stA p2 (r35.2 : T3 Int Script Int)]) hS
      refine ev_to ev_c ?_
      refine r_mod (by decide) ?_
      obtain ⟨y36, hy36, hm⟩ := wp_let hm
      refine n_is (w := (.int (y36))) (by first | rw [hy36] | (subst hy36; rfl)) ?_
      refine c_set (σ' := [some (.ref ad_v_law_script), some (.ref p2), some (.ref p4), some (.ref p15), some (.ref p19), some (.ref p21), some (.ref p22), some (.int (x25)), some (.int (y36)), none, w29, w30, w31, w32, w33, none]) rfl ?_
      refine sq_nx ?_
      refine f_seq ?_
      refine c_asg ?_
      refine c_cb ?_
      refine c_cons ?_
      refine c_fz ?_
      refine c_lc ?_
      refine c_il ?_
      refine c_fz ?_
      refine c_op ?_
      refine ev_to (ev_fz (ev_var rfl)) ?_
      refine ev_to (ev_var rfl) ?_
      obtain ⟨j37, x38, hx38, hm⟩ := wp_ixJ hm
      refine ixK (x := (x38 : (List (T4 Int Str Int Any)))) (hS.sel [4, 0, 1, 2, 3, 5, 6, 7, 8] (by decide) rfl : Sep H (listE lstA p19 (s24.2.2.1 : (List (List (T4 Int Str Int Any)))) :: [stA p2 (r35.2 : T3 Int Script Int), lstA p23 (cutL v_law_script.ns none (some (30)) : (List Int)), listE hdE p22 (s24.2.2.2 : (List Hd)), lstA p21 (([] : (List Str)) : (List Str)), listE LedgerA p15 (s24.2.1 : (List Ledger)), lstA p4 (r3.1 : (List Str)), imA (.ref ad_v_law_script) v_law_script, F] : List (Asn G))) hx38 fun ps39 p40 hl41 hp42 hS => ?_
      have hS : Sep H ([lstA p40 (x38 : (List (T4 Int Str Int Any))), listH lstA p19 ps39 (s24.2.2.1 : (List (List (T4 Int Str Int Any)))) j37, stA p2 (r35.2 : T3 Int Script Int), lstA p23 (cutL v_law_script.ns none (some (30)) : (List Int)), listE hdE p22 (s24.2.2.2 : (List Hd)), lstA p21 (([] : (List Str)) : (List Str)), listE LedgerA p15 (s24.2.1 : (List Ledger)), lstA p4 (r3.1 : (List Str)), imA (.ref ad_v_law_script) v_law_script, F] : List (Asn G)) := hS
      refine fz_no ?_
      refine k_il hS (i := 0) rfl ?_
      obtain ⟨h43, hm⟩ := R.wp_need hm
      refine lc_sep (β := (T4 Int Str Int Any)) (fun (_ : Unit) => ([lstA p40 (x38 : (List (T4 Int Str Int Any))), listH lstA p19 ps39 (s24.2.2.1 : (List (List (T4 Int Str Int Any)))) j37, stA p2 (r35.2 : T3 Int Script Int), lstA p23 (cutL v_law_script.ns none (some (30)) : (List Int)), listE hdE p22 (s24.2.2.2 : (List Hd)), lstA p21 (([] : (List Str)) : (List Str)), listE LedgerA p15 (s24.2.1 : (List Ledger)), lstA p4 (r3.1 : (List Str)), imA (.ref ad_v_law_script) v_law_script, F] : List (Asn G))) (s := ()) (im := (Im.im G)) hS (fun _ _ _ => wk_list fun _ _ h => h.sq (i := 1) rfl) h43 hm (fun p44 _ ys47 x45 v46 H q Nx hS hx hm kS kN => ?_) (fun p44 t H hm hS => ?_)
      ·
        obtain ⟨a48, rfl⟩ := isref hx
        have hS := hS.addIm (v := (.ref a48)) (x := (x45 : (T4 Int Str Int Any))) hx
        refine c_gLc (σ' := [some (.ref ad_v_law_script), some (.ref p2), some (.ref p4), some (.ref p15), some (.ref p19), some (.ref p21), some (.ref p22), some (.int (x25)), some (.int (y36)), some (.ref a48), w29, w30, w31, w32, w33, none]) rfl rfl ?_
        obtain ⟨u50, u51, u52, u53, hT58, h54, h55, h56, h57⟩ := im4 (hS.im (i := 0) rfl)
        obtain rfl : u50 = (.int (x45.a)) := h54
        obtain rfl : u51 = (.str (x45.b)) := h55
        obtain rfl : u52 = (.int (x45.c)) := h56
        obtain ⟨xs59, h60, hm⟩ := Ml.wp_asTup hm
        obtain ⟨x61, hx61, hm⟩ := wp_idx hm
        obtain ⟨a62, vs63, he64, hg65, hM66⟩ := any_tupE h57 h60
        obtain ⟨u67, hu68, hi69⟩ := atI_im hM66 hx61
        obtain ⟨b70, hb70, hm⟩ := wp_eqA hm
        refine et_to (et_test (ev_eqA (ev_ixT (ev_is (ev_ixT (ev_var rfl) ev_c hT58 rfl) he64) ev_c hg65 hu68) ev_c hi69 (any_str.mpr rfl) hb70)) ?_
        refine lc_if (fun hb71 => ?_) (fun hb71 => ?_)
        · have hm := R.wp_ifY hm hb71
          refine ev_to (ev_var rfl) ?_
          exact kS () _ _ _ hm (hS.im (i := 0) rfl) (hS.sel [1, 2, 3, 4, 5, 6, 7, 8, 9, 10, 11] (by decide) rfl)
        · have hm := R.wp_ifN hm (by first | (rw [hb71]; decide) | simpa using hb71)
          exact kN () _ hm (hS.sel [1, 2, 3, 4, 5, 6, 7, 8, 9, 10, 11] (by decide) rfl)
      · revert hm hS; generalize t = t72; intro hm hS
        refine fz_no ?_
        refine c_nil ?_
        refine k_lenG (hS.sq (i := 0) rfl) ?_
        obtain ⟨y73, hy73, hm⟩ := wp_let hm
        refine n_is (w := (.int (y73))) (by first | rw [hy73] | (subst hy73; rfl)) ?_
        refine c_set (σ' := [some (.ref ad_v_law_script), some (.ref p2), some (.ref p4), some (.ref p15), some (.ref p19), some (.ref p21), some (.ref p22), some (.int (x25)), some (.int (y36)), none, some (.int (y73)), w30, w31, w32, w33, none]) rfl ?_
        have hS : Sep H ([listE lstA p19 (s24.2.2.1 : (List (List (T4 Int Str Int Any)))), lstA p44 (t72.2 : (List (T4 Int Str Int Any))), stA p2 (r35.2 : T3 Int Script Int), lstA p23 (cutL v_law_script.ns none (some (30)) : (List Int)), listE hdE p22 (s24.2.2.2 : (List Hd)), lstA p21 (([] : (List Str)) : (List Str)), listE LedgerA p15 (s24.2.1 : (List Ledger)), lstA p4 (r3.1 : (List Str)), imA (.ref ad_v_law_script) v_law_script, F] : List (Asn G)) := unfocus0 hl41 hp42 hx38.2 (hS.sel [1, 2, 0, 3, 4, 5, 6, 7, 8, 9, 10] (by decide) rfl)
        refine sq_nx ?_
        refine f_seq ?_
        refine f_if ?_
        refine f_and ?_
        refine f_test ?_
        refine c_op ?_
        refine c_op ?_
        refine c_call ?_
        refine ea_to (ea_cons (ev_var rfl) ea_nil) ?_
        refine ⟨p2, (r35.2 : (T3 Int Script Int)), star [listE lstA p19 (s24.2.2.1 : (List (List (T4 Int Str Int Any)))), lstA p44 (t72.2 : (List (T4 Int Str Int Any))), lstA p23 (cutL v_law_script.ns none (some (30)) : (List Int)), listE hdE p22 (s24.2.2.2 : (List Hd)), lstA p21 (([] : (List Str)) : (List Str)), listE LedgerA p15 (s24.2.1 : (List Ledger)), lstA p4 (r3.1 : (List Str)), imA (.ref ad_v_law_script) v_law_script, F], rfl, Sep.unstar (M := [stA p2 (r35.2 : T3 Int Script Int)]) (hS.sel [2, 0, 1, 3, 4, 5, 6, 7, 8, 9] (by decide) rfl : Sep H (([stA p2 (r35.2 : T3 Int Script Int)] ++ [listE lstA p19 (s24.2.2.1 : (List (List (T4 Int Str Int Any)))), lstA p44 (t72.2 : (List (T4 Int Str Int Any))), lstA p23 (cutL v_law_script.ns none (some (30)) : (List Int)), listE hdE p22 (s24.2.2.2 : (List Hd)), lstA p21 (([] : (List Str)) : (List Str)), listE LedgerA p15 (s24.2.1 : (List Ledger)), lstA p4 (r3.1 : (List Str)), imA (.ref ad_v_law_script) v_law_script, F] : List (Asn G)))), R.wp_mono (R.wp_bind hm) (fun r74 hm H hS => ?_) (fun _ z => z)⟩
        have hS : Sep H ([stA p2 (r74.2 : T3 Int Script Int), listE lstA p19 (s24.2.2.1 : (List (List (T4 Int Str Int Any)))), lstA p44 (t72.2 : (List (T4 Int Str Int Any))), lstA p23 (cutL v_law_script.ns none (some (30)) : (List Int)), listE hdE p22 (s24.2.2.2 : (List Hd)), lstA p21 (([] : (List Str)) : (List Str)), listE LedgerA p15 (s24.2.1 : (List Ledger)), lstA p4 (r3.1 : (List Str)), imA (.ref ad_v_law_script) v_law_script, F] : List (Asn G)) := Sep.star (M := [stA p2 (r74.2 : T3 Int Script Int)]) hS
        refine ev_to ev_c ?_
        refine r_mod (by decide) ?_
        refine ev_to ev_c ?_
        refine ev_op2 (ev_eqI ev_c ev_c) ?_
        refine f_bl ?_
        refine andK_T (τ := (List Ledger) × (T3 Int Script Int)) (s0 := (s24.2.1, r74.2)) (fun (s75 : (List Ledger) × (T3 Int Script Int)) => ([stA p2 (s75.2 : T3 Int Script Int), listE lstA p19 (s24.2.2.1 : (List (List (T4 Int Str Int Any)))), lstA p44 (t72.2 : (List (T4 Int Str Int Any))), lstA p23 (cutL v_law_script.ns none (some (30)) : (List Int)), listE hdE p22 (s24.2.2.2 : (List Hd)), lstA p21 (([] : (List Str)) : (List Str)), listE LedgerA p15 (s75.1 : (List Ledger)), lstA p4 (r3.1 : (List Str)), imA (.ref ad_v_law_script) v_law_script, F] : List (Asn G))) hm hS (fun hb q hm nx => ?_) (fun s75 b76 H hm hS => ?_)
        ·
          refine f_not ?_
          refine f_B ?_
          refine c_call ?_
          refine c_cons ?_
          refine c_op ?_
          refine ev_to (ev_fz (ev_var rfl)) ?_
          refine ev_to (ev_var rfl) ?_
          obtain ⟨j77, x78, hx78, hm⟩ := wp_ixJ hm
          refine ixK (x := (x78 : Ledger)) (hS.sel [6, 0, 1, 2, 3, 4, 5, 7, 8, 9] (by decide) rfl : Sep H (listE LedgerA p15 (s24.2.1 : (List Ledger)) :: [stA p2 (r74.2 : T3 Int Script Int), listE lstA p19 (s24.2.2.1 : (List (List (T4 Int Str Int Any)))), lstA p44 (t72.2 : (List (T4 Int Str Int Any))), lstA p23 (cutL v_law_script.ns none (some (30)) : (List Int)), listE hdE p22 (s24.2.2.2 : (List Hd)), lstA p21 (([] : (List Str)) : (List Str)), lstA p4 (r3.1 : (List Str)), imA (.ref ad_v_law_script) v_law_script, F] : List (Asn G))) hx78 fun ps79 p80 hl81 hp82 hS => ?_
          have hS : Sep H ([LedgerA p80 x78, listH LedgerA p15 ps79 (s24.2.1 : (List Ledger)) j77, stA p2 (r74.2 : T3 Int Script Int), listE lstA p19 (s24.2.2.1 : (List (List (T4 Int Str Int Any)))), lstA p44 (t72.2 : (List (T4 Int Str Int Any))), lstA p23 (cutL v_law_script.ns none (some (30)) : (List Int)), listE hdE p22 (s24.2.2.2 : (List Hd)), lstA p21 (([] : (List Str)) : (List Str)), lstA p4 (r3.1 : (List Str)), imA (.ref ad_v_law_script) v_law_script, F] : List (Asn G)) := hS
          refine c_cons ?_
          refine c_call ?_
          obtain ⟨x83, hx83, hm⟩ := wp_idx hm
          refine ea_to (ea_cons (ev_var rfl) (ea_cons (ev_ixSq (ev_fz (ev_var rfl)) (ev_var rfl) (hS.sqF (i := 8) rfl) (atI_map hx83)) (ea_cons (ev_var rfl) ea_nil))) ?_
          refine ⟨p2, (r74.2 : (T3 Int Script Int)), x83, y73, star [LedgerA p80 x78, listH LedgerA p15 ps79 (s24.2.1 : (List Ledger)) j77, listE lstA p19 (s24.2.2.1 : (List (List (T4 Int Str Int Any)))), lstA p44 (t72.2 : (List (T4 Int Str Int Any))), lstA p23 (cutL v_law_script.ns none (some (30)) : (List Int)), listE hdE p22 (s24.2.2.2 : (List Hd)), lstA p21 (([] : (List Str)) : (List Str)), lstA p4 (r3.1 : (List Str)), imA (.ref ad_v_law_script) v_law_script, F], rfl, Sep.unstar (M := [stA p2 (r74.2 : T3 Int Script Int)]) (hS.sel [2, 0, 1, 3, 4, 5, 6, 7, 8, 9, 10] (by decide) rfl : Sep H (([stA p2 (r74.2 : T3 Int Script Int)] ++ [LedgerA p80 x78, listH LedgerA p15 ps79 (s24.2.1 : (List Ledger)) j77, listE lstA p19 (s24.2.2.1 : (List (List (T4 Int Str Int Any)))), lstA p44 (t72.2 : (List (T4 Int Str Int Any))), lstA p23 (cutL v_law_script.ns none (some (30)) : (List Int)), listE hdE p22 (s24.2.2.2 : (List Hd)), lstA p21 (([] : (List Str)) : (List Str)), lstA p4 (r3.1 : (List Str)), imA (.ref ad_v_law_script) v_law_script, F] : List (Asn G)))), R.wp_mono (R.wp_bind hm) (fun r84 hm p85 H hS => ?_) (fun _ z => z)⟩
          have hS : Sep H ([imA p85 (r84.1 : Any), stA p2 (r84.2 : T3 Int Script Int), LedgerA p80 x78, listH LedgerA p15 ps79 (s24.2.1 : (List Ledger)) j77, listE lstA p19 (s24.2.2.1 : (List (List (T4 Int Str Int Any)))), lstA p44 (t72.2 : (List (T4 Int Str Int Any))), lstA p23 (cutL v_law_script.ns none (some (30)) : (List Int)), listE hdE p22 (s24.2.2.2 : (List Hd)), lstA p21 (([] : (List Str)) : (List Str)), lstA p4 (r3.1 : (List Str)), imA (.ref ad_v_law_script) v_law_script, F] : List (Asn G)) := Sep.star (M := [imA p85 (r84.1 : Any), stA p2 (r84.2 : T3 Int Script Int)]) hS
          refine c_nil ?_
          refine ⟨p80, (x78 : Ledger), p85, (r84.1 : Any), star [imA p85 (r84.1 : Any), stA p2 (r84.2 : T3 Int Script Int), listH LedgerA p15 ps79 (s24.2.1 : (List Ledger)) j77, listE lstA p19 (s24.2.2.1 : (List (List (T4 Int Str Int Any)))), lstA p44 (t72.2 : (List (T4 Int Str Int Any))), lstA p23 (cutL v_law_script.ns none (some (30)) : (List Int)), listE hdE p22 (s24.2.2.2 : (List Hd)), lstA p21 (([] : (List Str)) : (List Str)), lstA p4 (r3.1 : (List Str)), imA (.ref ad_v_law_script) v_law_script, F], rfl, (hS.im (i := 0) rfl), Sep.unstar (M := [LedgerA p80 x78]) (hS.sel [2, 0, 1, 3, 4, 5, 6, 7, 8, 9, 10, 11] (by decide) rfl : Sep H (([LedgerA p80 x78] ++ [imA p85 (r84.1 : Any), stA p2 (r84.2 : T3 Int Script Int), listH LedgerA p15 ps79 (s24.2.1 : (List Ledger)) j77, listE lstA p19 (s24.2.2.1 : (List (List (T4 Int Str Int Any)))), lstA p44 (t72.2 : (List (T4 Int Str Int Any))), lstA p23 (cutL v_law_script.ns none (some (30)) : (List Int)), listE hdE p22 (s24.2.2.2 : (List Hd)), lstA p21 (([] : (List Str)) : (List Str)), lstA p4 (r3.1 : (List Str)), imA (.ref ad_v_law_script) v_law_script, F] : List (Asn G)))), R.wp_mono (R.wp_bind hm) (fun r87 hm H hS => ?_) (fun _ z => z)⟩
          have hS : Sep H ([LedgerA p80 r87.2, imA p85 (r84.1 : Any), stA p2 (r84.2 : T3 Int Script Int), listH LedgerA p15 ps79 (s24.2.1 : (List Ledger)) j77, listE lstA p19 (s24.2.2.1 : (List (List (T4 Int Str Int Any)))), lstA p44 (t72.2 : (List (T4 Int Str Int Any))), lstA p23 (cutL v_law_script.ns none (some (30)) : (List Int)), listE hdE p22 (s24.2.2.2 : (List Hd)), lstA p21 (([] : (List Str)) : (List Str)), lstA p4 (r3.1 : (List Str)), imA (.ref ad_v_law_script) v_law_script, F] : List (Asn G)) := Sep.star (M := [LedgerA p80 r87.2]) hS
          refine f_bl ?_
          refine f_nK ?_
          have hS : Sep H ([listE LedgerA p15 (s24.2.1.set j77 r87.2 : (List Ledger)), imA p85 (r84.1 : Any), stA p2 (r84.2 : T3 Int Script Int), listE lstA p19 (s24.2.2.1 : (List (List (T4 Int Str Int Any)))), lstA p44 (t72.2 : (List (T4 Int Str Int Any))), lstA p23 (cutL v_law_script.ns none (some (30)) : (List Int)), listE hdE p22 (s24.2.2.2 : (List Hd)), lstA p21 (([] : (List Str)) : (List Str)), lstA p4 (r3.1 : (List Str)), imA (.ref ad_v_law_script) v_law_script, F] : List (Asn G)) := unfocusE (y := (r87.2 : Ledger)) hl81 hp82 (hS.sel [0, 3, 1, 2, 4, 5, 6, 7, 8, 9, 10, 11] (by decide) rfl)
          exact nx (s24.2.1.set j77 r87.2, r84.2) _ _ hm (hS.sel [2, 3, 4, 5, 6, 7, 0, 8, 9, 10] (by decide) rfl)
        ·
          refine ifK_2 (fun hb88 => ?_) (fun hb88 => ?_)
          · have hm := R.wp_ifY hm hb88
            refine c_ret ?_
            refine ev_to ev_c ?_
            exact (ho34 _ hm) _ (hS.sel [9] (by decide) rfl)
          · have hm := R.wp_ifN hm (by first | (rw [hb88]; decide) | simpa using hb88)
            refine st_nx ?_
            refine sq_nx ?_
            refine f_seq ?_
            refine c_asg ?_
            refine c_call ?_
            obtain ⟨x89, hx89, hm⟩ := wp_idx hm
            refine ea_to (ea_cons (ev_var rfl) (ea_cons (ev_fz (ev_var rfl)) (ea_cons (ev_ixSq (ev_fz (ev_var rfl)) (ev_var rfl) (hS.sqF (i := 7) rfl) (atI_map hx89)) (ea_cons (ev_var rfl) ea_nil)))) ?_
            refine ⟨p2, (s75.2 : (T3 Int Script Int)), p21, (([] : (List Str)) : (List Str)), x89, y73, star [listE lstA p19 (s24.2.2.1 : (List (List (T4 Int Str Int Any)))), lstA p44 (t72.2 : (List (T4 Int Str Int Any))), lstA p23 (cutL v_law_script.ns none (some (30)) : (List Int)), listE hdE p22 (s24.2.2.2 : (List Hd)), listE LedgerA p15 (s75.1 : (List Ledger)), lstA p4 (r3.1 : (List Str)), imA (.ref ad_v_law_script) v_law_script, F], rfl, Sep.unstar (M := [stA p2 (s75.2 : T3 Int Script Int), lstA p21 (([] : (List Str)) : (List Str))]) (hS.sel [0, 5, 1, 2, 3, 4, 6, 7, 8, 9] (by decide) rfl : Sep H (([stA p2 (s75.2 : T3 Int Script Int), lstA p21 (([] : (List Str)) : (List Str))] ++ [listE lstA p19 (s24.2.2.1 : (List (List (T4 Int Str Int Any)))), lstA p44 (t72.2 : (List (T4 Int Str Int Any))), lstA p23 (cutL v_law_script.ns none (some (30)) : (List Int)), listE hdE p22 (s24.2.2.2 : (List Hd)), listE LedgerA p15 (s75.1 : (List Ledger)), lstA p4 (r3.1 : (List Str)), imA (.ref ad_v_law_script) v_law_script, F] : List (Asn G)))), R.wp_mono (R.wp_bind hm) (fun r90 hm p91 H hS => ?_) (fun _ z => z)⟩
            have hS : Sep H ([imA p91 (r90.1 : Any), stA p2 (r90.2 : T3 Int Script Int), lstA p21 (([] : (List Str)) : (List Str)), listE lstA p19 (s24.2.2.1 : (List (List (T4 Int Str Int Any)))), lstA p44 (t72.2 : (List (T4 Int Str Int Any))), lstA p23 (cutL v_law_script.ns none (some (30)) : (List Int)), listE hdE p22 (s24.2.2.2 : (List Hd)), listE LedgerA p15 (s75.1 : (List Ledger)), lstA p4 (r3.1 : (List Str)), imA (.ref ad_v_law_script) v_law_script, F] : List (Asn G)) := Sep.star (M := [imA p91 (r90.1 : Any), stA p2 (r90.2 : T3 Int Script Int), lstA p21 (([] : (List Str)) : (List Str))]) hS
            refine c_set (σ' := [some (.ref ad_v_law_script), some (.ref p2), some (.ref p4), some (.ref p15), some (.ref p19), some (.ref p21), some (.ref p22), some (.int (x25)), some (.int (y36)), none, some (.int (y73)), some p91, w31, w32, w33, none]) rfl ?_
            refine sq_nx ?_
            refine f_seq ?_
            refine c_asg ?_
            refine c_call ?_
            refine c_cons ?_
            refine c_op ?_
            refine ev_to (ev_fz (ev_var rfl)) ?_
            refine ev_to (ev_var rfl) ?_
            obtain ⟨j93, x94, hx94, hm⟩ := wp_ixJ hm
            refine ixK (x := (x94 : Ledger)) (hS.sel [7, 0, 1, 2, 3, 4, 5, 6, 8, 9, 10] (by decide) rfl : Sep H (listE LedgerA p15 (s75.1 : (List Ledger)) :: [imA p91 (r90.1 : Any), stA p2 (r90.2 : T3 Int Script Int), lstA p21 (([] : (List Str)) : (List Str)), listE lstA p19 (s24.2.2.1 : (List (List (T4 Int Str Int Any)))), lstA p44 (t72.2 : (List (T4 Int Str Int Any))), lstA p23 (cutL v_law_script.ns none (some (30)) : (List Int)), listE hdE p22 (s24.2.2.2 : (List Hd)), lstA p4 (r3.1 : (List Str)), imA (.ref ad_v_law_script) v_law_script, F] : List (Asn G))) hx94 fun ps95 p96 hl97 hp98 hS => ?_
            have hS : Sep H ([LedgerA p96 x94, listH LedgerA p15 ps95 (s75.1 : (List Ledger)) j93, imA p91 (r90.1 : Any), stA p2 (r90.2 : T3 Int Script Int), lstA p21 (([] : (List Str)) : (List Str)), listE lstA p19 (s24.2.2.1 : (List (List (T4 Int Str Int Any)))), lstA p44 (t72.2 : (List (T4 Int Str Int Any))), lstA p23 (cutL v_law_script.ns none (some (30)) : (List Int)), listE hdE p22 (s24.2.2.2 : (List Hd)), lstA p4 (r3.1 : (List Str)), imA (.ref ad_v_law_script) v_law_script, F] : List (Asn G)) := hS
            refine c_cons ?_
            refine ev_to (ev_var rfl) ?_
            refine c_nil ?_
            refine ⟨p96, (x94 : Ledger), p91, (r90.1 : Any), star [listH LedgerA p15 ps95 (s75.1 : (List Ledger)) j93, imA p91 (r90.1 : Any), stA p2 (r90.2 : T3 Int Script Int), lstA p21 (([] : (List Str)) : (List Str)), listE lstA p19 (s24.2.2.1 : (List (List (T4 Int Str Int Any)))), lstA p44 (t72.2 : (List (T4 Int Str Int Any))), lstA p23 (cutL v_law_script.ns none (some (30)) : (List Int)), listE hdE p22 (s24.2.2.2 : (List Hd)), lstA p4 (r3.1 : (List Str)), imA (.ref ad_v_law_script) v_law_script, F], rfl, (hS.im (i := 2) rfl), Sep.unstar (M := [LedgerA p96 x94]) (hS.sel [0, 1, 2, 3, 4, 5, 6, 7, 8, 9, 10, 11] (by decide) rfl : Sep H (([LedgerA p96 x94] ++ [listH LedgerA p15 ps95 (s75.1 : (List Ledger)) j93, imA p91 (r90.1 : Any), stA p2 (r90.2 : T3 Int Script Int), lstA p21 (([] : (List Str)) : (List Str)), listE lstA p19 (s24.2.2.1 : (List (List (T4 Int Str Int Any)))), lstA p44 (t72.2 : (List (T4 Int Str Int Any))), lstA p23 (cutL v_law_script.ns none (some (30)) : (List Int)), listE hdE p22 (s24.2.2.2 : (List Hd)), lstA p4 (r3.1 : (List Str)), imA (.ref ad_v_law_script) v_law_script, F] : List (Asn G)))), R.wp_mono (R.wp_bind hm) (fun r99 hm p100 H hS => ?_) (fun _ z => z)⟩
            have hS : Sep H ([imA p100 (r99.1 : Any), LedgerA p96 r99.2, listH LedgerA p15 ps95 (s75.1 : (List Ledger)) j93, imA p91 (r90.1 : Any), stA p2 (r90.2 : T3 Int Script Int), lstA p21 (([] : (List Str)) : (List Str)), listE lstA p19 (s24.2.2.1 : (List (List (T4 Int Str Int Any)))), lstA p44 (t72.2 : (List (T4 Int Str Int Any))), lstA p23 (cutL v_law_script.ns none (some (30)) : (List Int)), listE hdE p22 (s24.2.2.2 : (List Hd)), lstA p4 (r3.1 : (List Str)), imA (.ref ad_v_law_script) v_law_script, F] : List (Asn G)) := Sep.star (M := [imA p100 (r99.1 : Any), LedgerA p96 r99.2]) hS
            refine c_set (σ' := [some (.ref ad_v_law_script), some (.ref p2), some (.ref p4), some (.ref p15), some (.ref p19), some (.ref p21), some (.ref p22), some (.int (x25)), some (.int (y36)), none, some (.int (y73)), some p91, some p100, w32, w33, none]) rfl ?_
            have hS : Sep H ([listE LedgerA p15 (s75.1.set j93 r99.2 : (List Ledger)), imA p100 (r99.1 : Any), imA p91 (r90.1 : Any), stA p2 (r90.2 : T3 Int Script Int), lstA p21 (([] : (List Str)) : (List Str)), listE lstA p19 (s24.2.2.1 : (List (List (T4 Int Str Int Any)))), lstA p44 (t72.2 : (List (T4 Int Str Int Any))), lstA p23 (cutL v_law_script.ns none (some (30)) : (List Int)), listE hdE p22 (s24.2.2.2 : (List Hd)), lstA p4 (r3.1 : (List Str)), imA (.ref ad_v_law_script) v_law_script, F] : List (Asn G)) := unfocusE (y := (r99.2 : Ledger)) hl97 hp98 (hS.sel [1, 2, 0, 3, 4, 5, 6, 7, 8, 9, 10, 11, 12] (by decide) rfl)
            refine sq_nx ?_
            refine f_seq ?_
            refine c_asg ?_
            refine c_tup ?_
            refine c_cons ?_
            refine c_op ?_
            refine c_cb ?_
            refine c_cons ?_
            refine c_fz ?_
            refine c_op ?_
            refine ev_to (ev_fz (ev_var rfl)) ?_
            refine ev_to (ev_var rfl) ?_
            obtain ⟨j102, x103, hx103, hm⟩ := wp_ixJ hm
            refine ixK (x := (x103 : (List (T4 Int Str Int Any)))) (hS.sel [5, 0, 1, 2, 3, 4, 6, 7, 8, 9, 10, 11] (by decide) rfl : Sep H (listE lstA p19 (s24.2.2.1 : (List (List (T4 Int Str Int Any)))) :: [listE LedgerA p15 (s75.1.set j93 r99.2 : (List Ledger)), imA p100 (r99.1 : Any), imA p91 (r90.1 : Any), stA p2 (r90.2 : T3 Int Script Int), lstA p21 (([] : (List Str)) : (List Str)), lstA p44 (t72.2 : (List (T4 Int Str Int Any))), lstA p23 (cutL v_law_script.ns none (some (30)) : (List Int)), listE hdE p22 (s24.2.2.2 : (List Hd)), lstA p4 (r3.1 : (List Str)), imA (.ref ad_v_law_script) v_law_script, F] : List (Asn G))) hx103 fun ps104 p105 hl106 hp107 hS => ?_
            have hS : Sep H ([lstA p105 (x103 : (List (T4 Int Str Int Any))), listH lstA p19 ps104 (s24.2.2.1 : (List (List (T4 Int Str Int Any)))) j102, listE LedgerA p15 (s75.1.set j93 r99.2 : (List Ledger)), imA p100 (r99.1 : Any), imA p91 (r90.1 : Any), stA p2 (r90.2 : T3 Int Script Int), lstA p21 (([] : (List Str)) : (List Str)), lstA p44 (t72.2 : (List (T4 Int Str Int Any))), lstA p23 (cutL v_law_script.ns none (some (30)) : (List Int)), listE hdE p22 (s24.2.2.2 : (List Hd)), lstA p4 (r3.1 : (List Str)), imA (.ref ad_v_law_script) v_law_script, F] : List (Asn G)) := hS
            refine fz_no ?_
            refine c_nil ?_
            refine k_lenG (hS.sq (i := 0) rfl) ?_
            have hS : Sep H ([listE lstA p19 (s24.2.2.1 : (List (List (T4 Int Str Int Any)))), listE LedgerA p15 (s75.1.set j93 r99.2 : (List Ledger)), imA p100 (r99.1 : Any), imA p91 (r90.1 : Any), stA p2 (r90.2 : T3 Int Script Int), lstA p21 (([] : (List Str)) : (List Str)), lstA p44 (t72.2 : (List (T4 Int Str Int Any))), lstA p23 (cutL v_law_script.ns none (some (30)) : (List Int)), listE hdE p22 (s24.2.2.2 : (List Hd)), lstA p4 (r3.1 : (List Str)), imA (.ref ad_v_law_script) v_law_script, F] : List (Asn G)) := unfocus0 hl106 hp107 hx103.2 (hS.sel [0, 1, 2, 3, 4, 5, 6, 7, 8, 9, 10, 11, 12] (by decide) rfl)
            refine ev_to ev_c ?_
            refine r_I0 _ ?_
            refine c_cons ?_
            obtain ⟨x108, hx108, hm⟩ := wp_idx hm
            refine ev_to (ev_ixSq (ev_fz (ev_var rfl)) (ev_var rfl) (hS.sqF (i := 9) rfl) (atI_map hx108)) ?_
            refine c_cons ?_
            refine c_op ?_
            refine c_cb ?_
            refine c_cons ?_
            refine c_fz ?_
            refine c_op ?_
            refine ev_to (ev_fz (ev_var rfl)) ?_
            refine ev_to (ev_var rfl) ?_
            obtain ⟨j109, x110, hx110, hm⟩ := wp_ixJ hm
            refine ixK (x := (x110 : (List (T4 Int Str Int Any)))) (hS.sel [0, 1, 2, 3, 4, 5, 6, 7, 8, 9, 10, 11] (by decide) rfl : Sep H (listE lstA p19 (s24.2.2.1 : (List (List (T4 Int Str Int Any)))) :: [listE LedgerA p15 (s75.1.set j93 r99.2 : (List Ledger)), imA p100 (r99.1 : Any), imA p91 (r90.1 : Any), stA p2 (r90.2 : T3 Int Script Int), lstA p21 (([] : (List Str)) : (List Str)), lstA p44 (t72.2 : (List (T4 Int Str Int Any))), lstA p23 (cutL v_law_script.ns none (some (30)) : (List Int)), listE hdE p22 (s24.2.2.2 : (List Hd)), lstA p4 (r3.1 : (List Str)), imA (.ref ad_v_law_script) v_law_script, F] : List (Asn G))) hx110 fun ps111 p112 hl113 hp114 hS => ?_
            have hS : Sep H ([lstA p112 (x110 : (List (T4 Int Str Int Any))), listH lstA p19 ps111 (s24.2.2.1 : (List (List (T4 Int Str Int Any)))) j109, listE LedgerA p15 (s75.1.set j93 r99.2 : (List Ledger)), imA p100 (r99.1 : Any), imA p91 (r90.1 : Any), stA p2 (r90.2 : T3 Int Script Int), lstA p21 (([] : (List Str)) : (List Str)), lstA p44 (t72.2 : (List (T4 Int Str Int Any))), lstA p23 (cutL v_law_script.ns none (some (30)) : (List Int)), listE hdE p22 (s24.2.2.2 : (List Hd)), lstA p4 (r3.1 : (List Str)), imA (.ref ad_v_law_script) v_law_script, F] : List (Asn G)) := hS
            refine fz_no ?_
            refine c_nil ?_
            refine k_lenG (hS.sq (i := 0) rfl) ?_
            have hS : Sep H ([listE lstA p19 (s24.2.2.1 : (List (List (T4 Int Str Int Any)))), listE LedgerA p15 (s75.1.set j93 r99.2 : (List Ledger)), imA p100 (r99.1 : Any), imA p91 (r90.1 : Any), stA p2 (r90.2 : T3 Int Script Int), lstA p21 (([] : (List Str)) : (List Str)), lstA p44 (t72.2 : (List (T4 Int Str Int Any))), lstA p23 (cutL v_law_script.ns none (some (30)) : (List Int)), listE hdE p22 (s24.2.2.2 : (List Hd)), lstA p4 (r3.1 : (List Str)), imA (.ref ad_v_law_script) v_law_script, F] : List (Asn G)) := unfocus0 hl113 hp114 hx110.2 (hS.sel [0, 1, 2, 3, 4, 5, 6, 7, 8, 9, 10, 11, 12] (by decide) rfl)
            refine ev_to ev_c ?_
            refine r_I0 _ ?_
            refine c_cons ?_
            refine ev_to (ev_var rfl) ?_
            refine c_nil ?_
            refine k_tupP (x := ((⟨(x103.length : Int) + 1, x108, (x110.length : Int) + 1, r90.1⟩ : T4 _ _ _ _) : (T4 Int Str Int Any))) hS (fun H' p h s => mk4 rfl rfl rfl (hS.im (i := 3) rfl) h s) (by show 4 ≤ sizeLine; decide) fun p115 H hS => ?_
            refine c_set (σ' := [some (.ref ad_v_law_script), some (.ref p2), some (.ref p4), some (.ref p15), some (.ref p19), some (.ref p21), some (.ref p22), some (.int (x25)), some (.int (y36)), none, some (.int (y73)), some p91, some p100, some (.ref p115), w33, none]) rfl ?_
            refine sq_nx ?_
            refine f_seq ?_
            refine f_if ?_
            refine f_or ?_
            refine et_to (et_not (et_B (ev_isAny (ev_var rfl) ev_c (hS.im (i := 3) rfl) (by decide)))) ?_
            refine orK_J hm hS (fun hb q hm nx => ?_) (fun b117 H hm hS => ?_)
            ·
              refine f_or ?_
              obtain ⟨u118, u119, u120, u121, hT126, h122, h123, h124, h125⟩ := im4 (hS.im (i := 0) rfl)
              obtain rfl : u118 = (.int ((⟨(x103.length : Int) + 1, x108, (x110.length : Int) + 1, r90.1⟩ : T4 _ _ _ _).a)) := h122
              obtain rfl : u119 = (.str ((⟨(x103.length : Int) + 1, x108, (x110.length : Int) + 1, r90.1⟩ : T4 _ _ _ _).b)) := h123
              obtain rfl : u120 = (.int ((⟨(x103.length : Int) + 1, x108, (x110.length : Int) + 1, r90.1⟩ : T4 _ _ _ _).c)) := h124
              obtain ⟨b127, hb127, hm⟩ := wp_eqA hm
              refine et_to (et_test (ev_neA (ev_var rfl) (ev_var rfl) (hS.im (i := 3) rfl) ((any_tup (xs := [(Any.int ((⟨(x103.length : Int) + 1, x108, (x110.length : Int) + 1, r90.1⟩ : T4 _ _ _ _).a)), (Any.str ((⟨(x103.length : Int) + 1, x108, (x110.length : Int) + 1, r90.1⟩ : T4 _ _ _ _).b)), (Any.int ((⟨(x103.length : Int) + 1, x108, (x110.length : Int) + 1, r90.1⟩ : T4 _ _ _ _).c)), (⟨(x103.length : Int) + 1, x108, (x110.length : Int) + 1, r90.1⟩ : T4 _ _ _ _).d])).mpr ⟨_, _, rfl, hT126, ⟨(any_int.mpr rfl), ⟨(any_str.mpr rfl), ⟨(any_int.mpr rfl), ⟨h125, True.intro⟩⟩⟩⟩⟩) hb127)) ?_
              refine orK_J hm hS (fun hb q hm nx => ?_) (fun b128 H hm hS => ?_)
              ·
                obtain ⟨xs129, h130, hm⟩ := Ml.wp_asTup hm
                obtain ⟨x131, hx131, hm⟩ := wp_idx hm
                obtain ⟨a132, vs133, he134, hg135, hM136⟩ := any_tupE (hS.im (i := 3) rfl) h130
                obtain ⟨u137, hu138, hi139⟩ := atI_im hM136 hx131
                refine et_to (et_B (ev_isAny (ev_ixT (ev_is (ev_var rfl) he134) ev_c hg135 hu138) ev_c hi139 (by decide))) ?_
                exact nx _ _ hm (hS.sel [0, 1, 2, 3, 4, 5, 6, 7, 8, 9, 10, 11, 12] (by decide) rfl)
              ·
                exact nx _ _ hm (hS.sel [0, 1, 2, 3, 4, 5, 6, 7, 8, 9, 10, 11, 12] (by decide) rfl)
            ·
              refine ifK_2 (fun hb140 => ?_) (fun hb140 => ?_)
              · have hm := R.wp_ifY hm hb140
                refine c_ret ?_
                refine ev_to ev_c ?_
                exact (ho34 _ hm) _ (hS.sel [12] (by decide) rfl)
              · have hm := R.wp_ifN hm (by first | (rw [hb140]; decide) | simpa using hb140)
                refine st_nx ?_
                refine sq_nx ?_
                refine f_seq ?_
                refine c_drop ?_
                refine c_bm ?_
                refine c_fz ?_
                refine c_op ?_
                refine ev_to (ev_fz (ev_var rfl)) ?_
                refine ev_to (ev_var rfl) ?_
                obtain ⟨j141, x142, hx142, hm⟩ := wp_ixJ hm
                refine ixK (x := (x142 : (List (T4 Int Str Int Any)))) (hS.sel [1, 0, 2, 3, 4, 5, 6, 7, 8, 9, 10, 11, 12] (by decide) rfl : Sep H (listE lstA p19 (s24.2.2.1 : (List (List (T4 Int Str Int Any)))) :: [imA (.ref p115) ((⟨(x103.length : Int) + 1, x108, (x110.length : Int) + 1, r90.1⟩ : T4 _ _ _ _) : (T4 Int Str Int Any)), listE LedgerA p15 (s75.1.set j93 r99.2 : (List Ledger)), imA p100 (r99.1 : Any), imA p91 (r90.1 : Any), stA p2 (r90.2 : T3 Int Script Int), lstA p21 (([] : (List Str)) : (List Str)), lstA p44 (t72.2 : (List (T4 Int Str Int Any))), lstA p23 (cutL v_law_script.ns none (some (30)) : (List Int)), listE hdE p22 (s24.2.2.2 : (List Hd)), lstA p4 (r3.1 : (List Str)), imA (.ref ad_v_law_script) v_law_script, F] : List (Asn G))) hx142 fun ps143 p144 hl145 hp146 hS => ?_
                have hS : Sep H ([lstA p144 (x142 : (List (T4 Int Str Int Any))), listH lstA p19 ps143 (s24.2.2.1 : (List (List (T4 Int Str Int Any)))) j141, imA (.ref p115) ((⟨(x103.length : Int) + 1, x108, (x110.length : Int) + 1, r90.1⟩ : T4 _ _ _ _) : (T4 Int Str Int Any)), listE LedgerA p15 (s75.1.set j93 r99.2 : (List Ledger)), imA p100 (r99.1 : Any), imA p91 (r90.1 : Any), stA p2 (r90.2 : T3 Int Script Int), lstA p21 (([] : (List Str)) : (List Str)), lstA p44 (t72.2 : (List (T4 Int Str Int Any))), lstA p23 (cutL v_law_script.ns none (some (30)) : (List Int)), listE hdE p22 (s24.2.2.2 : (List Hd)), lstA p4 (r3.1 : (List Str)), imA (.ref ad_v_law_script) v_law_script, F] : List (Asn G)) := hS
                refine fz_no ?_
                refine ⟨tyL hS (i := 0) rfl, ?_⟩
                refine ea_to (ea_cons (ev_var rfl) ea_nil) ?_
                obtain ⟨h147, hm⟩ := R.wp_need hm
                refine k_append (x := (⟨(x103.length : Int) + 1, x108, (x110.length : Int) + 1, r90.1⟩ : T4 _ _ _ _)) hS (i := 0) rfl (hS.im (i := 2) rfl) h147 rfl fun H hS => ?_
                have hS : Sep H ([listE lstA p19 (s24.2.2.1.set j141 (x142 ++ [(⟨(x103.length : Int) + 1, x108, (x110.length : Int) + 1, r90.1⟩ : T4 _ _ _ _)]) : (List (List (T4 Int Str Int Any)))), imA (.ref p115) ((⟨(x103.length : Int) + 1, x108, (x110.length : Int) + 1, r90.1⟩ : T4 _ _ _ _) : (T4 Int Str Int Any)), listE LedgerA p15 (s75.1.set j93 r99.2 : (List Ledger)), imA p100 (r99.1 : Any), imA p91 (r90.1 : Any), stA p2 (r90.2 : T3 Int Script Int), lstA p21 (([] : (List Str)) : (List Str)), lstA p44 (t72.2 : (List (T4 Int Str Int Any))), lstA p23 (cutL v_law_script.ns none (some (30)) : (List Int)), listE hdE p22 (s24.2.2.2 : (List Hd)), lstA p4 (r3.1 : (List Str)), imA (.ref ad_v_law_script) v_law_script, F] : List (Asn G)) := unfocusE (y := (x142 ++ [(⟨(x103.length : Int) + 1, x108, (x110.length : Int) + 1, r90.1⟩ : T4 _ _ _ _)] : (List (T4 Int Str Int Any)))) hl145 hp146 (hS.sel [0, 1, 2, 3, 4, 5, 6, 7, 8, 9, 10, 11, 12, 13] (by decide) rfl)
                refine sq_nx ?_
                refine f_seq ?_
                refine c_for ?_
                refine c_il ?_
                refine c_fz ?_
                refine c_lst ?_
                refine ea_to (ea_cons (ev_var rfl) (ea_cons (ev_sub ev_c (ev_var rfl)) ea_nil)) ?_
                refine k_lst (α := Int) (vs := [(.int (y36)), (.int (1 - y36))]) (xs := [y36, 1 - y36]) hS ⟨rfl, ⟨rfl, True.intro⟩⟩ (by show 2 ≤ sizeLine; decide) fun p148 H hS => ?_
                refine fz_no ?_
                refine k_il hS (i := 0) rfl ?_
                refine k_forF (τ := (T3 Int Script Int)) (fun (s149 : (T3 Int Script Int)) (σ : L2.St) (H : Hp) => ∃ (w152 : Option V), σ = [some (.ref ad_v_law_script), some (.ref p2), some (.ref p4), some (.ref p15), some (.ref p19), some (.ref p21), some (.ref p22), some (.int (x25)), some (.int (y36)), none, some (.int (y73)), some p91, some p100, some (.ref p115), w152, none] ∧ Sep H ([lstA p148 ([y36, 1 - y36] : (List Int)), listE lstA p19 (s24.2.2.1.set j141 (x142 ++ [(⟨(x103.length : Int) + 1, x108, (x110.length : Int) + 1, r90.1⟩ : T4 _ _ _ _)]) : (List (List (T4 Int Str Int Any)))), imA (.ref p115) ((⟨(x103.length : Int) + 1, x108, (x110.length : Int) + 1, r90.1⟩ : T4 _ _ _ _) : (T4 Int Str Int Any)), listE LedgerA p15 (s75.1.set j93 r99.2 : (List Ledger)), imA p100 (r99.1 : Any), imA p91 (r90.1 : Any), stA p2 (s149 : T3 Int Script Int), lstA p21 (([] : (List Str)) : (List Str)), lstA p44 (t72.2 : (List (T4 Int Str Int Any))), lstA p23 (cutL v_law_script.ns none (some (30)) : (List Int)), listE hdE p22 (s24.2.2.2 : (List Hd)), lstA p4 (r3.1 : (List Str)), imA (.ref ad_v_law_script) v_law_script, F] : List (Asn G))) (im := (Im.im G)) (s := (r90.2)) (fun _ => wk_list fun _ _ ⟨_, _, h⟩ => h.sq (i := 0) rfl) ⟨_, rfl, hS.sel [0, 1, 2, 3, 4, 5, 6, 7, 8, 9, 10, 11, 12, 13] (by decide) rfl⟩ hm (fun s149 x150 v151 σ H q N B hI hx hm nx bk ho153 => ?_) (fun s149 σ H hm hI => ?_)
                ·
                  obtain ⟨w152, rfl, hS⟩ := hI
                  cases hx
                  refine c_gN (σ' := [some (.ref ad_v_law_script), some (.ref p2), some (.ref p4), some (.ref p15), some (.ref p19), some (.ref p21), some (.ref p22), some (.int (x25)), some (.int (y36)), none, some (.int (y73)), some p91, some p100, some (.ref p115), some (.int (x150)), none]) rfl ?_
                  refine f_if ?_
                  refine f_not ?_
                  refine f_B ?_
                  refine c_call ?_
                  refine c_cons ?_
                  refine c_op ?_
                  refine ev_to (ev_fz (ev_var rfl)) ?_
                  refine ev_to (ev_var rfl) ?_
                  obtain ⟨j154, x155, hx155, hm⟩ := wp_ixJ hm
                  refine ixK (x := (x155 : Ledger)) (hS.sel [3, 0, 1, 2, 4, 5, 6, 7, 8, 9, 10, 11, 12, 13] (by decide) rfl : Sep H (listE LedgerA p15 (s75.1.set j93 r99.2 : (List Ledger)) :: [lstA p148 ([y36, 1 - y36] : (List Int)), listE lstA p19 (s24.2.2.1.set j141 (x142 ++ [(⟨(x103.length : Int) + 1, x108, (x110.length : Int) + 1, r90.1⟩ : T4 _ _ _ _)]) : (List (List (T4 Int Str Int Any)))), imA (.ref p115) ((⟨(x103.length : Int) + 1, x108, (x110.length : Int) + 1, r90.1⟩ : T4 _ _ _ _) : (T4 Int Str Int Any)), imA p100 (r99.1 : Any), imA p91 (r90.1 : Any), stA p2 (s149 : T3 Int Script Int), lstA p21 (([] : (List Str)) : (List Str)), lstA p44 (t72.2 : (List (T4 Int Str Int Any))), lstA p23 (cutL v_law_script.ns none (some (30)) : (List Int)), listE hdE p22 (s24.2.2.2 : (List Hd)), lstA p4 (r3.1 : (List Str)), imA (.ref ad_v_law_script) v_law_script, F] : List (Asn G))) hx155 fun ps156 p157 hl158 hp159 hS => ?_
                  have hS : Sep H ([LedgerA p157 x155, listH LedgerA p15 ps156 (s75.1.set j93 r99.2 : (List Ledger)) j154, lstA p148 ([y36, 1 - y36] : (List Int)), listE lstA p19 (s24.2.2.1.set j141 (x142 ++ [(⟨(x103.length : Int) + 1, x108, (x110.length : Int) + 1, r90.1⟩ : T4 _ _ _ _)]) : (List (List (T4 Int Str Int Any)))), imA (.ref p115) ((⟨(x103.length : Int) + 1, x108, (x110.length : Int) + 1, r90.1⟩ : T4 _ _ _ _) : (T4 Int Str Int Any)), imA p100 (r99.1 : Any), imA p91 (r90.1 : Any), stA p2 (s149 : T3 Int Script Int), lstA p21 (([] : (List Str)) : (List Str)), lstA p44 (t72.2 : (List (T4 Int Str Int Any))), lstA p23 (cutL v_law_script.ns none (some (30)) : (List Int)), listE hdE p22 (s24.2.2.2 : (List Hd)), lstA p4 (r3.1 : (List Str)), imA (.ref ad_v_law_script) v_law_script, F] : List (Asn G)) := hS
                  refine c_cons ?_
                  refine c_fz ?_
                  refine c_op ?_
                  refine ev_to (ev_fz (ev_var rfl)) ?_
                  refine ev_to (ev_var rfl) ?_
                  obtain ⟨j160, x161, hx161, hm⟩ := wp_ixJ hm
                  refine ixK (x := (x161 : (List (T4 Int Str Int Any)))) (hS.sel [3, 0, 1, 2, 4, 5, 6, 7, 8, 9, 10, 11, 12, 13, 14] (by decide) rfl : Sep H (listE lstA p19 (s24.2.2.1.set j141 (x142 ++ [(⟨(x103.length : Int) + 1, x108, (x110.length : Int) + 1, r90.1⟩ : T4 _ _ _ _)]) : (List (List (T4 Int Str Int Any)))) :: [LedgerA p157 x155, listH LedgerA p15 ps156 (s75.1.set j93 r99.2 : (List Ledger)) j154, lstA p148 ([y36, 1 - y36] : (List Int)), imA (.ref p115) ((⟨(x103.length : Int) + 1, x108, (x110.length : Int) + 1, r90.1⟩ : T4 _ _ _ _) : (T4 Int Str Int Any)), imA p100 (r99.1 : Any), imA p91 (r90.1 : Any), stA p2 (s149 : T3 Int Script Int), lstA p21 (([] : (List Str)) : (List Str)), lstA p44 (t72.2 : (List (T4 Int Str Int Any))), lstA p23 (cutL v_law_script.ns none (some (30)) : (List Int)), listE hdE p22 (s24.2.2.2 : (List Hd)), lstA p4 (r3.1 : (List Str)), imA (.ref ad_v_law_script) v_law_script, F] : List (Asn G))) hx161 fun ps162 p163 hl164 hp165 hS => ?_
                  have hS : Sep H ([lstA p163 (x161 : (List (T4 Int Str Int Any))), listH lstA p19 ps162 (s24.2.2.1.set j141 (x142 ++ [(⟨(x103.length : Int) + 1, x108, (x110.length : Int) + 1, r90.1⟩ : T4 _ _ _ _)]) : (List (List (T4 Int Str Int Any)))) j160, LedgerA p157 x155, listH LedgerA p15 ps156 (s75.1.set j93 r99.2 : (List Ledger)) j154, lstA p148 ([y36, 1 - y36] : (List Int)), imA (.ref p115) ((⟨(x103.length : Int) + 1, x108, (x110.length : Int) + 1, r90.1⟩ : T4 _ _ _ _) : (T4 Int Str Int Any)), imA p100 (r99.1 : Any), imA p91 (r90.1 : Any), stA p2 (s149 : T3 Int Script Int), lstA p21 (([] : (List Str)) : (List Str)), lstA p44 (t72.2 : (List (T4 Int Str Int Any))), lstA p23 (cutL v_law_script.ns none (some (30)) : (List Int)), listE hdE p22 (s24.2.2.2 : (List Hd)), lstA p4 (r3.1 : (List Str)), imA (.ref ad_v_law_script) v_law_script, F] : List (Asn G)) := hS
                  refine fz_no ?_
                  refine c_cons ?_
                  refine c_op ?_
                  refine c_call ?_
                  refine ea_to (ea_cons (ev_var rfl) ea_nil) ?_
                  refine ⟨p2, (s149 : (T3 Int Script Int)), star [lstA p163 (x161 : (List (T4 Int Str Int Any))), listH lstA p19 ps162 (s24.2.2.1.set j141 (x142 ++ [(⟨(x103.length : Int) + 1, x108, (x110.length : Int) + 1, r90.1⟩ : T4 _ _ _ _)]) : (List (List (T4 Int Str Int Any)))) j160, LedgerA p157 x155, listH LedgerA p15 ps156 (s75.1.set j93 r99.2 : (List Ledger)) j154, lstA p148 ([y36, 1 - y36] : (List Int)), imA (.ref p115) ((⟨(x103.length : Int) + 1, x108, (x110.length : Int) + 1, r90.1⟩ : T4 _ _ _ _) : (T4 Int Str Int Any)), imA p100 (r99.1 : Any), imA p91 (r90.1 : Any), lstA p21 (([] : (List Str)) : (List Str)), lstA p44 (t72.2 : (List (T4 Int Str Int Any))), lstA p23 (cutL v_law_script.ns none (some (30)) : (List Int)), listE hdE p22 (s24.2.2.2 : (List Hd)), lstA p4 (r3.1 : (List Str)), imA (.ref ad_v_law_script) v_law_script, F], rfl, Sep.unstar (M := [stA p2 (s149 : T3 Int Script Int)]) (hS.sel [8, 0, 1, 2, 3, 4, 5, 6, 7, 9, 10, 11, 12, 13, 14, 15] (by decide) rfl : Sep H (([stA p2 (s149 : T3 Int Script Int)] ++ [lstA p163 (x161 : (List (T4 Int Str Int Any))), listH lstA p19 ps162 (s24.2.2.1.set j141 (x142 ++ [(⟨(x103.length : Int) + 1, x108, (x110.length : Int) + 1, r90.1⟩ : T4 _ _ _ _)]) : (List (List (T4 Int Str Int Any)))) j160, LedgerA p157 x155, listH LedgerA p15 ps156 (s75.1.set j93 r99.2 : (List Ledger)) j154, lstA p148 ([y36, 1 - y36] : (List Int)), imA (.ref p115) ((⟨(x103.length : Int) + 1, x108, (x110.length : Int) + 1, r90.1⟩ : T4 _ _ _ _) : (T4 Int Str Int Any)), imA p100 (r99.1 : Any), imA p91 (r90.1 : Any), lstA p21 (([] : (List Str)) : (List Str)), lstA p44 (t72.2 : (List (T4 Int Str Int Any))), lstA p23 (cutL v_law_script.ns none (some (30)) : (List Int)), listE hdE p22 (s24.2.2.2 : (List Hd)), lstA p4 (r3.1 : (List Str)), imA (.ref ad_v_law_script) v_law_script, F] : List (Asn G)))), R.wp_mono (R.wp_bind hm) (fun r166 hm H hS => ?_) (fun _ z => z)⟩
                  have hS : Sep H ([stA p2 (r166.2 : T3 Int Script Int), lstA p163 (x161 : (List (T4 Int Str Int Any))), listH lstA p19 ps162 (s24.2.2.1.set j141 (x142 ++ [(⟨(x103.length : Int) + 1, x108, (x110.length : Int) + 1, r90.1⟩ : T4 _ _ _ _)]) : (List (List (T4 Int Str Int Any)))) j160, LedgerA p157 x155, listH LedgerA p15 ps156 (s75.1.set j93 r99.2 : (List Ledger)) j154, lstA p148 ([y36, 1 - y36] : (List Int)), imA (.ref p115) ((⟨(x103.length : Int) + 1, x108, (x110.length : Int) + 1, r90.1⟩ : T4 _ _ _ _) : (T4 Int Str Int Any)), imA p100 (r99.1 : Any), imA p91 (r90.1 : Any), lstA p21 (([] : (List Str)) : (List Str)), lstA p44 (t72.2 : (List (T4 Int Str Int Any))), lstA p23 (cutL v_law_script.ns none (some (30)) : (List Int)), listE hdE p22 (s24.2.2.2 : (List Hd)), lstA p4 (r3.1 : (List Str)), imA (.ref ad_v_law_script) v_law_script, F] : List (Asn G)) := Sep.star (M := [stA p2 (r166.2 : T3 Int Script Int)]) hS
                  refine ev_to ev_c ?_
                  refine r_mod (by decide) ?_
                  refine c_nil ?_
                  refine ⟨p157, (x155 : Ledger), p163, (x161 : (List (T4 Int Str Int Any))), (r166.1 % 2), star [stA p2 (r166.2 : T3 Int Script Int), listH lstA p19 ps162 (s24.2.2.1.set j141 (x142 ++ [(⟨(x103.length : Int) + 1, x108, (x110.length : Int) + 1, r90.1⟩ : T4 _ _ _ _)]) : (List (List (T4 Int Str Int Any)))) j160, listH LedgerA p15 ps156 (s75.1.set j93 r99.2 : (List Ledger)) j154, lstA p148 ([y36, 1 - y36] : (List Int)), imA (.ref p115) ((⟨(x103.length : Int) + 1, x108, (x110.length : Int) + 1, r90.1⟩ : T4 _ _ _ _) : (T4 Int Str Int Any)), imA p100 (r99.1 : Any), imA p91 (r90.1 : Any), lstA p21 (([] : (List Str)) : (List Str)), lstA p44 (t72.2 : (List (T4 Int Str Int Any))), lstA p23 (cutL v_law_script.ns none (some (30)) : (List Int)), listE hdE p22 (s24.2.2.2 : (List Hd)), lstA p4 (r3.1 : (List Str)), imA (.ref ad_v_law_script) v_law_script, F], rfl, Sep.unstar (M := [LedgerA p157 x155, lstA p163 (x161 : (List (T4 Int Str Int Any)))]) (hS.sel [3, 1, 0, 2, 4, 5, 6, 7, 8, 9, 10, 11, 12, 13, 14, 15] (by decide) rfl : Sep H (([LedgerA p157 x155, lstA p163 (x161 : (List (T4 Int Str Int Any)))] ++ [stA p2 (r166.2 : T3 Int Script Int), listH lstA p19 ps162 (s24.2.2.1.set j141 (x142 ++ [(⟨(x103.length : Int) + 1, x108, (x110.length : Int) + 1, r90.1⟩ : T4 _ _ _ _)]) : (List (List (T4 Int Str Int Any)))) j160, listH LedgerA p15 ps156 (s75.1.set j93 r99.2 : (List Ledger)) j154, lstA p148 ([y36, 1 - y36] : (List Int)), imA (.ref p115) ((⟨(x103.length : Int) + 1, x108, (x110.length : Int) + 1, r90.1⟩ : T4 _ _ _ _) : (T4 Int Str Int Any)), imA p100 (r99.1 : Any), imA p91 (r90.1 : Any), lstA p21 (([] : (List Str)) : (List Str)), lstA p44 (t72.2 : (List (T4 Int Str Int Any))), lstA p23 (cutL v_law_script.ns none (some (30)) : (List Int)), listE hdE p22 (s24.2.2.2 : (List Hd)), lstA p4 (r3.1 : (List Str)), imA (.ref ad_v_law_script) v_law_script, F] : List (Asn G)))), R.wp_mono (R.wp_bind hm) (fun r167 hm H hS => ?_) (fun _ z => z)⟩
                  have hS : Sep H ([LedgerA p157 x155, lstA p163 (x161 : (List (T4 Int Str Int Any))), stA p2 (r166.2 : T3 Int Script Int), listH lstA p19 ps162 (s24.2.2.1.set j141 (x142 ++ [(⟨(x103.length : Int) + 1, x108, (x110.length : Int) + 1, r90.1⟩ : T4 _ _ _ _)]) : (List (List (T4 Int Str Int Any)))) j160, listH LedgerA p15 ps156 (s75.1.set j93 r99.2 : (List Ledger)) j154, lstA p148 ([y36, 1 - y36] : (List Int)), imA (.ref p115) ((⟨(x103.length : Int) + 1, x108, (x110.length : Int) + 1, r90.1⟩ : T4 _ _ _ _) : (T4 Int Str Int Any)), imA p100 (r99.1 : Any), imA p91 (r90.1 : Any), lstA p21 (([] : (List Str)) : (List Str)), lstA p44 (t72.2 : (List (T4 Int Str Int Any))), lstA p23 (cutL v_law_script.ns none (some (30)) : (List Int)), listE hdE p22 (s24.2.2.2 : (List Hd)), lstA p4 (r3.1 : (List Str)), imA (.ref ad_v_law_script) v_law_script, F] : List (Asn G)) := Sep.star (M := [LedgerA p157 x155, lstA p163 (x161 : (List (T4 Int Str Int Any)))]) hS
                  refine f_bl ?_
                  refine f_nK ?_
                  have hS : Sep H ([listE lstA p19 (s24.2.2.1.set j141 (x142 ++ [(⟨(x103.length : Int) + 1, x108, (x110.length : Int) + 1, r90.1⟩ : T4 _ _ _ _)]) : (List (List (T4 Int Str Int Any)))), LedgerA p157 x155, stA p2 (r166.2 : T3 Int Script Int), listH LedgerA p15 ps156 (s75.1.set j93 r99.2 : (List Ledger)) j154, lstA p148 ([y36, 1 - y36] : (List Int)), imA (.ref p115) ((⟨(x103.length : Int) + 1, x108, (x110.length : Int) + 1, r90.1⟩ : T4 _ _ _ _) : (T4 Int Str Int Any)), imA p100 (r99.1 : Any), imA p91 (r90.1 : Any), lstA p21 (([] : (List Str)) : (List Str)), lstA p44 (t72.2 : (List (T4 Int Str Int Any))), lstA p23 (cutL v_law_script.ns none (some (30)) : (List Int)), listE hdE p22 (s24.2.2.2 : (List Hd)), lstA p4 (r3.1 : (List Str)), imA (.ref ad_v_law_script) v_law_script, F] : List (Asn G)) := unfocus0 hl164 hp165 hx161.2 (hS.sel [1, 3, 0, 2, 4, 5, 6, 7, 8, 9, 10, 11, 12, 13, 14, 15] (by decide) rfl)
                  have hS : Sep H ([listE LedgerA p15 (s75.1.set j93 r99.2 : (List Ledger)), listE lstA p19 (s24.2.2.1.set j141 (x142 ++ [(⟨(x103.length : Int) + 1, x108, (x110.length : Int) + 1, r90.1⟩ : T4 _ _ _ _)]) : (List (List (T4 Int Str Int Any)))), stA p2 (r166.2 : T3 Int Script Int), lstA p148 ([y36, 1 - y36] : (List Int)), imA (.ref p115) ((⟨(x103.length : Int) + 1, x108, (x110.length : Int) + 1, r90.1⟩ : T4 _ _ _ _) : (T4 Int Str Int Any)), imA p100 (r99.1 : Any), imA p91 (r90.1 : Any), lstA p21 (([] : (List Str)) : (List Str)), lstA p44 (t72.2 : (List (T4 Int Str Int Any))), lstA p23 (cutL v_law_script.ns none (some (30)) : (List Int)), listE hdE p22 (s24.2.2.2 : (List Hd)), lstA p4 (r3.1 : (List Str)), imA (.ref ad_v_law_script) v_law_script, F] : List (Asn G)) := unfocus0 hl158 hp159 hx155.2 (hS.sel [1, 3, 0, 2, 4, 5, 6, 7, 8, 9, 10, 11, 12, 13, 14] (by decide) rfl)
                  refine ifK_2 (fun hb168 => ?_) (fun hb168 => ?_)
                  · have hm := R.wp_ifY hm hb168
                    refine c_ret ?_
                    refine ev_to ev_c ?_
                    exact (ho34 _ (ho153 _ hm)) _ (hS.sel [13] (by decide) rfl)
                  · have hm := R.wp_ifN hm (by first | (rw [hb168]; decide) | simpa using hb168)
                    refine st_nx ?_
                    exact nx _ _ _ hm ⟨_, rfl, hS.sel [3, 1, 4, 0, 5, 6, 2, 7, 8, 9, 10, 11, 12, 13] (by decide) rfl⟩
                · obtain ⟨w152, rfl, hS⟩ := hI
                  refine sq_nx ?_
                  refine f_seq ?_
                  refine c_drop ?_
                  refine c_bm ?_
                  refine ev_to (ev_fz (ev_var rfl)) ⟨tyE hS (i := 10) rfl, ?_⟩
                  refine c_cons ?_
                  refine c_tup ?_
                  refine c_cons ?_
                  refine c_fz ?_
                  refine c_meth ?_
                  refine c_op ?_
                  refine ev_to (ev_fz (ev_var rfl)) ?_
                  refine ev_to (ev_var rfl) ?_
                  obtain ⟨j169, x170, hx170, hm⟩ := wp_ixJ hm
                  refine ixK (x := (x170 : Ledger)) (hS.sel [3, 0, 1, 2, 4, 5, 6, 7, 8, 9, 10, 11, 12, 13] (by decide) rfl : Sep H (listE LedgerA p15 (s75.1.set j93 r99.2 : (List Ledger)) :: [lstA p148 ([y36, 1 - y36] : (List Int)), listE lstA p19 (s24.2.2.1.set j141 (x142 ++ [(⟨(x103.length : Int) + 1, x108, (x110.length : Int) + 1, r90.1⟩ : T4 _ _ _ _)]) : (List (List (T4 Int Str Int Any)))), imA (.ref p115) ((⟨(x103.length : Int) + 1, x108, (x110.length : Int) + 1, r90.1⟩ : T4 _ _ _ _) : (T4 Int Str Int Any)), imA p100 (r99.1 : Any), imA p91 (r90.1 : Any), stA p2 (s149 : T3 Int Script Int), lstA p21 (([] : (List Str)) : (List Str)), lstA p44 (t72.2 : (List (T4 Int Str Int Any))), lstA p23 (cutL v_law_script.ns none (some (30)) : (List Int)), listE hdE p22 (s24.2.2.2 : (List Hd)), lstA p4 (r3.1 : (List Str)), imA (.ref ad_v_law_script) v_law_script, F] : List (Asn G))) hx170 fun ps171 p172 hl173 hp174 hS => ?_
                  have hS : Sep H ([LedgerA p172 x170, listH LedgerA p15 ps171 (s75.1.set j93 r99.2 : (List Ledger)) j169, lstA p148 ([y36, 1 - y36] : (List Int)), listE lstA p19 (s24.2.2.1.set j141 (x142 ++ [(⟨(x103.length : Int) + 1, x108, (x110.length : Int) + 1, r90.1⟩ : T4 _ _ _ _)]) : (List (List (T4 Int Str Int Any)))), imA (.ref p115) ((⟨(x103.length : Int) + 1, x108, (x110.length : Int) + 1, r90.1⟩ : T4 _ _ _ _) : (T4 Int Str Int Any)), imA p100 (r99.1 : Any), imA p91 (r90.1 : Any), stA p2 (s149 : T3 Int Script Int), lstA p21 (([] : (List Str)) : (List Str)), lstA p44 (t72.2 : (List (T4 Int Str Int Any))), lstA p23 (cutL v_law_script.ns none (some (30)) : (List Int)), listE hdE p22 (s24.2.2.2 : (List Hd)), lstA p4 (r3.1 : (List Str)), imA (.ref ad_v_law_script) v_law_script, F] : List (Asn G)) := hS
                  obtain ⟨d175, _, hO176⟩ := ins_Ledger hS (i := 0) rfl
                  refine ⟨_, _, _, rfl, hO176, rfl, ?_⟩
                  refine ea_to ea_nil ?_
                  refine ⟨p172, (x170 : Ledger), .non, (Any.non : Any), star [listH LedgerA p15 ps171 (s75.1.set j93 r99.2 : (List Ledger)) j169, lstA p148 ([y36, 1 - y36] : (List Int)), listE lstA p19 (s24.2.2.1.set j141 (x142 ++ [(⟨(x103.length : Int) + 1, x108, (x110.length : Int) + 1, r90.1⟩ : T4 _ _ _ _)]) : (List (List (T4 Int Str Int Any)))), imA (.ref p115) ((⟨(x103.length : Int) + 1, x108, (x110.length : Int) + 1, r90.1⟩ : T4 _ _ _ _) : (T4 Int Str Int Any)), imA p100 (r99.1 : Any), imA p91 (r90.1 : Any), stA p2 (s149 : T3 Int Script Int), lstA p21 (([] : (List Str)) : (List Str)), lstA p44 (t72.2 : (List (T4 Int Str Int Any))), lstA p23 (cutL v_law_script.ns none (some (30)) : (List Int)), listE hdE p22 (s24.2.2.2 : (List Hd)), lstA p4 (r3.1 : (List Str)), imA (.ref ad_v_law_script) v_law_script, F], rfl, (any_non.mpr rfl), Sep.unstar (M := [LedgerA p172 x170]) (hS.sel [0, 1, 2, 3, 4, 5, 6, 7, 8, 9, 10, 11, 12, 13, 14] (by decide) rfl : Sep H (([LedgerA p172 x170] ++ [listH LedgerA p15 ps171 (s75.1.set j93 r99.2 : (List Ledger)) j169, lstA p148 ([y36, 1 - y36] : (List Int)), listE lstA p19 (s24.2.2.1.set j141 (x142 ++ [(⟨(x103.length : Int) + 1, x108, (x110.length : Int) + 1, r90.1⟩ : T4 _ _ _ _)]) : (List (List (T4 Int Str Int Any)))), imA (.ref p115) ((⟨(x103.length : Int) + 1, x108, (x110.length : Int) + 1, r90.1⟩ : T4 _ _ _ _) : (T4 Int Str Int Any)), imA p100 (r99.1 : Any), imA p91 (r90.1 : Any), stA p2 (s149 : T3 Int Script Int), lstA p21 (([] : (List Str)) : (List Str)), lstA p44 (t72.2 : (List (T4 Int Str Int Any))), lstA p23 (cutL v_law_script.ns none (some (30)) : (List Int)), listE hdE p22 (s24.2.2.2 : (List Hd)), lstA p4 (r3.1 : (List Str)), imA (.ref ad_v_law_script) v_law_script, F] : List (Asn G)))), R.wp_mono (R.wp_bind hm) (fun r177 hm p178 H hS => ?_) (fun _ z => z)⟩
                  have hS : Sep H ([lstA p178 (r177 : (List (T4 Int Str Int Any))), LedgerA p172 x170, listH LedgerA p15 ps171 (s75.1.set j93 r99.2 : (List Ledger)) j169, lstA p148 ([y36, 1 - y36] : (List Int)), listE lstA p19 (s24.2.2.1.set j141 (x142 ++ [(⟨(x103.length : Int) + 1, x108, (x110.length : Int) + 1, r90.1⟩ : T4 _ _ _ _)]) : (List (List (T4 Int Str Int Any)))), imA (.ref p115) ((⟨(x103.length : Int) + 1, x108, (x110.length : Int) + 1, r90.1⟩ : T4 _ _ _ _) : (T4 Int Str Int Any)), imA p100 (r99.1 : Any), imA p91 (r90.1 : Any), stA p2 (s149 : T3 Int Script Int), lstA p21 (([] : (List Str)) : (List Str)), lstA p44 (t72.2 : (List (T4 Int Str Int Any))), lstA p23 (cutL v_law_script.ns none (some (30)) : (List Int)), listE hdE p22 (s24.2.2.2 : (List Hd)), lstA p4 (r3.1 : (List Str)), imA (.ref ad_v_law_script) v_law_script, F] : List (Asn G)) := Sep.star (M := [lstA p178 (r177 : (List (T4 Int Str Int Any))), LedgerA p172 x170]) hS
                  refine fz_no ?_
                  refine c_cons ?_
                  refine c_fz ?_
                  refine c_cb ?_
                  refine c_cons ?_
                  refine c_fz ?_
                  refine c_op ?_
                  refine ev_to (ev_fz (ev_var rfl)) ?_
                  refine ev_to (ev_var rfl) ?_
                  obtain ⟨j179, x180, hx180, hm⟩ := wp_ixJ hm
                  refine ixK (x := (x180 : (List (T4 Int Str Int Any)))) (hS.sel [4, 0, 1, 2, 3, 5, 6, 7, 8, 9, 10, 11, 12, 13, 14, 15] (by decide) rfl : Sep H (listE lstA p19 (s24.2.2.1.set j141 (x142 ++ [(⟨(x103.length : Int) + 1, x108, (x110.length : Int) + 1, r90.1⟩ : T4 _ _ _ _)]) : (List (List (T4 Int Str Int Any)))) :: [lstA p178 (r177 : (List (T4 Int Str Int Any))), LedgerA p172 x170, listH LedgerA p15 ps171 (s75.1.set j93 r99.2 : (List Ledger)) j169, lstA p148 ([y36, 1 - y36] : (List Int)), imA (.ref p115) ((⟨(x103.length : Int) + 1, x108, (x110.length : Int) + 1, r90.1⟩ : T4 _ _ _ _) : (T4 Int Str Int Any)), imA p100 (r99.1 : Any), imA p91 (r90.1 : Any), stA p2 (s149 : T3 Int Script Int), lstA p21 (([] : (List Str)) : (List Str)), lstA p44 (t72.2 : (List (T4 Int Str Int Any))), lstA p23 (cutL v_law_script.ns none (some (30)) : (List Int)), listE hdE p22 (s24.2.2.2 : (List Hd)), lstA p4 (r3.1 : (List Str)), imA (.ref ad_v_law_script) v_law_script, F] : List (Asn G))) hx180 fun ps181 p182 hl183 hp184 hS => ?_
                  have hS : Sep H ([lstA p182 (x180 : (List (T4 Int Str Int Any))), listH lstA p19 ps181 (s24.2.2.1.set j141 (x142 ++ [(⟨(x103.length : Int) + 1, x108, (x110.length : Int) + 1, r90.1⟩ : T4 _ _ _ _)]) : (List (List (T4 Int Str Int Any)))) j179, lstA p178 (r177 : (List (T4 Int Str Int Any))), LedgerA p172 x170, listH LedgerA p15 ps171 (s75.1.set j93 r99.2 : (List Ledger)) j169, lstA p148 ([y36, 1 - y36] : (List Int)), imA (.ref p115) ((⟨(x103.length : Int) + 1, x108, (x110.length : Int) + 1, r90.1⟩ : T4 _ _ _ _) : (T4 Int Str Int Any)), imA p100 (r99.1 : Any), imA p91 (r90.1 : Any), stA p2 (s149 : T3 Int Script Int), lstA p21 (([] : (List Str)) : (List Str)), lstA p44 (t72.2 : (List (T4 Int Str Int Any))), lstA p23 (cutL v_law_script.ns none (some (30)) : (List Int)), listE hdE p22 (s24.2.2.2 : (List Hd)), lstA p4 (r3.1 : (List Str)), imA (.ref ad_v_law_script) v_law_script, F] : List (Asn G)) := hS
                  refine fz_no ?_
                  refine c_nil ?_
                  refine k_listG hS (hS.sq (i := 0) rfl) fun p185 H hS => ?_
                  refine fz_no ?_
                  refine c_nil ?_
                  refine k_tupV (vs := [(.ref p178), (.ref p185)]) hS (by show 2 ≤ sizeLine; decide) fun p186 H hS => ?_
                  have hS : Sep H ([hdE p186 (Hd.ls r177 x180), lstA p182 (x180 : (List (T4 Int Str Int Any))), listH lstA p19 ps181 (s24.2.2.1.set j141 (x142 ++ [(⟨(x103.length : Int) + 1, x108, (x110.length : Int) + 1, r90.1⟩ : T4 _ _ _ _)]) : (List (List (T4 Int Str Int Any)))) j179, LedgerA p172 x170, listH LedgerA p15 ps171 (s75.1.set j93 r99.2 : (List Ledger)) j169, lstA p148 ([y36, 1 - y36] : (List Int)), imA (.ref p115) ((⟨(x103.length : Int) + 1, x108, (x110.length : Int) + 1, r90.1⟩ : T4 _ _ _ _) : (T4 Int Str Int Any)), imA p100 (r99.1 : Any), imA p91 (r90.1 : Any), stA p2 (s149 : T3 Int Script Int), lstA p21 (([] : (List Str)) : (List Str)), lstA p44 (t72.2 : (List (T4 Int Str Int Any))), lstA p23 (cutL v_law_script.ns none (some (30)) : (List Int)), listE hdE p22 (s24.2.2.2 : (List Hd)), lstA p4 (r3.1 : (List Str)), imA (.ref ad_v_law_script) v_law_script, F] : List (Asn G)) := hd_ls (hS.sel [0, 4, 1, 2, 3, 5, 6, 7, 8, 9, 10, 11, 12, 13, 14, 15, 16, 17, 18] (by decide) rfl)
                  refine c_nil ?_
                  obtain ⟨h187, hm⟩ := R.wp_need hm
                  refine k_appendE (hS.sel [0, 13, 1, 2, 3, 4, 5, 6, 7, 8, 9, 10, 11, 12, 14, 15, 16] (by decide) rfl : Sep H (hdE p186 (Hd.ls r177 x180) :: listE hdE p22 (s24.2.2.2 : (List Hd)) :: [lstA p182 (x180 : (List (T4 Int Str Int Any))), listH lstA p19 ps181 (s24.2.2.1.set j141 (x142 ++ [(⟨(x103.length : Int) + 1, x108, (x110.length : Int) + 1, r90.1⟩ : T4 _ _ _ _)]) : (List (List (T4 Int Str Int Any)))) j179, LedgerA p172 x170, listH LedgerA p15 ps171 (s75.1.set j93 r99.2 : (List Ledger)) j169, lstA p148 ([y36, 1 - y36] : (List Int)), imA (.ref p115) ((⟨(x103.length : Int) + 1, x108, (x110.length : Int) + 1, r90.1⟩ : T4 _ _ _ _) : (T4 Int Str Int Any)), imA p100 (r99.1 : Any), imA p91 (r90.1 : Any), stA p2 (s149 : T3 Int Script Int), lstA p21 (([] : (List Str)) : (List Str)), lstA p44 (t72.2 : (List (T4 Int Str Int Any))), lstA p23 (cutL v_law_script.ns none (some (30)) : (List Int)), lstA p4 (r3.1 : (List Str)), imA (.ref ad_v_law_script) v_law_script, F] : List (Asn G))) h187 fun H hS => ?_
                  have hS : Sep H ([listE hdE p22 (s24.2.2.2 ++ [(Hd.ls r177 x180)] : (List Hd)), lstA p182 (x180 : (List (T4 Int Str Int Any))), listH lstA p19 ps181 (s24.2.2.1.set j141 (x142 ++ [(⟨(x103.length : Int) + 1, x108, (x110.length : Int) + 1, r90.1⟩ : T4 _ _ _ _)]) : (List (List (T4 Int Str Int Any)))) j179, LedgerA p172 x170, listH LedgerA p15 ps171 (s75.1.set j93 r99.2 : (List Ledger)) j169, lstA p148 ([y36, 1 - y36] : (List Int)), imA (.ref p115) ((⟨(x103.length : Int) + 1, x108, (x110.length : Int) + 1, r90.1⟩ : T4 _ _ _ _) : (T4 Int Str Int Any)), imA p100 (r99.1 : Any), imA p91 (r90.1 : Any), stA p2 (s149 : T3 Int Script Int), lstA p21 (([] : (List Str)) : (List Str)), lstA p44 (t72.2 : (List (T4 Int Str Int Any))), lstA p23 (cutL v_law_script.ns none (some (30)) : (List Int)), lstA p4 (r3.1 : (List Str)), imA (.ref ad_v_law_script) v_law_script, F] : List (Asn G)) := hS
                  have hS : Sep H ([listE lstA p19 (s24.2.2.1.set j141 (x142 ++ [(⟨(x103.length : Int) + 1, x108, (x110.length : Int) + 1, r90.1⟩ : T4 _ _ _ _)]) : (List (List (T4 Int Str Int Any)))), listE hdE p22 (s24.2.2.2 ++ [(Hd.ls r177 x180)] : (List Hd)), LedgerA p172 x170, listH LedgerA p15 ps171 (s75.1.set j93 r99.2 : (List Ledger)) j169, lstA p148 ([y36, 1 - y36] : (List Int)), imA (.ref p115) ((⟨(x103.length : Int) + 1, x108, (x110.length : Int) + 1, r90.1⟩ : T4 _ _ _ _) : (T4 Int Str Int Any)), imA p100 (r99.1 : Any), imA p91 (r90.1 : Any), stA p2 (s149 : T3 Int Script Int), lstA p21 (([] : (List Str)) : (List Str)), lstA p44 (t72.2 : (List (T4 Int Str Int Any))), lstA p23 (cutL v_law_script.ns none (some (30)) : (List Int)), lstA p4 (r3.1 : (List Str)), imA (.ref ad_v_law_script) v_law_script, F] : List (Asn G)) := unfocus0 hl183 hp184 hx180.2 (hS.sel [1, 2, 0, 3, 4, 5, 6, 7, 8, 9, 10, 11, 12, 13, 14, 15] (by decide) rfl)
                  have hS : Sep H ([listE LedgerA p15 (s75.1.set j93 r99.2 : (List Ledger)), listE lstA p19 (s24.2.2.1.set j141 (x142 ++ [(⟨(x103.length : Int) + 1, x108, (x110.length : Int) + 1, r90.1⟩ : T4 _ _ _ _)]) : (List (List (T4 Int Str Int Any)))), listE hdE p22 (s24.2.2.2 ++ [(Hd.ls r177 x180)] : (List Hd)), lstA p148 ([y36, 1 - y36] : (List Int)), imA (.ref p115) ((⟨(x103.length : Int) + 1, x108, (x110.length : Int) + 1, r90.1⟩ : T4 _ _ _ _) : (T4 Int Str Int Any)), imA p100 (r99.1 : Any), imA p91 (r90.1 : Any), stA p2 (s149 : T3 Int Script Int), lstA p21 (([] : (List Str)) : (List Str)), lstA p44 (t72.2 : (List (T4 Int Str Int Any))), lstA p23 (cutL v_law_script.ns none (some (30)) : (List Int)), lstA p4 (r3.1 : (List Str)), imA (.ref ad_v_law_script) v_law_script, F] : List (Asn G)) := unfocus0 hl173 hp174 hx170.2 (hS.sel [2, 3, 0, 1, 4, 5, 6, 7, 8, 9, 10, 11, 12, 13, 14] (by decide) rfl)
                  refine sq_nx ?_
                  refine c_drop ?_
                  refine c_bm ?_
                  refine ev_to (ev_fz (ev_var rfl)) ⟨tyE hS (i := 2) rfl, ?_⟩
                  refine c_cons ?_
                  refine c_tup ?_
                  refine c_cons ?_
                  refine c_meth ?_
                  refine c_op ?_
                  refine ev_to (ev_fz (ev_var rfl)) ?_
                  refine ev_to (ev_var rfl) ?_
                  obtain ⟨j188, x189, hx189, hm⟩ := wp_ixJ hm
                  refine ixK (x := (x189 : Ledger)) (hS.sel [0, 1, 2, 3, 4, 5, 6, 7, 8, 9, 10, 11, 12, 13] (by decide) rfl : Sep H (listE LedgerA p15 (s75.1.set j93 r99.2 : (List Ledger)) :: [listE lstA p19 (s24.2.2.1.set j141 (x142 ++ [(⟨(x103.length : Int) + 1, x108, (x110.length : Int) + 1, r90.1⟩ : T4 _ _ _ _)]) : (List (List (T4 Int Str Int Any)))), listE hdE p22 (s24.2.2.2 ++ [(Hd.ls r177 x180)] : (List Hd)), lstA p148 ([y36, 1 - y36] : (List Int)), imA (.ref p115) ((⟨(x103.length : Int) + 1, x108, (x110.length : Int) + 1, r90.1⟩ : T4 _ _ _ _) : (T4 Int Str Int Any)), imA p100 (r99.1 : Any), imA p91 (r90.1 : Any), stA p2 (s149 : T3 Int Script Int), lstA p21 (([] : (List Str)) : (List Str)), lstA p44 (t72.2 : (List (T4 Int Str Int Any))), lstA p23 (cutL v_law_script.ns none (some (30)) : (List Int)), lstA p4 (r3.1 : (List Str)), imA (.ref ad_v_law_script) v_law_script, F] : List (Asn G))) hx189 fun ps190 p191 hl192 hp193 hS => ?_
                  have hS : Sep H ([LedgerA p191 x189, listH LedgerA p15 ps190 (s75.1.set j93 r99.2 : (List Ledger)) j188, listE lstA p19 (s24.2.2.1.set j141 (x142 ++ [(⟨(x103.length : Int) + 1, x108, (x110.length : Int) + 1, r90.1⟩ : T4 _ _ _ _)]) : (List (List (T4 Int Str Int Any)))), listE hdE p22 (s24.2.2.2 ++ [(Hd.ls r177 x180)] : (List Hd)), lstA p148 ([y36, 1 - y36] : (List Int)), imA (.ref p115) ((⟨(x103.length : Int) + 1, x108, (x110.length : Int) + 1, r90.1⟩ : T4 _ _ _ _) : (T4 Int Str Int Any)), imA p100 (r99.1 : Any), imA p91 (r90.1 : Any), stA p2 (s149 : T3 Int Script Int), lstA p21 (([] : (List Str)) : (List Str)), lstA p44 (t72.2 : (List (T4 Int Str Int Any))), lstA p23 (cutL v_law_script.ns none (some (30)) : (List Int)), lstA p4 (r3.1 : (List Str)), imA (.ref ad_v_law_script) v_law_script, F] : List (Asn G)) := hS
                  obtain ⟨d194, _, hO195⟩ := ins_Ledger hS (i := 0) rfl
                  refine ⟨_, _, _, rfl, hO195, rfl, ?_⟩
                  refine ea_to ea_nil ?_
                  refine ⟨p191, (x189 : Ledger), star [listH LedgerA p15 ps190 (s75.1.set j93 r99.2 : (List Ledger)) j188, listE lstA p19 (s24.2.2.1.set j141 (x142 ++ [(⟨(x103.length : Int) + 1, x108, (x110.length : Int) + 1, r90.1⟩ : T4 _ _ _ _)]) : (List (List (T4 Int Str Int Any)))), listE hdE p22 (s24.2.2.2 ++ [(Hd.ls r177 x180)] : (List Hd)), lstA p148 ([y36, 1 - y36] : (List Int)), imA (.ref p115) ((⟨(x103.length : Int) + 1, x108, (x110.length : Int) + 1, r90.1⟩ : T4 _ _ _ _) : (T4 Int Str Int Any)), imA p100 (r99.1 : Any), imA p91 (r90.1 : Any), stA p2 (s149 : T3 Int Script Int), lstA p21 (([] : (List Str)) : (List Str)), lstA p44 (t72.2 : (List (T4 Int Str Int Any))), lstA p23 (cutL v_law_script.ns none (some (30)) : (List Int)), lstA p4 (r3.1 : (List Str)), imA (.ref ad_v_law_script) v_law_script, F], rfl, Sep.unstar (M := [LedgerA p191 x189]) (hS.sel [0, 1, 2, 3, 4, 5, 6, 7, 8, 9, 10, 11, 12, 13, 14] (by decide) rfl : Sep H (([LedgerA p191 x189] ++ [listH LedgerA p15 ps190 (s75.1.set j93 r99.2 : (List Ledger)) j188, listE lstA p19 (s24.2.2.1.set j141 (x142 ++ [(⟨(x103.length : Int) + 1, x108, (x110.length : Int) + 1, r90.1⟩ : T4 _ _ _ _)]) : (List (List (T4 Int Str Int Any)))), listE hdE p22 (s24.2.2.2 ++ [(Hd.ls r177 x180)] : (List Hd)), lstA p148 ([y36, 1 - y36] : (List Int)), imA (.ref p115) ((⟨(x103.length : Int) + 1, x108, (x110.length : Int) + 1, r90.1⟩ : T4 _ _ _ _) : (T4 Int Str Int Any)), imA p100 (r99.1 : Any), imA p91 (r90.1 : Any), stA p2 (s149 : T3 Int Script Int), lstA p21 (([] : (List Str)) : (List Str)), lstA p44 (t72.2 : (List (T4 Int Str Int Any))), lstA p23 (cutL v_law_script.ns none (some (30)) : (List Int)), lstA p4 (r3.1 : (List Str)), imA (.ref ad_v_law_script) v_law_script, F] : List (Asn G)))), R.wp_mono (R.wp_bind hm) (fun r196 hm p197 H hS => ?_) (fun _ z => z)⟩
                  have hS : Sep H ([dictA p197 (r196 : (List (Str × Int))), LedgerA p191 x189, listH LedgerA p15 ps190 (s75.1.set j93 r99.2 : (List Ledger)) j188, listE lstA p19 (s24.2.2.1.set j141 (x142 ++ [(⟨(x103.length : Int) + 1, x108, (x110.length : Int) + 1, r90.1⟩ : T4 _ _ _ _)]) : (List (List (T4 Int Str Int Any)))), listE hdE p22 (s24.2.2.2 ++ [(Hd.ls r177 x180)] : (List Hd)), lstA p148 ([y36, 1 - y36] : (List Int)), imA (.ref p115) ((⟨(x103.length : Int) + 1, x108, (x110.length : Int) + 1, r90.1⟩ : T4 _ _ _ _) : (T4 Int Str Int Any)), imA p100 (r99.1 : Any), imA p91 (r90.1 : Any), stA p2 (s149 : T3 Int Script Int), lstA p21 (([] : (List Str)) : (List Str)), lstA p44 (t72.2 : (List (T4 Int Str Int Any))), lstA p23 (cutL v_law_script.ns none (some (30)) : (List Int)), lstA p4 (r3.1 : (List Str)), imA (.ref ad_v_law_script) v_law_script, F] : List (Asn G)) := Sep.star (M := [dictA p197 (r196 : (List (Str × Int))), LedgerA p191 x189]) hS
                  refine c_cons ?_
                  refine c_disp ?_
                  refine k_disp (κ := Str) (β := Int) hS fun p198 H hS => ?_
                  have hS : Sep H ([dictA p198 (([] : (List (Str × Int))) : (List (Str × Int))), dictA p197 (r196 : (List (Str × Int))), LedgerA p191 x189, listH LedgerA p15 ps190 (s75.1.set j93 r99.2 : (List Ledger)) j188, listE lstA p19 (s24.2.2.1.set j141 (x142 ++ [(⟨(x103.length : Int) + 1, x108, (x110.length : Int) + 1, r90.1⟩ : T4 _ _ _ _)]) : (List (List (T4 Int Str Int Any)))), listE hdE p22 (s24.2.2.2 ++ [(Hd.ls r177 x180)] : (List Hd)), lstA p148 ([y36, 1 - y36] : (List Int)), imA (.ref p115) ((⟨(x103.length : Int) + 1, x108, (x110.length : Int) + 1, r90.1⟩ : T4 _ _ _ _) : (T4 Int Str Int Any)), imA p100 (r99.1 : Any), imA p91 (r90.1 : Any), stA p2 (s149 : T3 Int Script Int), lstA p21 (([] : (List Str)) : (List Str)), lstA p44 (t72.2 : (List (T4 Int Str Int Any))), lstA p23 (cutL v_law_script.ns none (some (30)) : (List Int)), lstA p4 (r3.1 : (List Str)), imA (.ref ad_v_law_script) v_law_script, F] : List (Asn G)) := hS
                  refine pr_cons ?_
                  obtain ⟨x199, hx199, hm⟩ := wp_idx hm
                  refine ev_to (ev_ixSq (ev_fz (ev_var rfl)) (ev_var rfl) (hS.sqF (i := 14) rfl) (atI_map hx199)) ?_
                  refine pr_1 ?_
                  refine c_cb ?_
                  refine c_cons ?_
                  refine c_fz ?_
                  refine c_op ?_
                  refine ev_to (ev_fz (ev_var rfl)) ?_
                  refine ev_to (ev_var rfl) ?_
                  obtain ⟨j200, x201, hx201, hm⟩ := wp_ixJ hm
                  refine ixK (x := (x201 : (List (T4 Int Str Int Any)))) (hS.sel [4, 0, 1, 2, 3, 5, 6, 7, 8, 9, 10, 11, 12, 13, 14, 15, 16] (by decide) rfl : Sep H (listE lstA p19 (s24.2.2.1.set j141 (x142 ++ [(⟨(x103.length : Int) + 1, x108, (x110.length : Int) + 1, r90.1⟩ : T4 _ _ _ _)]) : (List (List (T4 Int Str Int Any)))) :: [dictA p198 (([] : (List (Str × Int))) : (List (Str × Int))), dictA p197 (r196 : (List (Str × Int))), LedgerA p191 x189, listH LedgerA p15 ps190 (s75.1.set j93 r99.2 : (List Ledger)) j188, listE hdE p22 (s24.2.2.2 ++ [(Hd.ls r177 x180)] : (List Hd)), lstA p148 ([y36, 1 - y36] : (List Int)), imA (.ref p115) ((⟨(x103.length : Int) + 1, x108, (x110.length : Int) + 1, r90.1⟩ : T4 _ _ _ _) : (T4 Int Str Int Any)), imA p100 (r99.1 : Any), imA p91 (r90.1 : Any), stA p2 (s149 : T3 Int Script Int), lstA p21 (([] : (List Str)) : (List Str)), lstA p44 (t72.2 : (List (T4 Int Str Int Any))), lstA p23 (cutL v_law_script.ns none (some (30)) : (List Int)), lstA p4 (r3.1 : (List Str)), imA (.ref ad_v_law_script) v_law_script, F] : List (Asn G))) hx201 fun ps202 p203 hl204 hp205 hS => ?_
                  have hS : Sep H ([lstA p203 (x201 : (List (T4 Int Str Int Any))), listH lstA p19 ps202 (s24.2.2.1.set j141 (x142 ++ [(⟨(x103.length : Int) + 1, x108, (x110.length : Int) + 1, r90.1⟩ : T4 _ _ _ _)]) : (List (List (T4 Int Str Int Any)))) j200, dictA p198 (([] : (List (Str × Int))) : (List (Str × Int))), dictA p197 (r196 : (List (Str × Int))), LedgerA p191 x189, listH LedgerA p15 ps190 (s75.1.set j93 r99.2 : (List Ledger)) j188, listE hdE p22 (s24.2.2.2 ++ [(Hd.ls r177 x180)] : (List Hd)), lstA p148 ([y36, 1 - y36] : (List Int)), imA (.ref p115) ((⟨(x103.length : Int) + 1, x108, (x110.length : Int) + 1, r90.1⟩ : T4 _ _ _ _) : (T4 Int Str Int Any)), imA p100 (r99.1 : Any), imA p91 (r90.1 : Any), stA p2 (s149 : T3 Int Script Int), lstA p21 (([] : (List Str)) : (List Str)), lstA p44 (t72.2 : (List (T4 Int Str Int Any))), lstA p23 (cutL v_law_script.ns none (some (30)) : (List Int)), lstA p4 (r3.1 : (List Str)), imA (.ref ad_v_law_script) v_law_script, F] : List (Asn G)) := hS
                  refine fz_no ?_
                  refine c_nil ?_
                  refine k_lenG (hS.sq (i := 0) rfl) ?_
                  have hS : Sep H ([listE lstA p19 (s24.2.2.1.set j141 (x142 ++ [(⟨(x103.length : Int) + 1, x108, (x110.length : Int) + 1, r90.1⟩ : T4 _ _ _ _)]) : (List (List (T4 Int Str Int Any)))), dictA p198 (([] : (List (Str × Int))) : (List (Str × Int))), dictA p197 (r196 : (List (Str × Int))), LedgerA p191 x189, listH LedgerA p15 ps190 (s75.1.set j93 r99.2 : (List Ledger)) j188, listE hdE p22 (s24.2.2.2 ++ [(Hd.ls r177 x180)] : (List Hd)), lstA p148 ([y36, 1 - y36] : (List Int)), imA (.ref p115) ((⟨(x103.length : Int) + 1, x108, (x110.length : Int) + 1, r90.1⟩ : T4 _ _ _ _) : (T4 Int Str Int Any)), imA p100 (r99.1 : Any), imA p91 (r90.1 : Any), stA p2 (s149 : T3 Int Script Int), lstA p21 (([] : (List Str)) : (List Str)), lstA p44 (t72.2 : (List (T4 Int Str Int Any))), lstA p23 (cutL v_law_script.ns none (some (30)) : (List Int)), lstA p4 (r3.1 : (List Str)), imA (.ref ad_v_law_script) v_law_script, F] : List (Asn G)) := unfocus0 hl204 hp205 hx201.2 (hS.sel [0, 1, 2, 3, 4, 5, 6, 7, 8, 9, 10, 11, 12, 13, 14, 15, 16, 17] (by decide) rfl)
                  refine pr_2 ?_
                  refine pr_nil ?_
                  refine k_dispEnd (qs := ([(x199, (x201.length : Int))] : (List (Str × Int)))) (kvs := [(Kx.key x199, (.int ((x201.length : Int))))]) hS (i := 1) rfl rfl ⟨⟨rfl, rfl⟩, True.intro⟩ (by show 1 ≤ 15; decide) rfl fun H hS => ?_
                  have hS : Sep H ([listE lstA p19 (s24.2.2.1.set j141 (x142 ++ [(⟨(x103.length : Int) + 1, x108, (x110.length : Int) + 1, r90.1⟩ : T4 _ _ _ _)]) : (List (List (T4 Int Str Int Any)))), dictA p198 (mergeD [] ([(x199, (x201.length : Int))] : (List (Str × Int))) : (List (Str × Int))), dictA p197 (r196 : (List (Str × Int))), LedgerA p191 x189, listH LedgerA p15 ps190 (s75.1.set j93 r99.2 : (List Ledger)) j188, listE hdE p22 (s24.2.2.2 ++ [(Hd.ls r177 x180)] : (List Hd)), lstA p148 ([y36, 1 - y36] : (List Int)), imA (.ref p115) ((⟨(x103.length : Int) + 1, x108, (x110.length : Int) + 1, r90.1⟩ : T4 _ _ _ _) : (T4 Int Str Int Any)), imA p100 (r99.1 : Any), imA p91 (r90.1 : Any), stA p2 (s149 : T3 Int Script Int), lstA p21 (([] : (List Str)) : (List Str)), lstA p44 (t72.2 : (List (T4 Int Str Int Any))), lstA p23 (cutL v_law_script.ns none (some (30)) : (List Int)), lstA p4 (r3.1 : (List Str)), imA (.ref ad_v_law_script) v_law_script, F] : List (Asn G)) := hS
                  refine c_nil ?_
                  refine k_tupV (vs := [(.ref p197), (.ref p198)]) hS (by show 2 ≤ sizeLine; decide) fun p206 H hS => ?_
                  have hS : Sep H ([hdE p206 (Hd.dc r196 (mergeD [] ([(x199, (x201.length : Int))] : (List (Str × Int))))), listE lstA p19 (s24.2.2.1.set j141 (x142 ++ [(⟨(x103.length : Int) + 1, x108, (x110.length : Int) + 1, r90.1⟩ : T4 _ _ _ _)]) : (List (List (T4 Int Str Int Any)))), LedgerA p191 x189, listH LedgerA p15 ps190 (s75.1.set j93 r99.2 : (List Ledger)) j188, listE hdE p22 (s24.2.2.2 ++ [(Hd.ls r177 x180)] : (List Hd)), lstA p148 ([y36, 1 - y36] : (List Int)), imA (.ref p115) ((⟨(x103.length : Int) + 1, x108, (x110.length : Int) + 1, r90.1⟩ : T4 _ _ _ _) : (T4 Int Str Int Any)), imA p100 (r99.1 : Any), imA p91 (r90.1 : Any), stA p2 (s149 : T3 Int Script Int), lstA p21 (([] : (List Str)) : (List Str)), lstA p44 (t72.2 : (List (T4 Int Str Int Any))), lstA p23 (cutL v_law_script.ns none (some (30)) : (List Int)), lstA p4 (r3.1 : (List Str)), imA (.ref ad_v_law_script) v_law_script, F] : List (Asn G)) := hd_dc (hS.sel [0, 3, 2, 1, 4, 5, 6, 7, 8, 9, 10, 11, 12, 13, 14, 15, 16, 17] (by decide) rfl)
                  refine c_nil ?_
                  obtain ⟨h207, hm⟩ := R.wp_need hm
                  refine k_appendE (hS.sel [0, 4, 1, 2, 3, 5, 6, 7, 8, 9, 10, 11, 12, 13, 14, 15] (by decide) rfl : Sep H (hdE p206 (Hd.dc r196 (mergeD [] ([(x199, (x201.length : Int))] : (List (Str × Int))))) :: listE hdE p22 (s24.2.2.2 ++ [(Hd.ls r177 x180)] : (List Hd)) :: [listE lstA p19 (s24.2.2.1.set j141 (x142 ++ [(⟨(x103.length : Int) + 1, x108, (x110.length : Int) + 1, r90.1⟩ : T4 _ _ _ _)]) : (List (List (T4 Int Str Int Any)))), LedgerA p191 x189, listH LedgerA p15 ps190 (s75.1.set j93 r99.2 : (List Ledger)) j188, lstA p148 ([y36, 1 - y36] : (List Int)), imA (.ref p115) ((⟨(x103.length : Int) + 1, x108, (x110.length : Int) + 1, r90.1⟩ : T4 _ _ _ _) : (T4 Int Str Int Any)), imA p100 (r99.1 : Any), imA p91 (r90.1 : Any), stA p2 (s149 : T3 Int Script Int), lstA p21 (([] : (List Str)) : (List Str)), lstA p44 (t72.2 : (List (T4 Int Str Int Any))), lstA p23 (cutL v_law_script.ns none (some (30)) : (List Int)), lstA p4 (r3.1 : (List Str)), imA (.ref ad_v_law_script) v_law_script, F] : List (Asn G))) h207 fun H hS => ?_
                  have hS : Sep H ([listE hdE p22 ((s24.2.2.2 ++ [(Hd.ls r177 x180)]) ++ [(Hd.dc r196 (mergeD [] ([(x199, (x201.length : Int))] : (List (Str × Int)))))] : (List Hd)), listE lstA p19 (s24.2.2.1.set j141 (x142 ++ [(⟨(x103.length : Int) + 1, x108, (x110.length : Int) + 1, r90.1⟩ : T4 _ _ _ _)]) : (List (List (T4 Int Str Int Any)))), LedgerA p191 x189, listH LedgerA p15 ps190 (s75.1.set j93 r99.2 : (List Ledger)) j188, lstA p148 ([y36, 1 - y36] : (List Int)), imA (.ref p115) ((⟨(x103.length : Int) + 1, x108, (x110.length : Int) + 1, r90.1⟩ : T4 _ _ _ _) : (T4 Int Str Int Any)), imA p100 (r99.1 : Any), imA p91 (r90.1 : Any), stA p2 (s149 : T3 Int Script Int), lstA p21 (([] : (List Str)) : (List Str)), lstA p44 (t72.2 : (List (T4 Int Str Int Any))), lstA p23 (cutL v_law_script.ns none (some (30)) : (List Int)), lstA p4 (r3.1 : (List Str)), imA (.ref ad_v_law_script) v_law_script, F] : List (Asn G)) := hS
                  have hS : Sep H ([listE LedgerA p15 (s75.1.set j93 r99.2 : (List Ledger)), listE hdE p22 ((s24.2.2.2 ++ [(Hd.ls r177 x180)]) ++ [(Hd.dc r196 (mergeD [] ([(x199, (x201.length : Int))] : (List (Str × Int)))))] : (List Hd)), listE lstA p19 (s24.2.2.1.set j141 (x142 ++ [(⟨(x103.length : Int) + 1, x108, (x110.length : Int) + 1, r90.1⟩ : T4 _ _ _ _)]) : (List (List (T4 Int Str Int Any)))), lstA p148 ([y36, 1 - y36] : (List Int)), imA (.ref p115) ((⟨(x103.length : Int) + 1, x108, (x110.length : Int) + 1, r90.1⟩ : T4 _ _ _ _) : (T4 Int Str Int Any)), imA p100 (r99.1 : Any), imA p91 (r90.1 : Any), stA p2 (s149 : T3 Int Script Int), lstA p21 (([] : (List Str)) : (List Str)), lstA p44 (t72.2 : (List (T4 Int Str Int Any))), lstA p23 (cutL v_law_script.ns none (some (30)) : (List Int)), lstA p4 (r3.1 : (List Str)), imA (.ref ad_v_law_script) v_law_script, F] : List (Asn G)) := unfocus0 hl192 hp193 hx189.2 (hS.sel [2, 3, 0, 1, 4, 5, 6, 7, 8, 9, 10, 11, 12, 13, 14] (by decide) rfl)
                  exact nx _ _ _ hm ⟨_, _, _, _, _, _, _, rfl, hS.sel [10, 1, 8, 2, 0, 11, 7, 12, 13] (by decide) rfl⟩
    · obtain ⟨w27, w28, w29, w30, w31, w32, w33, rfl, hS⟩ := hI
      refine sq_nx ?_
      refine f_seq ?_
      refine f_if ?_
      refine f_or ?_
      refine f_test ?_
      refine c_op ?_
      refine c_fz ?_
      refine c_lc ?_
      refine c_il ?_
      refine ev_to (ev_fz (ev_var rfl)) ?_
      refine k_ilE hS (i := 1) rfl ?_
      obtain ⟨h209, hm⟩ := R.wp_need hm
      refine lc_sep (β := Str) (fun (_ : Unit) => ([lstA p23 (cutL v_law_script.ns none (some (30)) : (List Int)), listE hdE p22 (s24.2.2.2 : (List Hd)), lstA p21 (([] : (List Str)) : (List Str)), listE lstA p19 (s24.2.2.1 : (List (List (T4 Int Str Int Any)))), listE LedgerA p15 (s24.2.1 : (List Ledger)), lstA p4 (r3.1 : (List Str)), stA p2 (s24.1 : T3 Int Script Int), imA (.ref ad_v_law_script) v_law_script, F] : List (Asn G))) (s := ()) (im := (imIt p22 s24.2.2.2)) hS (fun _ _ _ => wk_listE fun _ _ h => frontE h (i := 2) rfl) h209 hm (fun p210 _ ys213 x211 v212 H q Nx hS hx hm kS kN => ?_) (fun p210 t H hm hS => ?_)
      ·
        obtain ⟨j214, ps215, p216, hl217, hp218, hx211, rfl, hS⟩ := focusI (hS.sel [2, 0, 1, 3, 4, 5, 6, 7, 8, 9] (by decide) rfl : Sep H (listE hdE p22 (s24.2.2.2 : (List Hd)) :: [lstA p210 (ys213 : List Str), lstA p23 (cutL v_law_script.ns none (some (30)) : (List Int)), lstA p21 (([] : (List Str)) : (List Str)), listE lstA p19 (s24.2.2.1 : (List (List (T4 Int Str Int Any)))), listE LedgerA p15 (s24.2.1 : (List Ledger)), lstA p4 (r3.1 : (List Str)), stA p2 (s24.1 : T3 Int Script Int), imA (.ref ad_v_law_script) v_law_script, F] : List (Asn G))) hx
        have hS : Sep H ([hdE p216 x211, listH hdE p22 ps215 (s24.2.2.2 : (List Hd)) j214, lstA p210 (ys213 : List Str), lstA p23 (cutL v_law_script.ns none (some (30)) : (List Int)), lstA p21 (([] : (List Str)) : (List Str)), listE lstA p19 (s24.2.2.1 : (List (List (T4 Int Str Int Any)))), listE LedgerA p15 (s24.2.1 : (List Ledger)), lstA p4 (r3.1 : (List Str)), stA p2 (s24.1 : T3 Int Script Int), imA (.ref ad_v_law_script) v_law_script, F] : List (Asn G)) := hS
        refine c_gLc (σ' := [some (.ref ad_v_law_script), some (.ref p2), some (.ref p4), some (.ref p15), some (.ref p19), some (.ref p21), some (.ref p22), w27, w28, none, w29, w30, w31, w32, w33, some (.ref p216)]) rfl rfl ?_
        obtain ⟨hq219, hm⟩ := wp_sameHd hm
        refine et_to (et_test (ev_neHd hS (i := 0) rfl (ev_var rfl) hq219)) ?_
        refine lc_if (fun hb220 => ?_) (fun hb220 => ?_)
        · have hm := R.wp_ifY hm hb220
          exact absurd hb220 (by decide)
        · have hm := R.wp_ifN hm (by first | (rw [hb220]; decide) | simpa using hb220)
          have hS : Sep H ([listE hdE p22 (s24.2.2.2 : (List Hd)), lstA p210 (ys213 : List Str), lstA p23 (cutL v_law_script.ns none (some (30)) : (List Int)), lstA p21 (([] : (List Str)) : (List Str)), listE lstA p19 (s24.2.2.1 : (List (List (T4 Int Str Int Any)))), listE LedgerA p15 (s24.2.1 : (List Ledger)), lstA p4 (r3.1 : (List Str)), stA p2 (s24.1 : T3 Int Script Int), imA (.ref ad_v_law_script) v_law_script, F] : List (Asn G)) := unfocus0 hl217 hp218 hx211 (hS.sel [0, 1, 2, 3, 4, 5, 6, 7, 8, 9, 10] (by decide) rfl)
          exact kN () _ hm (hS.sel [1, 2, 0, 3, 4, 5, 6, 7, 8, 9] (by decide) rfl)
      · revert hm hS; generalize t = t221; intro hm hS
        refine fz_no ?_
        refine c_fz ?_
        refine c_lst ?_
        refine ea_to ea_nil ?_
        refine k_lst (α := Str) (vs := []) (xs := ([] : (List Str))) hS True.intro (by show 0 ≤ sizeLine; decide) fun p222 H hS => ?_
        refine fz_no ?_
        obtain ⟨h223, hm⟩ := R.wp_need hm
        obtain ⟨h224, hm⟩ := R.wp_need hm
        refine ev_op2 (ev_neP (G := G) (x := (t221.2 : (List Str))) (y := ([] : (List Str))) ev_c ev_c (dpOwn hS (i := 1) rfl) (dpOwn hS (i := 0) rfl) h223 h224 (Nat.le_of_ble_eq_true rfl)) ?_
        refine f_bl ?_
        refine orK_J hm hS (fun hb q hm nx => ?_) (fun b225 H hm hS => ?_)
        ·
          refine f_test ?_
          refine c_op ?_
          refine c_fldG ?_
          refine c_op ?_
          refine ev_to (ev_fz (ev_var rfl)) ?_
          refine ev_to ev_c ?_
          obtain ⟨j226, x227, hx227, hm⟩ := wp_ixJ hm
          refine ixK (x := (x227 : Ledger)) (hS.sel [6, 0, 1, 2, 3, 4, 5, 7, 8, 9, 10] (by decide) rfl : Sep H (listE LedgerA p15 (s24.2.1 : (List Ledger)) :: [lstA p222 (([] : (List Str)) : (List Str)), lstA p210 (t221.2 : (List Str)), lstA p23 (cutL v_law_script.ns none (some (30)) : (List Int)), listE hdE p22 (s24.2.2.2 : (List Hd)), lstA p21 (([] : (List Str)) : (List Str)), listE lstA p19 (s24.2.2.1 : (List (List (T4 Int Str Int Any)))), lstA p4 (r3.1 : (List Str)), stA p2 (s24.1 : T3 Int Script Int), imA (.ref ad_v_law_script) v_law_script, F] : List (Asn G))) hx227 fun ps228 p229 hl230 hp231 hS => ?_
          have hS : Sep H ([LedgerA p229 x227, listH LedgerA p15 ps228 (s24.2.1 : (List Ledger)) j226, lstA p222 (([] : (List Str)) : (List Str)), lstA p210 (t221.2 : (List Str)), lstA p23 (cutL v_law_script.ns none (some (30)) : (List Int)), listE hdE p22 (s24.2.2.2 : (List Hd)), lstA p21 (([] : (List Str)) : (List Str)), listE lstA p19 (s24.2.2.1 : (List (List (T4 Int Str Int Any)))), lstA p4 (r3.1 : (List Str)), stA p2 (s24.1 : T3 Int Script Int), imA (.ref ad_v_law_script) v_law_script, F] : List (Asn G)) := hS
          obtain ⟨d232, _, hO233⟩ := ins_Ledger hS (i := 0) rfl
          refine ⟨_, _, _, _, _, rfl, hO233, T.cl_Ledger, T.n_Ledger_hand, rfl, ?_⟩
          obtain ⟨x234, hx234, hm⟩ := wp_idx hm
          refine ev_to (ev_ixSq (ev_fz (ev_var rfl)) ev_c (hS.sqF (i := 8) rfl) (atI_map hx234)) ?_
          refine ev_op2 (ev_neS ev_c ev_c) ?_
          refine f_bl ?_
          have hS : Sep H ([listE LedgerA p15 (s24.2.1 : (List Ledger)), lstA p222 (([] : (List Str)) : (List Str)), lstA p210 (t221.2 : (List Str)), lstA p23 (cutL v_law_script.ns none (some (30)) : (List Int)), listE hdE p22 (s24.2.2.2 : (List Hd)), lstA p21 (([] : (List Str)) : (List Str)), listE lstA p19 (s24.2.2.1 : (List (List (T4 Int Str Int Any)))), lstA p4 (r3.1 : (List Str)), stA p2 (s24.1 : T3 Int Script Int), imA (.ref ad_v_law_script) v_law_script, F] : List (Asn G)) := unfocus0 hl230 hp231 hx227.2 (hS.sel [0, 1, 2, 3, 4, 5, 6, 7, 8, 9, 10, 11] (by decide) rfl)
          exact nx _ _ hm (hS.sel [1, 2, 3, 4, 5, 6, 0, 7, 8, 9, 10] (by decide) rfl)
        ·
          refine ifK_2 (fun hb235 => ?_) (fun hb235 => ?_)
          · have hm := R.wp_ifY hm hb235
            refine c_ret ?_
            refine ev_to ev_c ?_
            exact hm _ (hS.sel [10] (by decide) rfl)
          · have hm := R.wp_ifN hm (by first | (rw [hb235]; decide) | simpa using hb235)
            refine st_nx ?_
            refine sq_nx ?_
            refine c_ret ?_
            refine c_call ?_
            refine c_cons ?_
            refine c_op ?_
            refine c_fz ?_
            refine c_lst ?_
            obtain ⟨x236, hx236, hm⟩ := wp_idx hm
            obtain ⟨h237, hm⟩ := R.wp_need hm
            obtain ⟨x238, hx238, hm⟩ := wp_idx hm
            obtain ⟨h239, hm⟩ := R.wp_need hm
            refine ea_to (ea_cons ev_c (ea_cons (ev_repS (ev_ixSq (ev_fz (ev_var rfl)) ev_c (hS.sqF (i := 7) rfl) (atI_map hx236)) ev_c h237) (ea_cons (ev_catS (ev_ixSq (ev_fz (ev_var rfl)) ev_c (hS.sqF (i := 7) rfl) (atI_map hx238)) ev_c h239) (ea_cons ev_c (ea_cons ev_c (ea_cons ev_c ea_nil)))))) ?_
            refine k_lst (α := Any) (vs := [(.str (("" : Str))), (.str (repS x236 (9 : Int).toNat)), (.str (x238 ++ ("1" : Str))), (.str (("A" : Str))), .non, (.str (("a b" : Str)))]) (xs := [(Any.str ("" : Str)), (Any.str (repS x236 (9 : Int).toNat)), (Any.str (x238 ++ ("1" : Str))), (Any.str ("A" : Str)), Any.non, (Any.str ("a b" : Str))]) hS ⟨(any_str.mpr rfl), ⟨(any_str.mpr rfl), ⟨(any_str.mpr rfl), ⟨(any_str.mpr rfl), ⟨(any_non.mpr rfl), ⟨(any_str.mpr rfl), True.intro⟩⟩⟩⟩⟩⟩ (by show 6 ≤ sizeLine; decide) fun p240 H hS => ?_
            refine fz_no ?_
            refine c_op ?_
            refine c_call ?_
            refine ea_to (ea_cons (ev_var rfl) ea_nil) ?_
            refine ⟨p2, (s24.1 : (T3 Int Script Int)), star [lstA p240 ([(Any.str ("" : Str)), (Any.str (repS x236 (9 : Int).toNat)), (Any.str (x238 ++ ("1" : Str))), (Any.str ("A" : Str)), Any.non, (Any.str ("a b" : Str))] : (List Any)), lstA p222 (([] : (List Str)) : (List Str)), lstA p210 (t221.2 : (List Str)), lstA p23 (cutL v_law_script.ns none (some (30)) : (List Int)), listE hdE p22 (s24.2.2.2 : (List Hd)), lstA p21 (([] : (List Str)) : (List Str)), listE lstA p19 (s24.2.2.1 : (List (List (T4 Int Str Int Any)))), listE LedgerA p15 (s24.2.1 : (List Ledger)), lstA p4 (r3.1 : (List Str)), imA (.ref ad_v_law_script) v_law_script, F], rfl, Sep.unstar (M := [stA p2 (s24.1 : T3 Int Script Int)]) (hS.sel [9, 0, 1, 2, 3, 4, 5, 6, 7, 8, 10, 11] (by decide) rfl : Sep H (([stA p2 (s24.1 : T3 Int Script Int)] ++ [lstA p240 ([(Any.str ("" : Str)), (Any.str (repS x236 (9 : Int).toNat)), (Any.str (x238 ++ ("1" : Str))), (Any.str ("A" : Str)), Any.non, (Any.str ("a b" : Str))] : (List Any)), lstA p222 (([] : (List Str)) : (List Str)), lstA p210 (t221.2 : (List Str)), lstA p23 (cutL v_law_script.ns none (some (30)) : (List Int)), listE hdE p22 (s24.2.2.2 : (List Hd)), lstA p21 (([] : (List Str)) : (List Str)), listE lstA p19 (s24.2.2.1 : (List (List (T4 Int Str Int Any)))), listE LedgerA p15 (s24.2.1 : (List Ledger)), lstA p4 (r3.1 : (List Str)), imA (.ref ad_v_law_script) v_law_script, F] : List (Asn G)))), R.wp_mono (R.wp_bind hm) (fun r241 hm H hS => ?_) (fun _ z => z)⟩
            have hS : Sep H ([stA p2 (r241.2 : T3 Int Script Int), lstA p240 ([(Any.str ("" : Str)), (Any.str (repS x236 (9 : Int).toNat)), (Any.str (x238 ++ ("1" : Str))), (Any.str ("A" : Str)), Any.non, (Any.str ("a b" : Str))] : (List Any)), lstA p222 (([] : (List Str)) : (List Str)), lstA p210 (t221.2 : (List Str)), lstA p23 (cutL v_law_script.ns none (some (30)) : (List Int)), listE hdE p22 (s24.2.2.2 : (List Hd)), lstA p21 (([] : (List Str)) : (List Str)), listE lstA p19 (s24.2.2.1 : (List (List (T4 Int Str Int Any)))), listE LedgerA p15 (s24.2.1 : (List Ledger)), lstA p4 (r3.1 : (List Str)), imA (.ref ad_v_law_script) v_law_script, F] : List (Asn G)) := Sep.star (M := [stA p2 (r241.2 : T3 Int Script Int)]) hS
            refine ev_to ev_c ?_
            refine r_mod (by decide) ?_
            obtain ⟨x242, hx242, hm⟩ := wp_idx hm
            obtain ⟨vs243, hq244, hM245⟩ := hS.sq (i := 1) rfl
            obtain ⟨u246, hu247, hi248⟩ := atI_im hM245 hx242
            refine r_ixSq hq244 hu247 _ ?_
            have hS := hS.addIm (v := u246) (x := (x242 : Any)) hi248
            refine c_nil ?_
            refine ⟨u246, (x242 : Any), star [imA u246 (x242 : Any), stA p2 (r241.2 : T3 Int Script Int), lstA p240 ([(Any.str ("" : Str)), (Any.str (repS x236 (9 : Int).toNat)), (Any.str (x238 ++ ("1" : Str))), (Any.str ("A" : Str)), Any.non, (Any.str ("a b" : Str))] : (List Any)), lstA p222 (([] : (List Str)) : (List Str)), lstA p210 (t221.2 : (List Str)), lstA p23 (cutL v_law_script.ns none (some (30)) : (List Int)), listE hdE p22 (s24.2.2.2 : (List Hd)), lstA p21 (([] : (List Str)) : (List Str)), listE lstA p19 (s24.2.2.1 : (List (List (T4 Int Str Int Any)))), listE LedgerA p15 (s24.2.1 : (List Ledger)), lstA p4 (r3.1 : (List Str)), imA (.ref ad_v_law_script) v_law_script, F], rfl, (hS.im (i := 0) rfl), Sep.unstar (M := []) (hS.sel [0, 1, 2, 3, 4, 5, 6, 7, 8, 9, 10, 11, 12] (by decide) rfl : Sep H (([] ++ [imA u246 (x242 : Any), stA p2 (r241.2 : T3 Int Script Int), lstA p240 ([(Any.str ("" : Str)), (Any.str (repS x236 (9 : Int).toNat)), (Any.str (x238 ++ ("1" : Str))), (Any.str ("A" : Str)), Any.non, (Any.str ("a b" : Str))] : (List Any)), lstA p222 (([] : (List Str)) : (List Str)), lstA p210 (t221.2 : (List Str)), lstA p23 (cutL v_law_script.ns none (some (30)) : (List Int)), listE hdE p22 (s24.2.2.2 : (List Hd)), lstA p21 (([] : (List Str)) : (List Str)), listE lstA p19 (s24.2.2.1 : (List (List (T4 Int Str Int Any)))), listE LedgerA p15 (s24.2.1 : (List Ledger)), lstA p4 (r3.1 : (List Str)), imA (.ref ad_v_law_script) v_law_script, F] : List (Asn G)))), R.wp_mono (R.wp_bind hm) (fun r250 hm H hS => ?_) (fun _ z => z)⟩
            have hS : Sep H ([imA u246 (x242 : Any), stA p2 (r241.2 : T3 Int Script Int), lstA p240 ([(Any.str ("" : Str)), (Any.str (repS x236 (9 : Int).toNat)), (Any.str (x238 ++ ("1" : Str))), (Any.str ("A" : Str)), Any.non, (Any.str ("a b" : Str))] : (List Any)), lstA p222 (([] : (List Str)) : (List Str)), lstA p210 (t221.2 : (List Str)), lstA p23 (cutL v_law_script.ns none (some (30)) : (List Int)), listE hdE p22 (s24.2.2.2 : (List Hd)), lstA p21 (([] : (List Str)) : (List Str)), listE lstA p19 (s24.2.2.1 : (List (List (T4 Int Str Int Any)))), listE LedgerA p15 (s24.2.1 : (List Ledger)), lstA p4 (r3.1 : (List Str)), imA (.ref ad_v_law_script) v_law_script, F] : List (Asn G)) := Sep.star (M := []) hS
            exact hm _ (hS.sel [12] (by decide) rfl)
end
end Lw
namespace Lw
open PySem PySem.Spec PyProof.Rows L2 Ml
def sp_top (K : PySem.W.Frag) : Sp := fun vs H Q E => ∃ (a : Addr) (ns : List Int), vs = [.ref a] ∧ SqL K H a (ns.map V.int) ∧ Only H ∧ ns.length ≤ 63 ∧ ∀ H', Q (.bl true) H'
theorem all_mk {l : PySem.W.OpenLaw} {w : World} {K : PySem.W.Frag} {h : Heap} {mg : Str → Option Value} {fa : Addr} (X : K.In h) (H : h.Ns mainGlobals mg) (hfa : mg "law" = some (.ref fa))
    {c0 : Addr}
    {c1 : Addr}
    {c2 : Addr}
    {c3 : Addr}
    {c4 : Addr}
    {c5 : Addr}
    {c6 : Addr}
    {c7 : Addr}
    {c8 : Addr}
    {f0 : Addr} {od0 an0 : Option Addr} {sl0 : Array (Option Value)} {oc0 kV0 dc0 pm0 cd0 ct0 : Value}
    {f1 : Addr} {od1 an1 : Option Addr} {sl1 : Array (Option Value)} {oc1 kV1 dc1 pm1 cd1 ct1 : Value}
    {f2 : Addr} {od2 an2 : Option Addr} {sl2 : Array (Option Value)} {oc2 kV2 dc2 pm2 cd2 ct2 : Value}
    {f3 : Addr} {od3 an3 : Option Addr} {sl3 : Array (Option Value)} {oc3 kV3 dc3 pm3 cd3 ct3 : Value}
    {f4 : Addr} {od4 an4 : Option Addr} {sl4 : Array (Option Value)} {oc4 kV4 dc4 pm4 cd4 ct4 : Value}
    {f5 : Addr} {od5 an5 : Option Addr} {sl5 : Array (Option Value)} {oc5 kV5 dc5 pm5 cd5 ct5 : Value}
    {f6 : Addr} {fd6 : FuncData}
    {f7 : Addr} {od7 an7 : Option Addr} {sl7 : Array (Option Value)} {oc7 kV7 dc7 pm7 cd7 ct7 : Value}
    {f8 : Addr} {od8 an8 : Option Addr} {sl8 : Array (Option Value)} {oc8 kV8 dc8 pm8 cd8 ct8 : Value}
    {f9 : Addr} {od9 an9 : Option Addr} {sl9 : Array (Option Value)} {oc9 kV9 dc9 pm9 cd9 ct9 : Value}
    {f10 : Addr} {od10 an10 : Option Addr} {sl10 : Array (Option Value)} {oc10 kV10 dc10 pm10 cd10 ct10 : Value}
    {f11 : Addr} {od11 an11 : Option Addr} {sl11 : Array (Option Value)} {oc11 kV11 dc11 pm11 cd11 ct11 : Value}
    {f12 : Addr} {od12 an12 : Option Addr} {sl12 : Array (Option Value)} {oc12 kV12 dc12 pm12 cd12 ct12 : Value}
    {f13 : Addr} {od13 an13 : Option Addr} {sl13 : Array (Option Value)} {oc13 kV13 dc13 pm13 cd13 ct13 : Value}
    {f14 : Addr} {od14 an14 : Option Addr} {sl14 : Array (Option Value)} {oc14 kV14 dc14 pm14 cd14 ct14 : Value}
    {f15 : Addr} {od15 an15 : Option Addr} {sl15 : Array (Option Value)} {oc15 kV15 dc15 pm15 cd15 ct15 : Value}
    {f16 : Addr} {od16 an16 : Option Addr} {sl16 : Array (Option Value)} {oc16 kV16 dc16 pm16 cd16 ct16 : Value}
    {f17 : Addr} {od17 an17 : Option Addr} {sl17 : Array (Option Value)} {oc17 kV17 dc17 pm17 cd17 ct17 : Value}
    {f18 : Addr} {od18 an18 : Option Addr} {sl18 : Array (Option Value)} {oc18 kV18 dc18 pm18 cd18 ct18 : Value}
    {f19 : Addr} {fd19 : FuncData}
    {f20 : Addr} {od20 an20 : Option Addr} {sl20 : Array (Option Value)} {oc20 kV20 dc20 pm20 cd20 ct20 : Value}
    {f21 : Addr} {od21 an21 : Option Addr} {sl21 : Array (Option Value)} {oc21 kV21 dc21 pm21 cd21 ct21 : Value}
    {f22 : Addr} {od22 an22 : Option Addr} {sl22 : Array (Option Value)} {oc22 kV22 dc22 pm22 cd22 ct22 : Value}
    {f23 : Addr} {od23 an23 : Option Addr} {sl23 : Array (Option Value)} {oc23 kV23 dc23 pm23 cd23 ct23 : Value}
    {f24 : Addr} {od24 an24 : Option Addr} {sl24 : Array (Option Value)} {oc24 kV24 dc24 pm24 cd24 ct24 : Value}
    {f25 : Addr} {od25 an25 : Option Addr} {sl25 : Array (Option Value)} {oc25 kV25 dc25 pm25 cd25 ct25 : Value}
    {f26 : Addr} {od26 an26 : Option Addr} {sl26 : Array (Option Value)} {oc26 kV26 dc26 pm26 cd26 ct26 : Value}
    {f27 : Addr} {od27 an27 : Option Addr} {sl27 : Array (Option Value)} {oc27 kV27 dc27 pm27 cd27 ct27 : Value}
    {f28 : Addr} {od28 an28 : Option Addr} {sl28 : Array (Option Value)} {oc28 kV28 dc28 pm28 cd28 ct28 : Value}
    {f29 : Addr} {od29 an29 : Option Addr} {sl29 : Array (Option Value)} {oc29 kV29 dc29 pm29 cd29 ct29 : Value}
    {f30 : Addr} {od30 an30 : Option Addr} {sl30 : Array (Option Value)} {oc30 kV30 dc30 pm30 cd30 ct30 : Value}
    {f31 : Addr} {od31 an31 : Option Addr} {sl31 : Array (Option Value)} {oc31 kV31 dc31 pm31 cd31 ct31 : Value}
    {f32 : Addr} {od32 an32 : Option Addr} {sl32 : Array (Option Value)} {oc32 kV32 dc32 pm32 cd32 ct32 : Value}
    {f33 : Addr} {od33 an33 : Option Addr} {sl33 : Array (Option Value)} {oc33 kV33 dc33 pm33 cd33 ct33 : Value}
    {f34 : Addr} {od34 an34 : Option Addr} {sl34 : Array (Option Value)} {oc34 kV34 dc34 pm34 cd34 ct34 : Value}
    {f35 : Addr} {od35 an35 : Option Addr} {sl35 : Array (Option Value)} {oc35 kV35 dc35 pm35 cd35 ct35 : Value}
    {f36 : Addr} {od36 an36 : Option Addr} {sl36 : Array (Option Value)} {oc36 kV36 dc36 pm36 cd36 ct36 : Value}
    {t_FIGURES : Tok}
    {t_MOST_BODY : Tok}
    {t_MOST_DAY : Tok}
    {t_MOST_HAND : Tok}
    {t_MOST_SIGNS : Tok}
    {t_MOST_TITLE : Tok}
    {t_SMALL : Tok}
    (ac0 : PySem.W.nsIn K mainGlobals "MailError" = some (some (.ref c0)))
    (ac1 : PySem.W.nsIn K mainGlobals "NoWord" = some (some (.ref c1)))
    (ac2 : PySem.W.nsIn K mainGlobals "NoLetter" = some (some (.ref c2)))
    (ac3 : PySem.W.nsIn K mainGlobals "NoRule" = some (some (.ref c3)))
    (ac4 : PySem.W.nsIn K mainGlobals "NoName" = some (some (.ref c4)))
    (ac5 : PySem.W.nsIn K mainGlobals "NoParcel" = some (some (.ref c5)))
    (ac6 : PySem.W.nsIn K mainGlobals "NoRow" = some (some (.ref c6)))
    (ac7 : PySem.W.nsIn K mainGlobals "Letter" = some (some (.ref c7)))
    (ac8 : PySem.W.nsIn K mainGlobals "Ledger" = some (some (.ref c8)))
    (a0 : PySem.W.nsIn K mainGlobals "is_sign" = some (some (.ref f0)))
    (l0 : K.lookup f0 = some ⟨oc0, od0, .func (PySem.W.fnOf "is_sign" "is_sign" (defArgs s_is_sign) (defBody s_is_sign) (defScope s_is_sign) .none kV0 dc0 pm0 an0 cd0 ct0), sl0⟩)
    (cc0 : PySem.W.codeIn K cd0 "is_sign" = true)
    (k0 : PySem.W.keepIn K (.ref f0) = true)
    (a1 : PySem.W.nsIn K mainGlobals "is_word" = some (some (.ref f1)))
    (l1 : K.lookup f1 = some ⟨oc1, od1, .func (PySem.W.fnOf "is_word" "is_word" (defArgs s_is_word) (defBody s_is_word) (defScope s_is_word) .none kV1 dc1 pm1 an1 cd1 ct1), sl1⟩)
    (cc1 : PySem.W.codeIn K cd1 "is_word" = true)
    (k1 : PySem.W.keepIn K (.ref f1) = true)
    (a2 : PySem.W.nsIn K mainGlobals "words_of" = some (some (.ref f2)))
    (l2 : K.lookup f2 = some ⟨oc2, od2, .func (PySem.W.fnOf "words_of" "words_of" (defArgs s_words_of) (defBody s_words_of) (defScope s_words_of) .none kV2 dc2 pm2 an2 cd2 ct2), sl2⟩)
    (cc2 : PySem.W.codeIn K cd2 "words_of" = true)
    (k2 : PySem.W.keepIn K (.ref f2) = true)
    (a3 : PySem.W.nsIn K mainGlobals "each_once" = some (some (.ref f3)))
    (l3 : K.lookup f3 = some ⟨oc3, od3, .func (PySem.W.fnOf "each_once" "each_once" (defArgs s_each_once) (defBody s_each_once) (defScope s_each_once) .none kV3 dc3 pm3 an3 cd3 ct3), sl3⟩)
    (cc3 : PySem.W.codeIn K cd3 "each_once" = true)
    (k3 : PySem.W.keepIn K (.ref f3) = true)
    (a4 : PySem.W.nsIn K mainGlobals "is_text" = some (some (.ref f4)))
    (l4 : K.lookup f4 = some ⟨oc4, od4, .func (PySem.W.fnOf "is_text" "is_text" (defArgs s_is_text) (defBody s_is_text) (defScope s_is_text) .none kV4 dc4 pm4 an4 cd4 ct4), sl4⟩)
    (cc4 : PySem.W.codeIn K cd4 "is_text" = true)
    (k4 : PySem.W.keepIn K (.ref f4) = true)
    (a5 : PySem.W.nsIn K mainGlobals "is_day" = some (some (.ref f5)))
    (l5 : K.lookup f5 = some ⟨oc5, od5, .func (PySem.W.fnOf "is_day" "is_day" (defArgs s_is_day) (defBody s_is_day) (defScope s_is_day) .none kV5 dc5 pm5 an5 cd5 ct5), sl5⟩)
    (cc5 : PySem.W.codeIn K cd5 "is_day" = true)
    (k5 : PySem.W.keepIn K (.ref f5) = true)
    (a6_7 : PySem.W.findIn K (.ref c7) "__init__" = some (some (.ref f6)))
    (i6 : PySem.W.isFn K (.ref f6) = true)
    (F6 : FunD K "__init__" "Letter.__init__" (defArgs s_Letter___init__) (defBody s_Letter___init__) (defScope s_Letter___init__) [.str ("" : Str)] [] f6 fd6)
    (mk7 : PySem.W.makesIn K c7 = true)
    (kc7 : PySem.W.keepIn K (.ref c7) = true)
    (a7_7 : PySem.W.findIn K (.ref c7) "parts" = some (some (.ref f7)))
    (i7 : PySem.W.isFn K (.ref f7) = true)
    (l7 : K.lookup f7 = some ⟨oc7, od7, .func (PySem.W.fnOf "parts" "Letter.parts" (defArgs s_Letter_parts) (defBody s_Letter_parts) (defScope s_Letter_parts) .none kV7 dc7 pm7 an7 cd7 ct7), sl7⟩)
    (cc7 : PySem.W.codeIn K cd7 "Letter.parts" = true)
    (k7 : PySem.W.keepIn K (.ref f7) = true)
    (a8_7 : PySem.W.findIn K (.ref c7) "words" = some (some (.ref f8)))
    (i8 : PySem.W.isFn K (.ref f8) = true)
    (l8 : K.lookup f8 = some ⟨oc8, od8, .func (PySem.W.fnOf "words" "Letter.words" (defArgs s_Letter_words) (defBody s_Letter_words) (defScope s_Letter_words) .none kV8 dc8 pm8 an8 cd8 ct8), sl8⟩)
    (cc8 : PySem.W.codeIn K cd8 "Letter.words" = true)
    (k8 : PySem.W.keepIn K (.ref f8) = true)
    (a9 : PySem.W.nsIn K mainGlobals "letter_of" = some (some (.ref f9)))
    (l9 : K.lookup f9 = some ⟨oc9, od9, .func (PySem.W.fnOf "letter_of" "letter_of" (defArgs s_letter_of) (defBody s_letter_of) (defScope s_letter_of) .none kV9 dc9 pm9 an9 cd9 ct9), sl9⟩)
    (cc9 : PySem.W.codeIn K cd9 "letter_of" = true)
    (k9 : PySem.W.keepIn K (.ref f9) = true)
    (a10 : PySem.W.nsIn K mainGlobals "is_hand" = some (some (.ref f10)))
    (l10 : K.lookup f10 = some ⟨oc10, od10, .func (PySem.W.fnOf "is_hand" "is_hand" (defArgs s_is_hand) (defBody s_is_hand) (defScope s_is_hand) .none kV10 dc10 pm10 an10 cd10 ct10), sl10⟩)
    (cc10 : PySem.W.codeIn K cd10 "is_hand" = true)
    (k10 : PySem.W.keepIn K (.ref f10) = true)
    (a11 : PySem.W.nsIn K mainGlobals "is_parts" = some (some (.ref f11)))
    (l11 : K.lookup f11 = some ⟨oc11, od11, .func (PySem.W.fnOf "is_parts" "is_parts" (defArgs s_is_parts) (defBody s_is_parts) (defScope s_is_parts) .none kV11 dc11 pm11 an11 cd11 ct11), sl11⟩)
    (cc11 : PySem.W.codeIn K cd11 "is_parts" = true)
    (k11 : PySem.W.keepIn K (.ref f11) = true)
    (a12 : PySem.W.nsIn K mainGlobals "is_deed" = some (some (.ref f12)))
    (l12 : K.lookup f12 = some ⟨oc12, od12, .func (PySem.W.fnOf "is_deed" "is_deed" (defArgs s_is_deed) (defBody s_is_deed) (defScope s_is_deed) .none kV12 dc12 pm12 an12 cd12 ct12), sl12⟩)
    (cc12 : PySem.W.codeIn K cd12 "is_deed" = true)
    (k12 : PySem.W.keepIn K (.ref f12) = true)
    (a13 : PySem.W.nsIn K mainGlobals "stamp_of" = some (some (.ref f13)))
    (l13 : K.lookup f13 = some ⟨oc13, od13, .func (PySem.W.fnOf "stamp_of" "stamp_of" (defArgs s_stamp_of) (defBody s_stamp_of) (defScope s_stamp_of) .none kV13 dc13 pm13 an13 cd13 ct13), sl13⟩)
    (cc13 : PySem.W.codeIn K cd13 "stamp_of" = true)
    (k13 : PySem.W.keepIn K (.ref f13) = true)
    (a14 : PySem.W.nsIn K mainGlobals "need_follows" = some (some (.ref f14)))
    (l14 : K.lookup f14 = some ⟨oc14, od14, .func (PySem.W.fnOf "need_follows" "need_follows" (defArgs s_need_follows) (defBody s_need_follows) (defScope s_need_follows) .none kV14 dc14 pm14 an14 cd14 ct14), sl14⟩)
    (cc14 : PySem.W.codeIn K cd14 "need_follows" = true)
    (k14 : PySem.W.keepIn K (.ref f14) = true)
    (a15_8 : PySem.W.findIn K (.ref c8) "__init__" = some (some (.ref f15)))
    (i15 : PySem.W.isFn K (.ref f15) = true)
    (l15 : K.lookup f15 = some ⟨oc15, od15, .func (PySem.W.fnOf "__init__" "Ledger.__init__" (defArgs s_Ledger___init__) (defBody s_Ledger___init__) (defScope s_Ledger___init__) .none kV15 dc15 pm15 an15 cd15 ct15), sl15⟩)
    (cc15 : PySem.W.codeIn K cd15 "Ledger.__init__" = true)
    (k15 : PySem.W.keepIn K (.ref f15) = true)
    (mk8 : PySem.W.makesIn K c8 = true)
    (kc8 : PySem.W.keepIn K (.ref c8) = true)
    (a16_8 : PySem.W.findIn K (.ref c8) "latest" = some (some (.ref f16)))
    (i16 : PySem.W.isFn K (.ref f16) = true)
    (l16 : K.lookup f16 = some ⟨oc16, od16, .func (PySem.W.fnOf "latest" "Ledger.latest" (defArgs s_Ledger_latest) (defBody s_Ledger_latest) (defScope s_Ledger_latest) .none kV16 dc16 pm16 an16 cd16 ct16), sl16⟩)
    (cc16 : PySem.W.codeIn K cd16 "Ledger.latest" = true)
    (k16 : PySem.W.keepIn K (.ref f16) = true)
    (a17_8 : PySem.W.findIn K (.ref c8) "do" = some (some (.ref f17)))
    (i17 : PySem.W.isFn K (.ref f17) = true)
    (l17 : K.lookup f17 = some ⟨oc17, od17, .func (PySem.W.fnOf "do" "Ledger.do" (defArgs s_Ledger_do) (defBody s_Ledger_do) (defScope s_Ledger_do) .none kV17 dc17 pm17 an17 cd17 ct17), sl17⟩)
    (cc17 : PySem.W.codeIn K cd17 "Ledger.do" = true)
    (k17 : PySem.W.keepIn K (.ref f17) = true)
    (a18_8 : PySem.W.findIn K (.ref c8) "have" = some (some (.ref f18)))
    (i18 : PySem.W.isFn K (.ref f18) = true)
    (l18 : K.lookup f18 = some ⟨oc18, od18, .func (PySem.W.fnOf "have" "Ledger.have" (defArgs s_Ledger_have) (defBody s_Ledger_have) (defScope s_Ledger_have) .none kV18 dc18 pm18 an18 cd18 ct18), sl18⟩)
    (cc18 : PySem.W.codeIn K cd18 "Ledger.have" = true)
    (k18 : PySem.W.keepIn K (.ref f18) = true)
    (a19_8 : PySem.W.findIn K (.ref c8) "told" = some (some (.ref f19)))
    (i19 : PySem.W.isFn K (.ref f19) = true)
    (F19 : FunD K "told" "Ledger.told" (defArgs s_Ledger_told) (defBody s_Ledger_told) (defScope s_Ledger_told) [.non] [] f19 fd19)
    (a20 : PySem.W.nsIn K mainGlobals "_law_begin" = some (some (.ref f20)))
    (l20 : K.lookup f20 = some ⟨oc20, od20, .func (PySem.W.fnOf "_law_begin" "_law_begin" (defArgs s_law_begin) (defBody s_law_begin) (defScope s_law_begin) .none kV20 dc20 pm20 an20 cd20 ct20), sl20⟩)
    (cc20 : PySem.W.codeIn K cd20 "_law_begin" = true)
    (k20 : PySem.W.keepIn K (.ref f20) = true)
    (a21 : PySem.W.nsIn K mainGlobals "_law_next" = some (some (.ref f21)))
    (l21 : K.lookup f21 = some ⟨oc21, od21, .func (PySem.W.fnOf "_law_next" "_law_next" (defArgs s_law_next) (defBody s_law_next) (defScope s_law_next) .none kV21 dc21 pm21 an21 cd21 ct21), sl21⟩)
    (cc21 : PySem.W.codeIn K cd21 "_law_next" = true)
    (k21 : PySem.W.keepIn K (.ref f21) = true)
    (a22 : PySem.W.nsIn K mainGlobals "_law_word" = some (some (.ref f22)))
    (l22 : K.lookup f22 = some ⟨oc22, od22, .func (PySem.W.fnOf "_law_word" "_law_word" (defArgs s_law_word) (defBody s_law_word) (defScope s_law_word) .none kV22 dc22 pm22 an22 cd22 ct22), sl22⟩)
    (cc22 : PySem.W.codeIn K cd22 "_law_word" = true)
    (k22 : PySem.W.keepIn K (.ref f22) = true)
    (a23 : PySem.W.nsIn K mainGlobals "_law_any_word" = some (some (.ref f23)))
    (l23 : K.lookup f23 = some ⟨oc23, od23, .func (PySem.W.fnOf "_law_any_word" "_law_any_word" (defArgs s_law_any_word) (defBody s_law_any_word) (defScope s_law_any_word) .none kV23 dc23 pm23 an23 cd23 ct23), sl23⟩)
    (cc23 : PySem.W.codeIn K cd23 "_law_any_word" = true)
    (k23 : PySem.W.keepIn K (.ref f23) = true)
    (a24 : PySem.W.nsIn K mainGlobals "_law_hands" = some (some (.ref f24)))
    (l24 : K.lookup f24 = some ⟨oc24, od24, .func (PySem.W.fnOf "_law_hands" "_law_hands" (defArgs s_law_hands) (defBody s_law_hands) (defScope s_law_hands) .none kV24 dc24 pm24 an24 cd24 ct24), sl24⟩)
    (cc24 : PySem.W.codeIn K cd24 "_law_hands" = true)
    (k24 : PySem.W.keepIn K (.ref f24) = true)
    (a25 : PySem.W.nsIn K mainGlobals "_law_parts" = some (some (.ref f25)))
    (l25 : K.lookup f25 = some ⟨oc25, od25, .func (PySem.W.fnOf "_law_parts" "_law_parts" (defArgs s_law_parts) (defBody s_law_parts) (defScope s_law_parts) .none kV25 dc25 pm25 an25 cd25 ct25), sl25⟩)
    (cc25 : PySem.W.codeIn K cd25 "_law_parts" = true)
    (k25 : PySem.W.keepIn K (.ref f25) = true)
    (a26 : PySem.W.nsIn K mainGlobals "_law_deed" = some (some (.ref f26)))
    (l26 : K.lookup f26 = some ⟨oc26, od26, .func (PySem.W.fnOf "_law_deed" "_law_deed" (defArgs s_law_deed) (defBody s_law_deed) (defScope s_law_deed) .none kV26 dc26 pm26 an26 cd26 ct26), sl26⟩)
    (cc26 : PySem.W.codeIn K cd26 "_law_deed" = true)
    (k26 : PySem.W.keepIn K (.ref f26) = true)
    (a27 : PySem.W.nsIn K mainGlobals "_law_alone" = some (some (.ref f27)))
    (l27 : K.lookup f27 = some ⟨oc27, od27, .func (PySem.W.fnOf "_law_alone" "_law_alone" (defArgs s_law_alone) (defBody s_law_alone) (defScope s_law_alone) .none kV27 dc27 pm27 an27 cd27 ct27), sl27⟩)
    (cc27 : PySem.W.codeIn K cd27 "_law_alone" = true)
    (k27 : PySem.W.keepIn K (.ref f27) = true)
    (a28 : PySem.W.nsIn K mainGlobals "_law_refused" = some (some (.ref f28)))
    (l28 : K.lookup f28 = some ⟨oc28, od28, .func (PySem.W.fnOf "_law_refused" "_law_refused" (defArgs s_law_refused) (defBody s_law_refused) (defScope s_law_refused) .none kV28 dc28 pm28 an28 cd28 ct28), sl28⟩)
    (cc28 : PySem.W.codeIn K cd28 "_law_refused" = true)
    (k28 : PySem.W.keepIn K (.ref f28) = true)
    (a29 : PySem.W.nsIn K mainGlobals "_law_done" = some (some (.ref f29)))
    (l29 : K.lookup f29 = some ⟨oc29, od29, .func (PySem.W.fnOf "_law_done" "_law_done" (defArgs s_law_done) (defBody s_law_done) (defScope s_law_done) .none kV29 dc29 pm29 an29 cd29 ct29), sl29⟩)
    (cc29 : PySem.W.codeIn K cd29 "_law_done" = true)
    (k29 : PySem.W.keepIn K (.ref f29) = true)
    (a30 : PySem.W.nsIn K mainGlobals "_law_no_hand" = some (some (.ref f30)))
    (l30 : K.lookup f30 = some ⟨oc30, od30, .func (PySem.W.fnOf "_law_no_hand" "_law_no_hand" (defArgs s_law_no_hand) (defBody s_law_no_hand) (defScope s_law_no_hand) .none kV30 dc30 pm30 an30 cd30 ct30), sl30⟩)
    (cc30 : PySem.W.codeIn K cd30 "_law_no_hand" = true)
    (k30 : PySem.W.keepIn K (.ref f30) = true)
    (a31 : PySem.W.nsIn K mainGlobals "_law_no_word" = some (some (.ref f31)))
    (l31 : K.lookup f31 = some ⟨oc31, od31, .func (PySem.W.fnOf "_law_no_word" "_law_no_word" (defArgs s_law_no_word) (defBody s_law_no_word) (defScope s_law_no_word) .none kV31 dc31 pm31 an31 cd31 ct31), sl31⟩)
    (cc31 : PySem.W.codeIn K cd31 "_law_no_word" = true)
    (k31 : PySem.W.keepIn K (.ref f31) = true)
    (a32 : PySem.W.nsIn K mainGlobals "_law_no_parts" = some (some (.ref f32)))
    (l32 : K.lookup f32 = some ⟨oc32, od32, .func (PySem.W.fnOf "_law_no_parts" "_law_no_parts" (defArgs s_law_no_parts) (defBody s_law_no_parts) (defScope s_law_no_parts) .none kV32 dc32 pm32 an32 cd32 ct32), sl32⟩)
    (cc32 : PySem.W.codeIn K cd32 "_law_no_parts" = true)
    (k32 : PySem.W.keepIn K (.ref f32) = true)
    (a33 : PySem.W.nsIn K mainGlobals "_law_no_deed" = some (some (.ref f33)))
    (l33 : K.lookup f33 = some ⟨oc33, od33, .func (PySem.W.fnOf "_law_no_deed" "_law_no_deed" (defArgs s_law_no_deed) (defBody s_law_no_deed) (defScope s_law_no_deed) .none kV33 dc33 pm33 an33 cd33 ct33), sl33⟩)
    (cc33 : PySem.W.codeIn K cd33 "_law_no_deed" = true)
    (k33 : PySem.W.keepIn K (.ref f33) = true)
    (a34 : PySem.W.nsIn K mainGlobals "_law_odd" = some (some (.ref f34)))
    (l34 : K.lookup f34 = some ⟨oc34, od34, .func (PySem.W.fnOf "_law_odd" "_law_odd" (defArgs s_law_odd) (defBody s_law_odd) (defScope s_law_odd) .none kV34 dc34 pm34 an34 cd34 ct34), sl34⟩)
    (cc34 : PySem.W.codeIn K cd34 "_law_odd" = true)
    (k34 : PySem.W.keepIn K (.ref f34) = true)
    (a35 : PySem.W.nsIn K mainGlobals "_law_looked" = some (some (.ref f35)))
    (l35 : K.lookup f35 = some ⟨oc35, od35, .func (PySem.W.fnOf "_law_looked" "_law_looked" (defArgs s_law_looked) (defBody s_law_looked) (defScope s_law_looked) .none kV35 dc35 pm35 an35 cd35 ct35), sl35⟩)
    (cc35 : PySem.W.codeIn K cd35 "_law_looked" = true)
    (k35 : PySem.W.keepIn K (.ref f35) = true)
    (a36 : PySem.W.nsIn K mainGlobals "law" = some (some (.ref f36)))
    (l36 : K.lookup f36 = some ⟨oc36, od36, .func (PySem.W.fnOf "law" "law" (defArgs s_law) (defBody s_law) (defScope s_law) .none kV36 dc36 pm36 an36 cd36 ct36), sl36⟩)
    (cc36 : PySem.W.codeIn K cd36 "law" = true)
    (k36 : PySem.W.keepIn K (.ref f36) = true)
    (bE0 : PySem.W.subIn K (.ref c0) (.type "BaseException") = some true)
    (tE0 : PySem.W.typeIn K (.ref c0) = some (.type "type"))
    (hE0 : PySem.W.hasDictIn K c0 = true)
    (s0_0 : PySem.W.subIn K (.ref c0) (.ref c0) = some true)
    (s1_0 : PySem.W.subIn K (.ref c1) (.ref c0) = some true)
    (s2_0 : PySem.W.subIn K (.ref c2) (.ref c0) = some true)
    (s3_0 : PySem.W.subIn K (.ref c3) (.ref c0) = some true)
    (s4_0 : PySem.W.subIn K (.ref c4) (.ref c0) = some true)
    (s5_0 : PySem.W.subIn K (.ref c5) (.ref c0) = some true)
    (s6_0 : PySem.W.subIn K (.ref c6) (.ref c0) = some true)
    (xE2 : PySem.W.excIn K c2 [.type "ValueError", .type "Exception", .type "BaseException", .type "object"] "ValueError.__new__" = true)
    (kE2 : PySem.W.keepIn K (.ref c2) = true)
    (bE2 : PySem.W.subIn K (.ref c2) (.type "BaseException") = some true)
    (tE2 : PySem.W.typeIn K (.ref c2) = some (.type "type"))
    (hE2 : PySem.W.hasDictIn K c2 = true)
    (s0_2 : PySem.W.subIn K (.ref c0) (.ref c2) = some false)
    (s1_2 : PySem.W.subIn K (.ref c1) (.ref c2) = some false)
    (s2_2 : PySem.W.subIn K (.ref c2) (.ref c2) = some true)
    (s3_2 : PySem.W.subIn K (.ref c3) (.ref c2) = some false)
    (s4_2 : PySem.W.subIn K (.ref c4) (.ref c2) = some false)
    (s5_2 : PySem.W.subIn K (.ref c5) (.ref c2) = some false)
    (s6_2 : PySem.W.subIn K (.ref c6) (.ref c2) = some false)
    (xE4 : PySem.W.excIn K c4 [.type "ValueError", .type "Exception", .type "BaseException", .type "object"] "ValueError.__new__" = true)
    (kE4 : PySem.W.keepIn K (.ref c4) = true)
    (bE4 : PySem.W.subIn K (.ref c4) (.type "BaseException") = some true)
    (tE4 : PySem.W.typeIn K (.ref c4) = some (.type "type"))
    (xE5 : PySem.W.excIn K c5 [.type "ValueError", .type "Exception", .type "BaseException", .type "object"] "ValueError.__new__" = true)
    (kE5 : PySem.W.keepIn K (.ref c5) = true)
    (bE5 : PySem.W.subIn K (.ref c5) (.type "BaseException") = some true)
    (tE5 : PySem.W.typeIn K (.ref c5) = some (.type "type"))
    (pg7 : PySem.W.plainGet K c7 Str.empty = true)
    (hd7 : PySem.W.hasDictIn K c7 = true)
    (po7 : PySem.W.plainOver K c7 = true)
    (sa7 : PySem.W.findIn K (.ref c7) "__setattr__" = some (some (.builtin "object.__setattr__")))
    (nf7_0 : PySem.W.findIn K (.ref c7) "sender" = some none)
    (nf7_1 : PySem.W.findIn K (.ref c7) "title" = some none)
    (nf7_2 : PySem.W.findIn K (.ref c7) "body" = some none)
    (nf7_3 : PySem.W.findIn K (.ref c7) "day" = some none)
    (nf7_4 : PySem.W.findIn K (.ref c7) "answers" = some none)
    (pg8 : PySem.W.plainGet K c8 Str.empty = true)
    (hd8 : PySem.W.hasDictIn K c8 = true)
    (po8 : PySem.W.plainOver K c8 = true)
    (sa8 : PySem.W.findIn K (.ref c8) "__setattr__" = some (some (.builtin "object.__setattr__")))
    (nf8_0 : PySem.W.findIn K (.ref c8) "hand" = some none)
    (nf8_1 : PySem.W.findIn K (.ref c8) "kept" = some none)
    (ea0 : PySem.W.findIn K (.ref c0) "__getattribute__" = some (some (.builtin "BaseException.__getattribute__")))
    (eb0 : PySem.W.findIn K (.ref c0) "__getattr__" = some none)
    (ed0 : PySem.W.findIn K (.ref c0) "__class__" = some (some (.builtin "object.__class__")))
    (eh0 : PySem.W.mroIn K c0 (.type "object") = some true)
    (ea1 : PySem.W.findIn K (.ref c1) "__getattribute__" = some (some (.builtin "BaseException.__getattribute__")))
    (eb1 : PySem.W.findIn K (.ref c1) "__getattr__" = some none)
    (bE1 : PySem.W.subIn K (.ref c1) (.type "BaseException") = some true)
    (tE1 : PySem.W.typeIn K (.ref c1) = some (.type "type"))
    (hE1 : PySem.W.hasDictIn K c1 = true)
    (ed1 : PySem.W.findIn K (.ref c1) "__class__" = some (some (.builtin "object.__class__")))
    (eh1 : PySem.W.mroIn K c1 (.type "object") = some true)
    (ea2 : PySem.W.findIn K (.ref c2) "__getattribute__" = some (some (.builtin "BaseException.__getattribute__")))
    (eb2 : PySem.W.findIn K (.ref c2) "__getattr__" = some none)
    (ed2 : PySem.W.findIn K (.ref c2) "__class__" = some (some (.builtin "object.__class__")))
    (eh2 : PySem.W.mroIn K c2 (.type "object") = some true)
    (ea3 : PySem.W.findIn K (.ref c3) "__getattribute__" = some (some (.builtin "BaseException.__getattribute__")))
    (eb3 : PySem.W.findIn K (.ref c3) "__getattr__" = some none)
    (bE3 : PySem.W.subIn K (.ref c3) (.type "BaseException") = some true)
    (tE3 : PySem.W.typeIn K (.ref c3) = some (.type "type"))
    (hE3 : PySem.W.hasDictIn K c3 = true)
    (ed3 : PySem.W.findIn K (.ref c3) "__class__" = some (some (.builtin "object.__class__")))
    (eh3 : PySem.W.mroIn K c3 (.type "object") = some true)
    (ea4 : PySem.W.findIn K (.ref c4) "__getattribute__" = some (some (.builtin "BaseException.__getattribute__")))
    (eb4 : PySem.W.findIn K (.ref c4) "__getattr__" = some none)
    (hE4 : PySem.W.hasDictIn K c4 = true)
    (ed4 : PySem.W.findIn K (.ref c4) "__class__" = some (some (.builtin "object.__class__")))
    (eh4 : PySem.W.mroIn K c4 (.type "object") = some true)
    (ea5 : PySem.W.findIn K (.ref c5) "__getattribute__" = some (some (.builtin "BaseException.__getattribute__")))
    (eb5 : PySem.W.findIn K (.ref c5) "__getattr__" = some none)
    (hE5 : PySem.W.hasDictIn K c5 = true)
    (ed5 : PySem.W.findIn K (.ref c5) "__class__" = some (some (.builtin "object.__class__")))
    (eh5 : PySem.W.mroIn K c5 (.type "object") = some true)
    (ea6 : PySem.W.findIn K (.ref c6) "__getattribute__" = some (some (.builtin "BaseException.__getattribute__")))
    (eb6 : PySem.W.findIn K (.ref c6) "__getattr__" = some none)
    (bE6 : PySem.W.subIn K (.ref c6) (.type "BaseException") = some true)
    (tE6 : PySem.W.typeIn K (.ref c6) = some (.type "type"))
    (hE6 : PySem.W.hasDictIn K c6 = true)
    (ed6 : PySem.W.findIn K (.ref c6) "__class__" = some (some (.builtin "object.__class__")))
    (eh6 : PySem.W.mroIn K c6 (.type "object") = some true)
    (ee : PySem.W.specialIn K (.builtin "object.__class__") "__get__" = some (some (.builtin "getset_descriptor.__get__")))
    (ef : PySem.W.takesIn K (.builtin "object.__class__") = some true)
    (sk0_2 : PySem.W.subIn K (.ref c0) (.ref c2) = some false)
    (nk0_2 : ¬ c0 = c2)
    (sk1_2 : PySem.W.subIn K (.ref c1) (.ref c2) = some false)
    (nk1_2 : ¬ c1 = c2)
    (sk2_2 : PySem.W.subIn K (.ref c2) (.ref c2) = some true)
    (sk3_2 : PySem.W.subIn K (.ref c3) (.ref c2) = some false)
    (nk3_2 : ¬ c3 = c2)
    (sk4_2 : PySem.W.subIn K (.ref c4) (.ref c2) = some false)
    (nk4_2 : ¬ c4 = c2)
    (sk5_2 : PySem.W.subIn K (.ref c5) (.ref c2) = some false)
    (nk5_2 : ¬ c5 = c2)
    (sk6_2 : PySem.W.subIn K (.ref c6) (.ref c2) = some false)
    (nk6_2 : ¬ c6 = c2)
    (sk0_4 : PySem.W.subIn K (.ref c0) (.ref c4) = some false)
    (nk0_4 : ¬ c0 = c4)
    (sk1_4 : PySem.W.subIn K (.ref c1) (.ref c4) = some false)
    (nk1_4 : ¬ c1 = c4)
    (sk2_4 : PySem.W.subIn K (.ref c2) (.ref c4) = some false)
    (nk2_4 : ¬ c2 = c4)
    (sk3_4 : PySem.W.subIn K (.ref c3) (.ref c4) = some false)
    (nk3_4 : ¬ c3 = c4)
    (sk4_4 : PySem.W.subIn K (.ref c4) (.ref c4) = some true)
    (sk5_4 : PySem.W.subIn K (.ref c5) (.ref c4) = some false)
    (nk5_4 : ¬ c5 = c4)
    (sk6_4 : PySem.W.subIn K (.ref c6) (.ref c4) = some false)
    (nk6_4 : ¬ c6 = c4)
    (sk0_5 : PySem.W.subIn K (.ref c0) (.ref c5) = some false)
    (nk0_5 : ¬ c0 = c5)
    (sk1_5 : PySem.W.subIn K (.ref c1) (.ref c5) = some false)
    (nk1_5 : ¬ c1 = c5)
    (sk2_5 : PySem.W.subIn K (.ref c2) (.ref c5) = some false)
    (nk2_5 : ¬ c2 = c5)
    (sk3_5 : PySem.W.subIn K (.ref c3) (.ref c5) = some false)
    (nk3_5 : ¬ c3 = c5)
    (sk4_5 : PySem.W.subIn K (.ref c4) (.ref c5) = some false)
    (nk4_5 : ¬ c4 = c5)
    (sk5_5 : PySem.W.subIn K (.ref c5) (.ref c5) = some true)
    (sk6_5 : PySem.W.subIn K (.ref c6) (.ref c5) = some false)
    (nk6_5 : ¬ c6 = c5)
    (sk0_6 : PySem.W.subIn K (.ref c0) (.ref c6) = some false)
    (nk0_6 : ¬ c0 = c6)
    (sk1_6 : PySem.W.subIn K (.ref c1) (.ref c6) = some false)
    (nk1_6 : ¬ c1 = c6)
    (sk2_6 : PySem.W.subIn K (.ref c2) (.ref c6) = some false)
    (nk2_6 : ¬ c2 = c6)
    (sk3_6 : PySem.W.subIn K (.ref c3) (.ref c6) = some false)
    (nk3_6 : ¬ c3 = c6)
    (sk4_6 : PySem.W.subIn K (.ref c4) (.ref c6) = some false)
    (nk4_6 : ¬ c4 = c6)
    (sk5_6 : PySem.W.subIn K (.ref c5) (.ref c6) = some false)
    (nk5_6 : ¬ c5 = c6)
    (sk6_6 : PySem.W.subIn K (.ref c6) (.ref c6) = some true)
    (sk0_3 : PySem.W.subIn K (.ref c0) (.ref c3) = some false)
    (nk0_3 : ¬ c0 = c3)
    (sk1_3 : PySem.W.subIn K (.ref c1) (.ref c3) = some false)
    (nk1_3 : ¬ c1 = c3)
    (sk2_3 : PySem.W.subIn K (.ref c2) (.ref c3) = some false)
    (nk2_3 : ¬ c2 = c3)
    (sk3_3 : PySem.W.subIn K (.ref c3) (.ref c3) = some true)
    (sk4_3 : PySem.W.subIn K (.ref c4) (.ref c3) = some false)
    (nk4_3 : ¬ c4 = c3)
    (sk5_3 : PySem.W.subIn K (.ref c5) (.ref c3) = some false)
    (nk5_3 : ¬ c5 = c3)
    (sk6_3 : PySem.W.subIn K (.ref c6) (.ref c3) = some false)
    (nk6_3 : ¬ c6 = c3)
    (sk0_1 : PySem.W.subIn K (.ref c0) (.ref c1) = some false)
    (nk0_1 : ¬ c0 = c1)
    (sk1_1 : PySem.W.subIn K (.ref c1) (.ref c1) = some true)
    (sk2_1 : PySem.W.subIn K (.ref c2) (.ref c1) = some false)
    (nk2_1 : ¬ c2 = c1)
    (sk3_1 : PySem.W.subIn K (.ref c3) (.ref c1) = some false)
    (nk3_1 : ¬ c3 = c1)
    (sk4_1 : PySem.W.subIn K (.ref c4) (.ref c1) = some false)
    (nk4_1 : ¬ c4 = c1)
    (sk5_1 : PySem.W.subIn K (.ref c5) (.ref c1) = some false)
    (nk5_1 : ¬ c5 = c1)
    (sk6_1 : PySem.W.subIn K (.ref c6) (.ref c1) = some false)
    (nk6_1 : ¬ c6 = c1)
    (kv0 : PySem.W.subIn K (.ref c0) (.type "ValueError") = some true)
    (kv1 : PySem.W.subIn K (.ref c1) (.type "ValueError") = some true)
    (kv2 : PySem.W.subIn K (.ref c2) (.type "ValueError") = some true)
    (kv3 : PySem.W.subIn K (.ref c3) (.type "ValueError") = some true)
    (kv4 : PySem.W.subIn K (.ref c4) (.type "ValueError") = some true)
    (kv5 : PySem.W.subIn K (.ref c5) (.type "ValueError") = some true)
    (kv6 : PySem.W.subIn K (.ref c6) (.type "ValueError") = some true)
    (z_ValueError : PySem.W.nsIn K mainGlobals "ValueError" = some none)
    (z_all : PySem.W.nsIn K mainGlobals "all" = some none)
    (z_bool : PySem.W.nsIn K mainGlobals "bool" = some none)
    (z_int : PySem.W.nsIn K mainGlobals "int" = some none)
    (z_isinstance : PySem.W.nsIn K mainGlobals "isinstance" = some none)
    (z_len : PySem.W.nsIn K mainGlobals "len" = some none)
    (z_list : PySem.W.nsIn K mainGlobals "list" = some none)
    (z_max : PySem.W.nsIn K mainGlobals "max" = some none)
    (z_range : PySem.W.nsIn K mainGlobals "range" = some none)
    (z_sorted : PySem.W.nsIn K mainGlobals "sorted" = some none)
    (z_str : PySem.W.nsIn K mainGlobals "str" = some none)
    (z_tuple : PySem.W.nsIn K mainGlobals "tuple" = some none)
    (v_FIGURES : PySem.W.nsIn K mainGlobals "FIGURES" = some (some (.str ("0123456789" : Str) t_FIGURES)))
    (v_MOST_BODY : PySem.W.nsIn K mainGlobals "MOST_BODY" = some (some (.int 400 t_MOST_BODY)))
    (v_MOST_DAY : PySem.W.nsIn K mainGlobals "MOST_DAY" = some (some (.int 9999 t_MOST_DAY)))
    (v_MOST_HAND : PySem.W.nsIn K mainGlobals "MOST_HAND" = some (some (.int 8 t_MOST_HAND)))
    (v_MOST_SIGNS : PySem.W.nsIn K mainGlobals "MOST_SIGNS" = some (some (.int 20 t_MOST_SIGNS)))
    (v_MOST_TITLE : PySem.W.nsIn K mainGlobals "MOST_TITLE" = some (some (.int 60 t_MOST_TITLE)))
    (v_SMALL : PySem.W.nsIn K mainGlobals "SMALL" = some (some (.str ("abcdefghijklmnopqrstuvwxyz" : Str) t_SMALL)))
    (ne8_7 : ¬ c8 = c7)
    : ∃ fd : FuncData, (∀ (s : Shared) (v : Value), BindsTo s fd ⟨[v], []⟩ [("_law_script", v)]) ∧ ∀ base : Heap, K.In base → base.Ns mainGlobals mg → FnOk l.prog w K mg base CX0 10 fa fd ["_law_script"] (sp_top K) := by
  have e := hfa.symm.trans (PySem.W.mg_of X H a36)
  cases e
  have F0 := fun_mk (st := s_is_sign) l0 cc0 k0
  have b0 := F0.binds (ps := ["sign"]) fun _ _ _ _ _ _ us hl => match us, hl with | [_], _ => rfl
  have F1 := fun_mk (st := s_is_word) l1 cc1 k1
  have b1 := F1.binds (ps := ["thing"]) fun _ _ _ _ _ _ us hl => match us, hl with | [_], _ => rfl
  have F2 := fun_mk (st := s_words_of) l2 cc2 k2
  have b2 := F2.binds (ps := ["text"]) fun _ _ _ _ _ _ us hl => match us, hl with | [_], _ => rfl
  have F3 := fun_mk (st := s_each_once) l3 cc3 k3
  have b3 := F3.binds (ps := ["row"]) fun _ _ _ _ _ _ us hl => match us, hl with | [_], _ => rfl
  have F4 := fun_mk (st := s_is_text) l4 cc4 k4
  have b4 := F4.binds (ps := ["thing", "most"]) fun _ _ _ _ _ _ us hl => match us, hl with | [_, _], _ => rfl
  have F5 := fun_mk (st := s_is_day) l5 cc5 k5
  have b5 := F5.binds (ps := ["thing"]) fun _ _ _ _ _ _ us hl => match us, hl with | [_], _ => rfl
  have k6 := F6.kp
  have b6 : Binds K fd6 ["self", "sender", "title", "body", "day", "answers"] [] := by
    obtain ⟨ds, hv, hb⟩ := F6.binds1 (ps := ["self", "sender", "title", "body", "day", "answers"]) 6 1 (by simp) rfl (fun _ _ _ _ _ _ _ us its hl hi => match us, its, hl, hi with | [_, _, _, _, _, _], [_], _, _ => ⟨_, rfl, rfl⟩)
    cases hv; exact hb
  have F7 := fun_mk (st := s_Letter_parts) l7 cc7 k7
  have b7 := F7.binds (ps := ["self"]) fun _ _ _ _ _ _ us hl => match us, hl with | [_], _ => rfl
  have F8 := fun_mk (st := s_Letter_words) l8 cc8 k8
  have b8 := F8.binds (ps := ["self"]) fun _ _ _ _ _ _ us hl => match us, hl with | [_], _ => rfl
  have F9 := fun_mk (st := s_letter_of) l9 cc9 k9
  have b9 := F9.binds (ps := ["thing"]) fun _ _ _ _ _ _ us hl => match us, hl with | [_], _ => rfl
  have F10 := fun_mk (st := s_is_hand) l10 cc10 k10
  have b10 := F10.binds (ps := ["thing"]) fun _ _ _ _ _ _ us hl => match us, hl with | [_], _ => rfl
  have F11 := fun_mk (st := s_is_parts) l11 cc11 k11
  have b11 := F11.binds (ps := ["thing"]) fun _ _ _ _ _ _ us hl => match us, hl with | [_], _ => rfl
  have F12 := fun_mk (st := s_is_deed) l12 cc12 k12
  have b12 := F12.binds (ps := ["thing"]) fun _ _ _ _ _ _ us hl => match us, hl with | [_], _ => rfl
  have F13 := fun_mk (st := s_stamp_of) l13 cc13 k13
  have b13 := F13.binds (ps := ["stamped"]) fun _ _ _ _ _ _ us hl => match us, hl with | [_], _ => rfl
  have F14 := fun_mk (st := s_need_follows) l14 cc14 k14
  have b14 := F14.binds (ps := ["rows", "stamped"]) fun _ _ _ _ _ _ us hl => match us, hl with | [_, _], _ => rfl
  have F15 := fun_mk (st := s_Ledger___init__) l15 cc15 k15
  have b15 := F15.binds (ps := ["self", "hand"]) fun _ _ _ _ _ _ us hl => match us, hl with | [_, _], _ => rfl
  have F16 := fun_mk (st := s_Ledger_latest) l16 cc16 k16
  have b16 := F16.binds (ps := ["self"]) fun _ _ _ _ _ _ us hl => match us, hl with | [_], _ => rfl
  have F17 := fun_mk (st := s_Ledger_do) l17 cc17 k17
  have b17 := F17.binds (ps := ["self", "deed"]) fun _ _ _ _ _ _ us hl => match us, hl with | [_, _], _ => rfl
  have F18 := fun_mk (st := s_Ledger_have) l18 cc18 k18
  have b18 := F18.binds (ps := ["self"]) fun _ _ _ _ _ _ us hl => match us, hl with | [_], _ => rfl
  have k19 := F19.kp
  have b19 : Binds K fd19 ["self", "have"] [] := by
    obtain ⟨ds, hv, hb⟩ := F19.binds1 (ps := ["self", "have"]) 2 1 (by simp) rfl (fun _ _ _ _ _ _ _ us its hl hi => match us, its, hl, hi with | [_, _], [_], _, _ => ⟨_, rfl, rfl⟩)
    cases hv; exact hb
  obtain ⟨ds19_1, bd19_1⟩ := F19.binds1 (ps := ["self", "have"]) 1 0 (by simp) rfl (fun _ _ _ _ _ _ _ us its hl hi => match us, its, hl, hi with | [_], [_], _, _ => ⟨_, rfl, rfl⟩)
  have F20 := fun_mk (st := s_law_begin) l20 cc20 k20
  have b20 := F20.binds (ps := ["_law_script"]) fun _ _ _ _ _ _ us hl => match us, hl with | [_], _ => rfl
  have F21 := fun_mk (st := s_law_next) l21 cc21 k21
  have b21 := F21.binds (ps := ["_law_state"]) fun _ _ _ _ _ _ us hl => match us, hl with | [_], _ => rfl
  have F22 := fun_mk (st := s_law_word) l22 cc22 k22
  have b22 := F22.binds (ps := ["_law_state", "_law_signs", "_law_most"]) fun _ _ _ _ _ _ us hl => match us, hl with | [_, _, _], _ => rfl
  have F23 := fun_mk (st := s_law_any_word) l23 cc23 k23
  have b23 := F23.binds (ps := ["_law_state"]) fun _ _ _ _ _ _ us hl => match us, hl with | [_], _ => rfl
  have F24 := fun_mk (st := s_law_hands) l24 cc24 k24
  have b24 := F24.binds (ps := ["_law_state", "_law_many"]) fun _ _ _ _ _ _ us hl => match us, hl with | [_, _], _ => rfl
  have F25 := fun_mk (st := s_law_parts) l25 cc25 k25
  have b25 := F25.binds (ps := ["_law_state"]) fun _ _ _ _ _ _ us hl => match us, hl with | [_], _ => rfl
  have F26 := fun_mk (st := s_law_deed) l26 cc26 k26
  have b26 := F26.binds (ps := ["_law_state", "_law_names", "_law_hand", "_law_puts"]) fun _ _ _ _ _ _ us hl => match us, hl with | [_, _, _, _], _ => rfl
  have F27 := fun_mk (st := s_law_alone) l27 cc27 k27
  have b27 := F27.binds (ps := ["_law_e", "_law_kind"]) fun _ _ _ _ _ _ us hl => match us, hl with | [_, _], _ => rfl
  have F28 := fun_mk (st := s_law_refused) l28 cc28 k28
  have b28 := F28.binds (ps := ["_law_ledger", "_law_deed_here"]) fun _ _ _ _ _ _ us hl => match us, hl with | [_, _], _ => rfl
  have F29 := fun_mk (st := s_law_done) l29 cc29 k29
  have b29 := F29.binds (ps := ["_law_ledger", "_law_deed_here"]) fun _ _ _ _ _ _ us hl => match us, hl with | [_, _], _ => rfl
  have F30 := fun_mk (st := s_law_no_hand) l30 cc30 k30
  have b30 := F30.binds (ps := ["_law_hand"]) fun _ _ _ _ _ _ us hl => match us, hl with | [_], _ => rfl
  have F31 := fun_mk (st := s_law_no_word) l31 cc31 k31
  have b31 := F31.binds (ps := ["_law_state"]) fun _ _ _ _ _ _ us hl => match us, hl with | [_], _ => rfl
  have F32 := fun_mk (st := s_law_no_parts) l32 cc32 k32
  have b32 := F32.binds (ps := ["_law_state", "_law_parts_here"]) fun _ _ _ _ _ _ us hl => match us, hl with | [_, _], _ => rfl
  have F33 := fun_mk (st := s_law_no_deed) l33 cc33 k33
  have b33 := F33.binds (ps := ["_law_state", "_law_deed_here"]) fun _ _ _ _ _ _ us hl => match us, hl with | [_, _], _ => rfl
  have F34 := fun_mk (st := s_law_odd) l34 cc34 k34
  have b34 := F34.binds (ps := ["_law_state", "_law_hand", "_law_puts"]) fun _ _ _ _ _ _ us hl => match us, hl with | [_, _, _], _ => rfl
  have F35 := fun_mk (st := s_law_looked) l35 cc35 k35
  have b35 := F35.binds (ps := ["_law_ledger", "_law_rows", "_law_way"]) fun _ _ _ _ _ _ us hl => match us, hl with | [_, _, _], _ => rfl
  have F36 := fun_mk (st := s_law) l36 cc36 k36
  have b36 := F36.binds (ps := ["_law_script"]) fun _ _ _ _ _ _ us hl => match us, hl with | [_], _ => rfl
  let G : Gx := ⟨K, fun a => if a = c7 then some 5 else none, fun i => ([c0, c1, c2, c3, c4, c5, c6, c7, c8] : List Addr).getD i 0⟩
  have hfz7 : G.fz (G.cl 7) = some 5 := by show (if c7 = c7 then some 5 else none) = some 5; rw [if_pos rfl]
  have hfz8 : G.fz (G.cl 8) = none := by show (if c8 = c7 then some 5 else none) = none; rw [if_neg ne8_7]
  let T : Txt G mg := {
    a_is_sign := f0,
    fd_is_sign := _,
    F_is_sign := F0,
    b_is_sign := b0,
    kp_is_sign := k0,
    g_is_sign := PySem.W.mg_of X H a0,
    a_is_word := f1,
    fd_is_word := _,
    F_is_word := F1,
    b_is_word := b1,
    kp_is_word := k1,
    g_is_word := PySem.W.mg_of X H a1,
    a_words_of := f2,
    fd_words_of := _,
    F_words_of := F2,
    b_words_of := b2,
    kp_words_of := k2,
    g_words_of := PySem.W.mg_of X H a2,
    a_each_once := f3,
    fd_each_once := _,
    F_each_once := F3,
    b_each_once := b3,
    kp_each_once := k3,
    g_each_once := PySem.W.mg_of X H a3,
    a_is_text := f4,
    fd_is_text := _,
    F_is_text := F4,
    b_is_text := b4,
    kp_is_text := k4,
    g_is_text := PySem.W.mg_of X H a4,
    a_is_day := f5,
    fd_is_day := _,
    F_is_day := F5,
    b_is_day := b5,
    kp_is_day := k5,
    g_is_day := PySem.W.mg_of X H a5,
    a_Letter___init__ := f6,
    fd_Letter___init__ := _,
    F_Letter___init__ := F6,
    b_Letter___init__ := b6,
    kp_Letter___init__ := k6,
    k_Letter := ⟨mk7, a6_7, i6, kc7⟩,
    a_Letter_parts := f7,
    fd_Letter_parts := _,
    F_Letter_parts := F7,
    b_Letter_parts := b7,
    kp_Letter_parts := k7,
    m_Letter_parts := ⟨a7_7, i7, k7⟩,
    a_Letter_words := f8,
    fd_Letter_words := _,
    F_Letter_words := F8,
    b_Letter_words := b8,
    kp_Letter_words := k8,
    m_Letter_words := ⟨a8_7, i8, k8⟩,
    a_letter_of := f9,
    fd_letter_of := _,
    F_letter_of := F9,
    b_letter_of := b9,
    kp_letter_of := k9,
    g_letter_of := PySem.W.mg_of X H a9,
    a_is_hand := f10,
    fd_is_hand := _,
    F_is_hand := F10,
    b_is_hand := b10,
    kp_is_hand := k10,
    g_is_hand := PySem.W.mg_of X H a10,
    a_is_parts := f11,
    fd_is_parts := _,
    F_is_parts := F11,
    b_is_parts := b11,
    kp_is_parts := k11,
    g_is_parts := PySem.W.mg_of X H a11,
    a_is_deed := f12,
    fd_is_deed := _,
    F_is_deed := F12,
    b_is_deed := b12,
    kp_is_deed := k12,
    g_is_deed := PySem.W.mg_of X H a12,
    a_stamp_of := f13,
    fd_stamp_of := _,
    F_stamp_of := F13,
    b_stamp_of := b13,
    kp_stamp_of := k13,
    g_stamp_of := PySem.W.mg_of X H a13,
    a_need_follows := f14,
    fd_need_follows := _,
    F_need_follows := F14,
    b_need_follows := b14,
    kp_need_follows := k14,
    g_need_follows := PySem.W.mg_of X H a14,
    a_Ledger___init__ := f15,
    fd_Ledger___init__ := _,
    F_Ledger___init__ := F15,
    b_Ledger___init__ := b15,
    kp_Ledger___init__ := k15,
    k_Ledger := ⟨mk8, a15_8, i15, kc8⟩,
    a_Ledger_latest := f16,
    fd_Ledger_latest := _,
    F_Ledger_latest := F16,
    b_Ledger_latest := b16,
    kp_Ledger_latest := k16,
    m_Ledger_latest := ⟨a16_8, i16, k16⟩,
    a_Ledger_do := f17,
    fd_Ledger_do := _,
    F_Ledger_do := F17,
    b_Ledger_do := b17,
    kp_Ledger_do := k17,
    m_Ledger_do := ⟨a17_8, i17, k17⟩,
    a_Ledger_have := f18,
    fd_Ledger_have := _,
    F_Ledger_have := F18,
    b_Ledger_have := b18,
    kp_Ledger_have := k18,
    m_Ledger_have := ⟨a18_8, i18, k18⟩,
    a_Ledger_told := f19,
    fd_Ledger_told := _,
    F_Ledger_told := F19,
    b_Ledger_told := b19,
    kp_Ledger_told := k19,
    ds_Ledger_told_1 := ds19_1,
    bd_Ledger_told_1 := bd19_1,
    m_Ledger_told := ⟨a19_8, i19, k19⟩,
    a_law_begin := f20,
    fd_law_begin := _,
    F_law_begin := F20,
    b_law_begin := b20,
    kp_law_begin := k20,
    g_law_begin := PySem.W.mg_of X H a20,
    a_law_next := f21,
    fd_law_next := _,
    F_law_next := F21,
    b_law_next := b21,
    kp_law_next := k21,
    g_law_next := PySem.W.mg_of X H a21,
    a_law_word := f22,
    fd_law_word := _,
    F_law_word := F22,
    b_law_word := b22,
    kp_law_word := k22,
    g_law_word := PySem.W.mg_of X H a22,
    a_law_any_word := f23,
    fd_law_any_word := _,
    F_law_any_word := F23,
    b_law_any_word := b23,
    kp_law_any_word := k23,
    g_law_any_word := PySem.W.mg_of X H a23,
    a_law_hands := f24,
    fd_law_hands := _,
    F_law_hands := F24,
    b_law_hands := b24,
    kp_law_hands := k24,
    g_law_hands := PySem.W.mg_of X H a24,
    a_law_parts := f25,
    fd_law_parts := _,
    F_law_parts := F25,
    b_law_parts := b25,
    kp_law_parts := k25,
    g_law_parts := PySem.W.mg_of X H a25,
    a_law_deed := f26,
    fd_law_deed := _,
    F_law_deed := F26,
    b_law_deed := b26,
    kp_law_deed := k26,
    g_law_deed := PySem.W.mg_of X H a26,
    a_law_alone := f27,
    fd_law_alone := _,
    F_law_alone := F27,
    b_law_alone := b27,
    kp_law_alone := k27,
    g_law_alone := PySem.W.mg_of X H a27,
    a_law_refused := f28,
    fd_law_refused := _,
    F_law_refused := F28,
    b_law_refused := b28,
    kp_law_refused := k28,
    g_law_refused := PySem.W.mg_of X H a28,
    a_law_done := f29,
    fd_law_done := _,
    F_law_done := F29,
    b_law_done := b29,
    kp_law_done := k29,
    g_law_done := PySem.W.mg_of X H a29,
    a_law_no_hand := f30,
    fd_law_no_hand := _,
    F_law_no_hand := F30,
    b_law_no_hand := b30,
    kp_law_no_hand := k30,
    g_law_no_hand := PySem.W.mg_of X H a30,
    a_law_no_word := f31,
    fd_law_no_word := _,
    F_law_no_word := F31,
    b_law_no_word := b31,
    kp_law_no_word := k31,
    g_law_no_word := PySem.W.mg_of X H a31,
    a_law_no_parts := f32,
    fd_law_no_parts := _,
    F_law_no_parts := F32,
    b_law_no_parts := b32,
    kp_law_no_parts := k32,
    g_law_no_parts := PySem.W.mg_of X H a32,
    a_law_no_deed := f33,
    fd_law_no_deed := _,
    F_law_no_deed := F33,
    b_law_no_deed := b33,
    kp_law_no_deed := k33,
    g_law_no_deed := PySem.W.mg_of X H a33,
    a_law_odd := f34,
    fd_law_odd := _,
    F_law_odd := F34,
    b_law_odd := b34,
    kp_law_odd := k34,
    g_law_odd := PySem.W.mg_of X H a34,
    a_law_looked := f35,
    fd_law_looked := _,
    F_law_looked := F35,
    b_law_looked := b35,
    kp_law_looked := k35,
    g_law_looked := PySem.W.mg_of X H a35,
    a_law := fa,
    fd_law := _,
    F_law := F36,
    b_law := b36,
    kp_law := k36,
    g_law := PySem.W.mg_of X H a36,
    g_MailError := PySem.W.mg_of X H ac0,
    ex_MailError := by
          intro i hi
          have hi : i ∈ [0, 1, 2, 3, 4, 5, 6] := by simpa using hi
          simp only [List.mem_cons, List.not_mem_nil, or_false] at hi
          rcases hi with rfl | rfl | rfl | rfl | rfl | rfl | rfl
          · exact PySem.W.exm_ref bE0 hE0 tE0 s0_0
          · exact PySem.W.exm_ref bE0 hE0 tE0 s1_0
          · exact PySem.W.exm_ref bE0 hE0 tE0 s2_0
          · exact PySem.W.exm_ref bE0 hE0 tE0 s3_0
          · exact PySem.W.exm_ref bE0 hE0 tE0 s4_0
          · exact PySem.W.exm_ref bE0 hE0 tE0 s5_0
          · exact PySem.W.exm_ref bE0 hE0 tE0 s6_0,
    g_NoWord := PySem.W.mg_of X H ac1,
    g_NoLetter := PySem.W.mg_of X H ac2,
    x_NoLetter := xE2,
    kp_NoLetter := kE2,
    r_NoLetter := fun {Y} hY => raises_own (by rw [hY]; exact bE2) (by rw [hY]; exact tE2),
    ex_NoLetter := by
          intro i hi
          have hi : i ∈ [0, 1, 2, 3, 4, 5, 6] := by simpa using hi
          simp only [List.mem_cons, List.not_mem_nil, or_false] at hi
          rcases hi with rfl | rfl | rfl | rfl | rfl | rfl | rfl
          · exact PySem.W.exm_ref bE2 hE2 tE2 s0_2
          · exact PySem.W.exm_ref bE2 hE2 tE2 s1_2
          · exact PySem.W.exm_ref bE2 hE2 tE2 s2_2
          · exact PySem.W.exm_ref bE2 hE2 tE2 s3_2
          · exact PySem.W.exm_ref bE2 hE2 tE2 s4_2
          · exact PySem.W.exm_ref bE2 hE2 tE2 s5_2
          · exact PySem.W.exm_ref bE2 hE2 tE2 s6_2,
    g_NoRule := PySem.W.mg_of X H ac3,
    g_NoName := PySem.W.mg_of X H ac4,
    x_NoName := xE4,
    kp_NoName := kE4,
    r_NoName := fun {Y} hY => raises_own (by rw [hY]; exact bE4) (by rw [hY]; exact tE4),
    g_NoParcel := PySem.W.mg_of X H ac5,
    x_NoParcel := xE5,
    kp_NoParcel := kE5,
    r_NoParcel := fun {Y} hY => raises_own (by rw [hY]; exact bE5) (by rw [hY]; exact tE5),
    g_NoRow := PySem.W.mg_of X H ac6,
    g_Letter := PySem.W.mg_of X H ac7,
    cl_Letter := ⟨pg7, hd7, po7, sa7⟩,
    n_Letter_sender := nf7_0,
    n_Letter_title := nf7_1,
    n_Letter_body := nf7_2,
    n_Letter_day := nf7_3,
    n_Letter_answers := nf7_4,
    fz_Letter := hfz7,
    g_Ledger := PySem.W.mg_of X H ac8,
    cl_Ledger := ⟨pg8, hd8, po8, sa8⟩,
    n_Ledger_hand := nf8_0,
    n_Ledger_kept := nf8_1,
    fz_Ledger := hfz8,
    ec_ := by
      intro i hi
      have hi : i ∈ [0, 1, 2, 3, 4, 5, 6] := by simpa using hi
      simp only [List.mem_cons, List.not_mem_nil, or_false] at hi
      rcases hi with rfl | rfl | rfl | rfl | rfl | rfl | rfl
      · exact ⟨ea0, eb0, bE0, hE0, ed0, ee, ef, eh0⟩
      · exact ⟨ea1, eb1, bE1, hE1, ed1, ee, ef, eh1⟩
      · exact ⟨ea2, eb2, bE2, hE2, ed2, ee, ef, eh2⟩
      · exact ⟨ea3, eb3, bE3, hE3, ed3, ee, ef, eh3⟩
      · exact ⟨ea4, eb4, bE4, hE4, ed4, ee, ef, eh4⟩
      · exact ⟨ea5, eb5, bE5, hE5, ed5, ee, ef, eh5⟩
      · exact ⟨ea6, eb6, bE6, hE6, ed6, ee, ef, eh6⟩,
    ki_NoLetter := by
      intro i hi
      have hi : i ∈ [0, 1, 2, 3, 4, 5, 6] := by simpa using hi
      simp only [List.mem_cons, List.not_mem_nil, or_false] at hi
      rcases hi with rfl | rfl | rfl | rfl | rfl | rfl | rfl
      · exact PySem.W.kit_own hE2 tE2 sk0_2 (.inr nk0_2)
      · exact PySem.W.kit_own hE2 tE2 sk1_2 (.inr nk1_2)
      · exact PySem.W.kit_own hE2 tE2 sk2_2 (.inl rfl)
      · exact PySem.W.kit_own hE2 tE2 sk3_2 (.inr nk3_2)
      · exact PySem.W.kit_own hE2 tE2 sk4_2 (.inr nk4_2)
      · exact PySem.W.kit_own hE2 tE2 sk5_2 (.inr nk5_2)
      · exact PySem.W.kit_own hE2 tE2 sk6_2 (.inr nk6_2),
    ki_NoName := by
      intro i hi
      have hi : i ∈ [0, 1, 2, 3, 4, 5, 6] := by simpa using hi
      simp only [List.mem_cons, List.not_mem_nil, or_false] at hi
      rcases hi with rfl | rfl | rfl | rfl | rfl | rfl | rfl
      · exact PySem.W.kit_own hE4 tE4 sk0_4 (.inr nk0_4)
      · exact PySem.W.kit_own hE4 tE4 sk1_4 (.inr nk1_4)
      · exact PySem.W.kit_own hE4 tE4 sk2_4 (.inr nk2_4)
      · exact PySem.W.kit_own hE4 tE4 sk3_4 (.inr nk3_4)
      · exact PySem.W.kit_own hE4 tE4 sk4_4 (.inl rfl)
      · exact PySem.W.kit_own hE4 tE4 sk5_4 (.inr nk5_4)
      · exact PySem.W.kit_own hE4 tE4 sk6_4 (.inr nk6_4),
    ki_NoParcel := by
      intro i hi
      have hi : i ∈ [0, 1, 2, 3, 4, 5, 6] := by simpa using hi
      simp only [List.mem_cons, List.not_mem_nil, or_false] at hi
      rcases hi with rfl | rfl | rfl | rfl | rfl | rfl | rfl
      · exact PySem.W.kit_own hE5 tE5 sk0_5 (.inr nk0_5)
      · exact PySem.W.kit_own hE5 tE5 sk1_5 (.inr nk1_5)
      · exact PySem.W.kit_own hE5 tE5 sk2_5 (.inr nk2_5)
      · exact PySem.W.kit_own hE5 tE5 sk3_5 (.inr nk3_5)
      · exact PySem.W.kit_own hE5 tE5 sk4_5 (.inr nk4_5)
      · exact PySem.W.kit_own hE5 tE5 sk5_5 (.inl rfl)
      · exact PySem.W.kit_own hE5 tE5 sk6_5 (.inr nk6_5),
    ki_NoRow := by
      intro i hi
      have hi : i ∈ [0, 1, 2, 3, 4, 5, 6] := by simpa using hi
      simp only [List.mem_cons, List.not_mem_nil, or_false] at hi
      rcases hi with rfl | rfl | rfl | rfl | rfl | rfl | rfl
      · exact PySem.W.kit_own hE6 tE6 sk0_6 (.inr nk0_6)
      · exact PySem.W.kit_own hE6 tE6 sk1_6 (.inr nk1_6)
      · exact PySem.W.kit_own hE6 tE6 sk2_6 (.inr nk2_6)
      · exact PySem.W.kit_own hE6 tE6 sk3_6 (.inr nk3_6)
      · exact PySem.W.kit_own hE6 tE6 sk4_6 (.inr nk4_6)
      · exact PySem.W.kit_own hE6 tE6 sk5_6 (.inr nk5_6)
      · exact PySem.W.kit_own hE6 tE6 sk6_6 (.inl rfl),
    ki_NoRule := by
      intro i hi
      have hi : i ∈ [0, 1, 2, 3, 4, 5, 6] := by simpa using hi
      simp only [List.mem_cons, List.not_mem_nil, or_false] at hi
      rcases hi with rfl | rfl | rfl | rfl | rfl | rfl | rfl
      · exact PySem.W.kit_own hE3 tE3 sk0_3 (.inr nk0_3)
      · exact PySem.W.kit_own hE3 tE3 sk1_3 (.inr nk1_3)
      · exact PySem.W.kit_own hE3 tE3 sk2_3 (.inr nk2_3)
      · exact PySem.W.kit_own hE3 tE3 sk3_3 (.inl rfl)
      · exact PySem.W.kit_own hE3 tE3 sk4_3 (.inr nk4_3)
      · exact PySem.W.kit_own hE3 tE3 sk5_3 (.inr nk5_3)
      · exact PySem.W.kit_own hE3 tE3 sk6_3 (.inr nk6_3),
    ki_NoWord := by
      intro i hi
      have hi : i ∈ [0, 1, 2, 3, 4, 5, 6] := by simpa using hi
      simp only [List.mem_cons, List.not_mem_nil, or_false] at hi
      rcases hi with rfl | rfl | rfl | rfl | rfl | rfl | rfl
      · exact PySem.W.kit_own hE1 tE1 sk0_1 (.inr nk0_1)
      · exact PySem.W.kit_own hE1 tE1 sk1_1 (.inl rfl)
      · exact PySem.W.kit_own hE1 tE1 sk2_1 (.inr nk2_1)
      · exact PySem.W.kit_own hE1 tE1 sk3_1 (.inr nk3_1)
      · exact PySem.W.kit_own hE1 tE1 sk4_1 (.inr nk4_1)
      · exact PySem.W.kit_own hE1 tE1 sk5_1 (.inr nk5_1)
      · exact PySem.W.kit_own hE1 tE1 sk6_1 (.inr nk6_1),
    ki_ValueError := by
      intro i hi
      have hi : i ∈ [0, 1, 2, 3, 4, 5, 6] := by simpa using hi
      simp only [List.mem_cons, List.not_mem_nil, or_false] at hi
      rcases hi with rfl | rfl | rfl | rfl | rfl | rfl | rfl
      · exact PySem.W.kit_val kv0
      · exact PySem.W.kit_val kv1
      · exact PySem.W.kit_val kv2
      · exact PySem.W.kit_val kv3
      · exact PySem.W.kit_val kv4
      · exact PySem.W.kit_val kv5
      · exact PySem.W.kit_val kv6,
    z_ValueError := PySem.W.mg_none_of X H z_ValueError,
    z_all := PySem.W.mg_none_of X H z_all,
    z_bool := PySem.W.mg_none_of X H z_bool,
    z_int := PySem.W.mg_none_of X H z_int,
    z_isinstance := PySem.W.mg_none_of X H z_isinstance,
    z_len := PySem.W.mg_none_of X H z_len,
    z_list := PySem.W.mg_none_of X H z_list,
    z_max := PySem.W.mg_none_of X H z_max,
    z_range := PySem.W.mg_none_of X H z_range,
    z_sorted := PySem.W.mg_none_of X H z_sorted,
    z_str := PySem.W.mg_none_of X H z_str,
    z_tuple := PySem.W.mg_none_of X H z_tuple,
    t_FIGURES := t_FIGURES,
    c_FIGURES := PySem.W.mg_of X H v_FIGURES,
    t_MOST_BODY := t_MOST_BODY,
    c_MOST_BODY := PySem.W.mg_of X H v_MOST_BODY,
    t_MOST_DAY := t_MOST_DAY,
    c_MOST_DAY := PySem.W.mg_of X H v_MOST_DAY,
    t_MOST_HAND := t_MOST_HAND,
    c_MOST_HAND := PySem.W.mg_of X H v_MOST_HAND,
    t_MOST_SIGNS := t_MOST_SIGNS,
    c_MOST_SIGNS := PySem.W.mg_of X H v_MOST_SIGNS,
    t_MOST_TITLE := t_MOST_TITLE,
    c_MOST_TITLE := PySem.W.mg_of X H v_MOST_TITLE,
    t_SMALL := t_SMALL,
    c_SMALL := PySem.W.mg_of X H v_SMALL }
  refine ⟨T.fd_law, fun s v => .of_eq rfl, fun base _ _ => ((ok_law T : FnOk l.prog w K mg base CX0 10 fa T.fd_law ["_law_script"] (sp_law G)).imp fun vs H Q E hh => ?_)⟩
  obtain ⟨a, ns, rfl, hs, ho, hl, hq⟩ := hh
  exact ⟨.ref a, ⟨ns⟩, star [], rfl, im_of_only (G := G) ho hs, Sep.unstar (M := []) (Sep.nil H), R.wp_of (law_ok ⟨ns⟩ hl) fun H' _ => hq H'⟩
theorem says_mk {l : PySem.W.OpenLaw} {w : World} {K : PySem.W.Frag} {h : Heap} {mg : Str → Option Value} {fa : Addr} (X : K.In h) (H : h.Ns mainGlobals mg) (hfa : mg "law" = some (.ref fa)) (c : obsK K = valK)
    : ∃ fd : FuncData, (∀ (s : Shared) (v : Value), BindsTo s fd ⟨[v], []⟩ [("_law_script", v)]) ∧ ∀ base : Heap, K.In base → base.Ns mainGlobals mg → FnOk l.prog w K mg base CX0 10 fa fd ["_law_script"] (sp_top K) := by
  have hb : ((fb0 K).all id && (fb1 K).all id && (fb2 K).all id && (fb3 K).all id && (fb4 K).all id && (fb5 K).all id && (fb6 K).all id) = true := congrArg (fun z : ObT => z.1) c
  simp only [Bool.and_eq_true] at hb
  obtain ⟨⟨⟨⟨⟨⟨g0, g1⟩, g2⟩, g3⟩, g4⟩, g5⟩, g6⟩ := hb
  have cD0 : obsD dfns0 K = valD dfns0 := congrArg (fun z : ObT => z.2) c
  have ac0 : PySem.W.nsIn K mainGlobals "MailError" = some (some (.ref 31)) := of_decide_eq_true (fxM g0 0 rfl)
  have ac1 : PySem.W.nsIn K mainGlobals "NoWord" = some (some (.ref 44)) := of_decide_eq_true (fxM g0 1 rfl)
  have ac2 : PySem.W.nsIn K mainGlobals "NoLetter" = some (some (.ref 56)) := of_decide_eq_true (fxM g0 2 rfl)
  have ac3 : PySem.W.nsIn K mainGlobals "NoRule" = some (some (.ref 76)) := of_decide_eq_true (fxM g0 3 rfl)
  have ac4 : PySem.W.nsIn K mainGlobals "NoName" = some (some (.ref 88)) := of_decide_eq_true (fxM g0 4 rfl)
  have ac5 : PySem.W.nsIn K mainGlobals "NoParcel" = some (some (.ref 100)) := of_decide_eq_true (fxM g0 5 rfl)
  have ac6 : PySem.W.nsIn K mainGlobals "NoRow" = some (some (.ref 112)) := of_decide_eq_true (fxM g0 6 rfl)
  have ac7 : PySem.W.nsIn K mainGlobals "Letter" = some (some (.ref 193)) := of_decide_eq_true (fxM g0 7 rfl)
  have ac8 : PySem.W.nsIn K mainGlobals "Ledger" = some (some (.ref 293)) := of_decide_eq_true (fxM g0 8 rfl)
  have a0 : PySem.W.nsIn K mainGlobals "is_sign" = some (some (.ref 121)) := of_decide_eq_true (fxM g0 9 rfl)
  have a1 : PySem.W.nsIn K mainGlobals "is_word" = some (some (.ref 126)) := of_decide_eq_true (fxM g0 10 rfl)
  have a2 : PySem.W.nsIn K mainGlobals "words_of" = some (some (.ref 133)) := of_decide_eq_true (fxM g0 11 rfl)
  have a3 : PySem.W.nsIn K mainGlobals "each_once" = some (some (.ref 140)) := of_decide_eq_true (fxM g0 12 rfl)
  have a4 : PySem.W.nsIn K mainGlobals "is_text" = some (some (.ref 147)) := of_decide_eq_true (fxM g0 13 rfl)
  have a5 : PySem.W.nsIn K mainGlobals "is_day" = some (some (.ref 154)) := of_decide_eq_true (fxM g0 14 rfl)
  have a6_7 : PySem.W.findIn K (.ref 193) "__init__" = some (some (.ref 169)) := of_decide_eq_true (fxM g0 15 rfl)
  have i6 : PySem.W.isFn K (.ref 169) = true := of_decide_eq_true (fxM g0 16 rfl)
  have mk7 : PySem.W.makesIn K 193 = true := of_decide_eq_true (fxM g0 17 rfl)
  have kc7 : PySem.W.keepIn K (.ref 193) = true := of_decide_eq_true (fxM g0 18 rfl)
  have a7_7 : PySem.W.findIn K (.ref 193) "parts" = some (some (.ref 176)) := of_decide_eq_true (fxM g0 19 rfl)
  have i7 : PySem.W.isFn K (.ref 176) = true := of_decide_eq_true (fxM g0 20 rfl)
  have a8_7 : PySem.W.findIn K (.ref 193) "words" = some (some (.ref 190)) := of_decide_eq_true (fxM g0 21 rfl)
  have i8 : PySem.W.isFn K (.ref 190) = true := of_decide_eq_true (fxM g0 22 rfl)
  have a9 : PySem.W.nsIn K mainGlobals "letter_of" = some (some (.ref 204)) := of_decide_eq_true (fxM g0 23 rfl)
  have a10 : PySem.W.nsIn K mainGlobals "is_hand" = some (some (.ref 209)) := of_decide_eq_true (fxM g0 24 rfl)
  have a11 : PySem.W.nsIn K mainGlobals "is_parts" = some (some (.ref 216)) := of_decide_eq_true (fxM g0 25 rfl)
  have a12 : PySem.W.nsIn K mainGlobals "is_deed" = some (some (.ref 223)) := of_decide_eq_true (fxM g0 26 rfl)
  have a13 : PySem.W.nsIn K mainGlobals "stamp_of" = some (some (.ref 230)) := of_decide_eq_true (fxM g0 27 rfl)
  have a14 : PySem.W.nsIn K mainGlobals "need_follows" = some (some (.ref 235)) := of_decide_eq_true (fxM g0 28 rfl)
  have a15_8 : PySem.W.findIn K (.ref 293) "__init__" = some (some (.ref 249)) := of_decide_eq_true (fxM g0 29 rfl)
  have i15 : PySem.W.isFn K (.ref 249) = true := of_decide_eq_true (fxM g0 30 rfl)
  have mk8 : PySem.W.makesIn K 293 = true := of_decide_eq_true (fxM g0 31 rfl)
  have kc8 : PySem.W.keepIn K (.ref 293) = true := of_decide_eq_true (fxM g0 32 rfl)
  have a16_8 : PySem.W.findIn K (.ref 293) "latest" = some (some (.ref 254)) := of_decide_eq_true (fxM g0 33 rfl)
  have i16 : PySem.W.isFn K (.ref 254) = true := of_decide_eq_true (fxM g0 34 rfl)
  have a17_8 : PySem.W.findIn K (.ref 293) "do" = some (some (.ref 261)) := of_decide_eq_true (fxM g0 35 rfl)
  have i17 : PySem.W.isFn K (.ref 261) = true := of_decide_eq_true (fxM g0 36 rfl)
  have a18_8 : PySem.W.findIn K (.ref 293) "have" = some (some (.ref 268)) := of_decide_eq_true (fxM g0 37 rfl)
  have i18 : PySem.W.isFn K (.ref 268) = true := of_decide_eq_true (fxM g0 38 rfl)
  have a19_8 : PySem.W.findIn K (.ref 293) "told" = some (some (.ref 276)) := of_decide_eq_true (fxM g0 39 rfl)
  have i19 : PySem.W.isFn K (.ref 276) = true := of_decide_eq_true (fxM g1 0 rfl)
  have a20 : PySem.W.nsIn K mainGlobals "_law_begin" = some (some (.ref 304)) := of_decide_eq_true (fxM g1 1 rfl)
  have a21 : PySem.W.nsIn K mainGlobals "_law_next" = some (some (.ref 311)) := of_decide_eq_true (fxM g1 2 rfl)
  have a22 : PySem.W.nsIn K mainGlobals "_law_word" = some (some (.ref 316)) := of_decide_eq_true (fxM g1 3 rfl)
  have a23 : PySem.W.nsIn K mainGlobals "_law_any_word" = some (some (.ref 323)) := of_decide_eq_true (fxM g1 4 rfl)
  have a24 : PySem.W.nsIn K mainGlobals "_law_hands" = some (some (.ref 330)) := of_decide_eq_true (fxM g1 5 rfl)
  have a25 : PySem.W.nsIn K mainGlobals "_law_parts" = some (some (.ref 337)) := of_decide_eq_true (fxM g1 6 rfl)
  have a26 : PySem.W.nsIn K mainGlobals "_law_deed" = some (some (.ref 344)) := of_decide_eq_true (fxM g1 7 rfl)
  have a27 : PySem.W.nsIn K mainGlobals "_law_alone" = some (some (.ref 351)) := of_decide_eq_true (fxM g1 8 rfl)
  have a28 : PySem.W.nsIn K mainGlobals "_law_refused" = some (some (.ref 358)) := of_decide_eq_true (fxM g1 9 rfl)
  have a29 : PySem.W.nsIn K mainGlobals "_law_done" = some (some (.ref 365)) := of_decide_eq_true (fxM g1 10 rfl)
  have a30 : PySem.W.nsIn K mainGlobals "_law_no_hand" = some (some (.ref 372)) := of_decide_eq_true (fxM g1 11 rfl)
  have a31 : PySem.W.nsIn K mainGlobals "_law_no_word" = some (some (.ref 379)) := of_decide_eq_true (fxM g1 12 rfl)
  have a32 : PySem.W.nsIn K mainGlobals "_law_no_parts" = some (some (.ref 386)) := of_decide_eq_true (fxM g1 13 rfl)
  have a33 : PySem.W.nsIn K mainGlobals "_law_no_deed" = some (some (.ref 393)) := of_decide_eq_true (fxM g1 14 rfl)
  have a34 : PySem.W.nsIn K mainGlobals "_law_odd" = some (some (.ref 400)) := of_decide_eq_true (fxM g1 15 rfl)
  have a35 : PySem.W.nsIn K mainGlobals "_law_looked" = some (some (.ref 407)) := of_decide_eq_true (fxM g1 16 rfl)
  have a36 : PySem.W.nsIn K mainGlobals "law" = some (some (.ref 412)) := of_decide_eq_true (fxM g1 17 rfl)
  have bE0 : PySem.W.subIn K (.ref 31) (.type "BaseException") = some true := of_decide_eq_true (fxM g1 18 rfl)
  have tE0 : PySem.W.typeIn K (.ref 31) = some (.type "type") := of_decide_eq_true (fxM g1 19 rfl)
  have hE0 : PySem.W.hasDictIn K 31 = true := of_decide_eq_true (fxM g1 20 rfl)
  have s0_0 : PySem.W.subIn K (.ref 31) (.ref 31) = some true := of_decide_eq_true (fxM g1 21 rfl)
  have s1_0 : PySem.W.subIn K (.ref 44) (.ref 31) = some true := of_decide_eq_true (fxM g1 22 rfl)
  have s2_0 : PySem.W.subIn K (.ref 56) (.ref 31) = some true := of_decide_eq_true (fxM g1 23 rfl)
  have s3_0 : PySem.W.subIn K (.ref 76) (.ref 31) = some true := of_decide_eq_true (fxM g1 24 rfl)
  have s4_0 : PySem.W.subIn K (.ref 88) (.ref 31) = some true := of_decide_eq_true (fxM g1 25 rfl)
  have s5_0 : PySem.W.subIn K (.ref 100) (.ref 31) = some true := of_decide_eq_true (fxM g1 26 rfl)
  have s6_0 : PySem.W.subIn K (.ref 112) (.ref 31) = some true := of_decide_eq_true (fxM g1 27 rfl)
  have xE2 : PySem.W.excIn K 56 [.type "ValueError", .type "Exception", .type "BaseException", .type "object"] "ValueError.__new__" = true := of_decide_eq_true (fxM g1 28 rfl)
  have kE2 : PySem.W.keepIn K (.ref 56) = true := of_decide_eq_true (fxM g1 29 rfl)
  have bE2 : PySem.W.subIn K (.ref 56) (.type "BaseException") = some true := of_decide_eq_true (fxM g1 30 rfl)
  have tE2 : PySem.W.typeIn K (.ref 56) = some (.type "type") := of_decide_eq_true (fxM g1 31 rfl)
  have hE2 : PySem.W.hasDictIn K 56 = true := of_decide_eq_true (fxM g1 32 rfl)
  have s0_2 : PySem.W.subIn K (.ref 31) (.ref 56) = some false := of_decide_eq_true (fxM g1 33 rfl)
  have s1_2 : PySem.W.subIn K (.ref 44) (.ref 56) = some false := of_decide_eq_true (fxM g1 34 rfl)
  have s2_2 : PySem.W.subIn K (.ref 56) (.ref 56) = some true := of_decide_eq_true (fxM g1 35 rfl)
  have s3_2 : PySem.W.subIn K (.ref 76) (.ref 56) = some false := of_decide_eq_true (fxM g1 36 rfl)
  have s4_2 : PySem.W.subIn K (.ref 88) (.ref 56) = some false := of_decide_eq_true (fxM g1 37 rfl)
  have s5_2 : PySem.W.subIn K (.ref 100) (.ref 56) = some false := of_decide_eq_true (fxM g1 38 rfl)
  have s6_2 : PySem.W.subIn K (.ref 112) (.ref 56) = some false := of_decide_eq_true (fxM g1 39 rfl)
  have xE4 : PySem.W.excIn K 88 [.type "ValueError", .type "Exception", .type "BaseException", .type "object"] "ValueError.__new__" = true := of_decide_eq_true (fxM g2 0 rfl)
  have kE4 : PySem.W.keepIn K (.ref 88) = true := of_decide_eq_true (fxM g2 1 rfl)
  have bE4 : PySem.W.subIn K (.ref 88) (.type "BaseException") = some true := of_decide_eq_true (fxM g2 2 rfl)
  have tE4 : PySem.W.typeIn K (.ref 88) = some (.type "type") := of_decide_eq_true (fxM g2 3 rfl)
  have xE5 : PySem.W.excIn K 100 [.type "ValueError", .type "Exception", .type "BaseException", .type "object"] "ValueError.__new__" = true := of_decide_eq_true (fxM g2 4 rfl)
  have kE5 : PySem.W.keepIn K (.ref 100) = true := of_decide_eq_true (fxM g2 5 rfl)
  have bE5 : PySem.W.subIn K (.ref 100) (.type "BaseException") = some true := of_decide_eq_true (fxM g2 6 rfl)
  have tE5 : PySem.W.typeIn K (.ref 100) = some (.type "type") := of_decide_eq_true (fxM g2 7 rfl)
  have pg7 : PySem.W.plainGet K 193 Str.empty = true := of_decide_eq_true (fxM g2 8 rfl)
  have hd7 : PySem.W.hasDictIn K 193 = true := of_decide_eq_true (fxM g2 9 rfl)
  have po7 : PySem.W.plainOver K 193 = true := of_decide_eq_true (fxM g2 10 rfl)
  have sa7 : PySem.W.findIn K (.ref 193) "__setattr__" = some (some (.builtin "object.__setattr__")) := of_decide_eq_true (fxM g2 11 rfl)
  have nf7_0 : PySem.W.findIn K (.ref 193) "sender" = some none := of_decide_eq_true (fxM g2 12 rfl)
  have nf7_1 : PySem.W.findIn K (.ref 193) "title" = some none := of_decide_eq_true (fxM g2 13 rfl)
  have nf7_2 : PySem.W.findIn K (.ref 193) "body" = some none := of_decide_eq_true (fxM g2 14 rfl)
  have nf7_3 : PySem.W.findIn K (.ref 193) "day" = some none := of_decide_eq_true (fxM g2 15 rfl)
  have nf7_4 : PySem.W.findIn K (.ref 193) "answers" = some none := of_decide_eq_true (fxM g2 16 rfl)
  have pg8 : PySem.W.plainGet K 293 Str.empty = true := of_decide_eq_true (fxM g2 17 rfl)
  have hd8 : PySem.W.hasDictIn K 293 = true := of_decide_eq_true (fxM g2 18 rfl)
  have po8 : PySem.W.plainOver K 293 = true := of_decide_eq_true (fxM g2 19 rfl)
  have sa8 : PySem.W.findIn K (.ref 293) "__setattr__" = some (some (.builtin "object.__setattr__")) := of_decide_eq_true (fxM g2 20 rfl)
  have nf8_0 : PySem.W.findIn K (.ref 293) "hand" = some none := of_decide_eq_true (fxM g2 21 rfl)
  have nf8_1 : PySem.W.findIn K (.ref 293) "kept" = some none := of_decide_eq_true (fxM g2 22 rfl)
  have ea0 : PySem.W.findIn K (.ref 31) "__getattribute__" = some (some (.builtin "BaseException.__getattribute__")) := of_decide_eq_true (fxM g2 23 rfl)
  have eb0 : PySem.W.findIn K (.ref 31) "__getattr__" = some none := of_decide_eq_true (fxM g2 24 rfl)
  have ed0 : PySem.W.findIn K (.ref 31) "__class__" = some (some (.builtin "object.__class__")) := of_decide_eq_true (fxM g2 25 rfl)
  have eh0 : PySem.W.mroIn K 31 (.type "object") = some true := of_decide_eq_true (fxM g2 26 rfl)
  have ea1 : PySem.W.findIn K (.ref 44) "__getattribute__" = some (some (.builtin "BaseException.__getattribute__")) := of_decide_eq_true (fxM g2 27 rfl)
  have eb1 : PySem.W.findIn K (.ref 44) "__getattr__" = some none := of_decide_eq_true (fxM g2 28 rfl)
  have bE1 : PySem.W.subIn K (.ref 44) (.type "BaseException") = some true := of_decide_eq_true (fxM g2 29 rfl)
  have tE1 : PySem.W.typeIn K (.ref 44) = some (.type "type") := of_decide_eq_true (fxM g2 30 rfl)
  have hE1 : PySem.W.hasDictIn K 44 = true := of_decide_eq_true (fxM g2 31 rfl)
  have ed1 : PySem.W.findIn K (.ref 44) "__class__" = some (some (.builtin "object.__class__")) := of_decide_eq_true (fxM g2 32 rfl)
  have eh1 : PySem.W.mroIn K 44 (.type "object") = some true := of_decide_eq_true (fxM g2 33 rfl)
  have ea2 : PySem.W.findIn K (.ref 56) "__getattribute__" = some (some (.builtin "BaseException.__getattribute__")) := of_decide_eq_true (fxM g2 34 rfl)
  have eb2 : PySem.W.findIn K (.ref 56) "__getattr__" = some none := of_decide_eq_true (fxM g2 35 rfl)
  have ed2 : PySem.W.findIn K (.ref 56) "__class__" = some (some (.builtin "object.__class__")) := of_decide_eq_true (fxM g2 36 rfl)
  have eh2 : PySem.W.mroIn K 56 (.type "object") = some true := of_decide_eq_true (fxM g2 37 rfl)
  have ea3 : PySem.W.findIn K (.ref 76) "__getattribute__" = some (some (.builtin "BaseException.__getattribute__")) := of_decide_eq_true (fxM g2 38 rfl)
  have eb3 : PySem.W.findIn K (.ref 76) "__getattr__" = some none := of_decide_eq_true (fxM g2 39 rfl)
  have bE3 : PySem.W.subIn K (.ref 76) (.type "BaseException") = some true := of_decide_eq_true (fxM g3 0 rfl)
  have tE3 : PySem.W.typeIn K (.ref 76) = some (.type "type") := of_decide_eq_true (fxM g3 1 rfl)
  have hE3 : PySem.W.hasDictIn K 76 = true := of_decide_eq_true (fxM g3 2 rfl)
  have ed3 : PySem.W.findIn K (.ref 76) "__class__" = some (some (.builtin "object.__class__")) := of_decide_eq_true (fxM g3 3 rfl)
  have eh3 : PySem.W.mroIn K 76 (.type "object") = some true := of_decide_eq_true (fxM g3 4 rfl)
  have ea4 : PySem.W.findIn K (.ref 88) "__getattribute__" = some (some (.builtin "BaseException.__getattribute__")) := of_decide_eq_true (fxM g3 5 rfl)
  have eb4 : PySem.W.findIn K (.ref 88) "__getattr__" = some none := of_decide_eq_true (fxM g3 6 rfl)
  have hE4 : PySem.W.hasDictIn K 88 = true := of_decide_eq_true (fxM g3 7 rfl)
  have ed4 : PySem.W.findIn K (.ref 88) "__class__" = some (some (.builtin "object.__class__")) := of_decide_eq_true (fxM g3 8 rfl)
  have eh4 : PySem.W.mroIn K 88 (.type "object") = some true := of_decide_eq_true (fxM g3 9 rfl)
  have ea5 : PySem.W.findIn K (.ref 100) "__getattribute__" = some (some (.builtin "BaseException.__getattribute__")) := of_decide_eq_true (fxM g3 10 rfl)
  have eb5 : PySem.W.findIn K (.ref 100) "__getattr__" = some none := of_decide_eq_true (fxM g3 11 rfl)
  have hE5 : PySem.W.hasDictIn K 100 = true := of_decide_eq_true (fxM g3 12 rfl)
  have ed5 : PySem.W.findIn K (.ref 100) "__class__" = some (some (.builtin "object.__class__")) := of_decide_eq_true (fxM g3 13 rfl)
  have eh5 : PySem.W.mroIn K 100 (.type "object") = some true := of_decide_eq_true (fxM g3 14 rfl)
  have ea6 : PySem.W.findIn K (.ref 112) "__getattribute__" = some (some (.builtin "BaseException.__getattribute__")) := of_decide_eq_true (fxM g3 15 rfl)
  have eb6 : PySem.W.findIn K (.ref 112) "__getattr__" = some none := of_decide_eq_true (fxM g3 16 rfl)
  have bE6 : PySem.W.subIn K (.ref 112) (.type "BaseException") = some true := of_decide_eq_true (fxM g3 17 rfl)
  have tE6 : PySem.W.typeIn K (.ref 112) = some (.type "type") := of_decide_eq_true (fxM g3 18 rfl)
  have hE6 : PySem.W.hasDictIn K 112 = true := of_decide_eq_true (fxM g3 19 rfl)
  have ed6 : PySem.W.findIn K (.ref 112) "__class__" = some (some (.builtin "object.__class__")) := of_decide_eq_true (fxM g3 20 rfl)
  have eh6 : PySem.W.mroIn K 112 (.type "object") = some true := of_decide_eq_true (fxM g3 21 rfl)
  have ee : PySem.W.specialIn K (.builtin "object.__class__") "__get__" = some (some (.builtin "getset_descriptor.__get__")) := of_decide_eq_true (fxM g3 22 rfl)
  have ef : PySem.W.takesIn K (.builtin "object.__class__") = some true := of_decide_eq_true (fxM g3 23 rfl)
  have sk0_2 : PySem.W.subIn K (.ref 31) (.ref 56) = some false := of_decide_eq_true (fxM g3 24 rfl)
  have nk0_2 : ¬ 31 = 56 := of_decide_eq_true (fxM g3 25 rfl)
  have sk1_2 : PySem.W.subIn K (.ref 44) (.ref 56) = some false := of_decide_eq_true (fxM g3 26 rfl)
  have nk1_2 : ¬ 44 = 56 := of_decide_eq_true (fxM g3 27 rfl)
  have sk2_2 : PySem.W.subIn K (.ref 56) (.ref 56) = some true := of_decide_eq_true (fxM g3 28 rfl)
  have sk3_2 : PySem.W.subIn K (.ref 76) (.ref 56) = some false := of_decide_eq_true (fxM g3 29 rfl)
  have nk3_2 : ¬ 76 = 56 := of_decide_eq_true (fxM g3 30 rfl)
  have sk4_2 : PySem.W.subIn K (.ref 88) (.ref 56) = some false := of_decide_eq_true (fxM g3 31 rfl)
  have nk4_2 : ¬ 88 = 56 := of_decide_eq_true (fxM g3 32 rfl)
  have sk5_2 : PySem.W.subIn K (.ref 100) (.ref 56) = some false := of_decide_eq_true (fxM g3 33 rfl)
  have nk5_2 : ¬ 100 = 56 := of_decide_eq_true (fxM g3 34 rfl)
  have sk6_2 : PySem.W.subIn K (.ref 112) (.ref 56) = some false := of_decide_eq_true (fxM g3 35 rfl)
  have nk6_2 : ¬ 112 = 56 := of_decide_eq_true (fxM g3 36 rfl)
  have sk0_4 : PySem.W.subIn K (.ref 31) (.ref 88) = some false := of_decide_eq_true (fxM g3 37 rfl)
  have nk0_4 : ¬ 31 = 88 := of_decide_eq_true (fxM g3 38 rfl)
  have sk1_4 : PySem.W.subIn K (.ref 44) (.ref 88) = some false := of_decide_eq_true (fxM g3 39 rfl)
  have nk1_4 : ¬ 44 = 88 := of_decide_eq_true (fxM g4 0 rfl)
  have sk2_4 : PySem.W.subIn K (.ref 56) (.ref 88) = some false := of_decide_eq_true (fxM g4 1 rfl)
  have nk2_4 : ¬ 56 = 88 := of_decide_eq_true (fxM g4 2 rfl)
  have sk3_4 : PySem.W.subIn K (.ref 76) (.ref 88) = some false := of_decide_eq_true (fxM g4 3 rfl)
  have nk3_4 : ¬ 76 = 88 := of_decide_eq_true (fxM g4 4 rfl)
  have sk4_4 : PySem.W.subIn K (.ref 88) (.ref 88) = some true := of_decide_eq_true (fxM g4 5 rfl)
  have sk5_4 : PySem.W.subIn K (.ref 100) (.ref 88) = some false := of_decide_eq_true (fxM g4 6 rfl)
  have nk5_4 : ¬ 100 = 88 := of_decide_eq_true (fxM g4 7 rfl)
  have sk6_4 : PySem.W.subIn K (.ref 112) (.ref 88) = some false := of_decide_eq_true (fxM g4 8 rfl)
  have nk6_4 : ¬ 112 = 88 := of_decide_eq_true (fxM g4 9 rfl)
  have sk0_5 : PySem.W.subIn K (.ref 31) (.ref 100) = some false := of_decide_eq_true (fxM g4 10 rfl)
  have nk0_5 : ¬ 31 = 100 := of_decide_eq_true (fxM g4 11 rfl)
  have sk1_5 : PySem.W.subIn K (.ref 44) (.ref 100) = some false := of_decide_eq_true (fxM g4 12 rfl)
  have nk1_5 : ¬ 44 = 100 := of_decide_eq_true (fxM g4 13 rfl)
  have sk2_5 : PySem.W.subIn K (.ref 56) (.ref 100) = some false := of_decide_eq_true (fxM g4 14 rfl)
  have nk2_5 : ¬ 56 = 100 := of_decide_eq_true (fxM g4 15 rfl)
  have sk3_5 : PySem.W.subIn K (.ref 76) (.ref 100) = some false := of_decide_eq_true (fxM g4 16 rfl)
  have nk3_5 : ¬ 76 = 100 := of_decide_eq_true (fxM g4 17 rfl)
  have sk4_5 : PySem.W.subIn K (.ref 88) (.ref 100) = some false := of_decide_eq_true (fxM g4 18 rfl)
  have nk4_5 : ¬ 88 = 100 := of_decide_eq_true (fxM g4 19 rfl)
  have sk5_5 : PySem.W.subIn K (.ref 100) (.ref 100) = some true := of_decide_eq_true (fxM g4 20 rfl)
  have sk6_5 : PySem.W.subIn K (.ref 112) (.ref 100) = some false := of_decide_eq_true (fxM g4 21 rfl)
  have nk6_5 : ¬ 112 = 100 := of_decide_eq_true (fxM g4 22 rfl)
  have sk0_6 : PySem.W.subIn K (.ref 31) (.ref 112) = some false := of_decide_eq_true (fxM g4 23 rfl)
  have nk0_6 : ¬ 31 = 112 := of_decide_eq_true (fxM g4 24 rfl)
  have sk1_6 : PySem.W.subIn K (.ref 44) (.ref 112) = some false := of_decide_eq_true (fxM g4 25 rfl)
  have nk1_6 : ¬ 44 = 112 := of_decide_eq_true (fxM g4 26 rfl)
  have sk2_6 : PySem.W.subIn K (.ref 56) (.ref 112) = some false := of_decide_eq_true (fxM g4 27 rfl)
  have nk2_6 : ¬ 56 = 112 := of_decide_eq_true (fxM g4 28 rfl)
  have sk3_6 : PySem.W.subIn K (.ref 76) (.ref 112) = some false := of_decide_eq_true (fxM g4 29 rfl)
  have nk3_6 : ¬ 76 = 112 := of_decide_eq_true (fxM g4 30 rfl)
  have sk4_6 : PySem.W.subIn K (.ref 88) (.ref 112) = some false := of_decide_eq_true (fxM g4 31 rfl)
  have nk4_6 : ¬ 88 = 112 := of_decide_eq_true (fxM g4 32 rfl)
  have sk5_6 : PySem.W.subIn K (.ref 100) (.ref 112) = some false := of_decide_eq_true (fxM g4 33 rfl)
  have nk5_6 : ¬ 100 = 112 := of_decide_eq_true (fxM g4 34 rfl)
  have sk6_6 : PySem.W.subIn K (.ref 112) (.ref 112) = some true := of_decide_eq_true (fxM g4 35 rfl)
  have sk0_3 : PySem.W.subIn K (.ref 31) (.ref 76) = some false := of_decide_eq_true (fxM g4 36 rfl)
  have nk0_3 : ¬ 31 = 76 := of_decide_eq_true (fxM g4 37 rfl)
  have sk1_3 : PySem.W.subIn K (.ref 44) (.ref 76) = some false := of_decide_eq_true (fxM g4 38 rfl)
  have nk1_3 : ¬ 44 = 76 := of_decide_eq_true (fxM g4 39 rfl)
  have sk2_3 : PySem.W.subIn K (.ref 56) (.ref 76) = some false := of_decide_eq_true (fxM g5 0 rfl)
  have nk2_3 : ¬ 56 = 76 := of_decide_eq_true (fxM g5 1 rfl)
  have sk3_3 : PySem.W.subIn K (.ref 76) (.ref 76) = some true := of_decide_eq_true (fxM g5 2 rfl)
  have sk4_3 : PySem.W.subIn K (.ref 88) (.ref 76) = some false := of_decide_eq_true (fxM g5 3 rfl)
  have nk4_3 : ¬ 88 = 76 := of_decide_eq_true (fxM g5 4 rfl)
  have sk5_3 : PySem.W.subIn K (.ref 100) (.ref 76) = some false := of_decide_eq_true (fxM g5 5 rfl)
  have nk5_3 : ¬ 100 = 76 := of_decide_eq_true (fxM g5 6 rfl)
  have sk6_3 : PySem.W.subIn K (.ref 112) (.ref 76) = some false := of_decide_eq_true (fxM g5 7 rfl)
  have nk6_3 : ¬ 112 = 76 := of_decide_eq_true (fxM g5 8 rfl)
  have sk0_1 : PySem.W.subIn K (.ref 31) (.ref 44) = some false := of_decide_eq_true (fxM g5 9 rfl)
  have nk0_1 : ¬ 31 = 44 := of_decide_eq_true (fxM g5 10 rfl)
  have sk1_1 : PySem.W.subIn K (.ref 44) (.ref 44) = some true := of_decide_eq_true (fxM g5 11 rfl)
  have sk2_1 : PySem.W.subIn K (.ref 56) (.ref 44) = some false := of_decide_eq_true (fxM g5 12 rfl)
  have nk2_1 : ¬ 56 = 44 := of_decide_eq_true (fxM g5 13 rfl)
  have sk3_1 : PySem.W.subIn K (.ref 76) (.ref 44) = some false := of_decide_eq_true (fxM g5 14 rfl)
  have nk3_1 : ¬ 76 = 44 := of_decide_eq_true (fxM g5 15 rfl)
  have sk4_1 : PySem.W.subIn K (.ref 88) (.ref 44) = some false := of_decide_eq_true (fxM g5 16 rfl)
  have nk4_1 : ¬ 88 = 44 := of_decide_eq_true (fxM g5 17 rfl)
  have sk5_1 : PySem.W.subIn K (.ref 100) (.ref 44) = some false := of_decide_eq_true (fxM g5 18 rfl)
  have nk5_1 : ¬ 100 = 44 := of_decide_eq_true (fxM g5 19 rfl)
  have sk6_1 : PySem.W.subIn K (.ref 112) (.ref 44) = some false := of_decide_eq_true (fxM g5 20 rfl)
  have nk6_1 : ¬ 112 = 44 := of_decide_eq_true (fxM g5 21 rfl)
  have kv0 : PySem.W.subIn K (.ref 31) (.type "ValueError") = some true := of_decide_eq_true (fxM g5 22 rfl)
  have kv1 : PySem.W.subIn K (.ref 44) (.type "ValueError") = some true := of_decide_eq_true (fxM g5 23 rfl)
  have kv2 : PySem.W.subIn K (.ref 56) (.type "ValueError") = some true := of_decide_eq_true (fxM g5 24 rfl)
  have kv3 : PySem.W.subIn K (.ref 76) (.type "ValueError") = some true := of_decide_eq_true (fxM g5 25 rfl)
  have kv4 : PySem.W.subIn K (.ref 88) (.type "ValueError") = some true := of_decide_eq_true (fxM g5 26 rfl)
  have kv5 : PySem.W.subIn K (.ref 100) (.type "ValueError") = some true := of_decide_eq_true (fxM g5 27 rfl)
  have kv6 : PySem.W.subIn K (.ref 112) (.type "ValueError") = some true := of_decide_eq_true (fxM g5 28 rfl)
  have z_ValueError : PySem.W.nsIn K mainGlobals "ValueError" = some none := of_decide_eq_true (fxM g5 29 rfl)
  have z_all : PySem.W.nsIn K mainGlobals "all" = some none := of_decide_eq_true (fxM g5 30 rfl)
  have z_bool : PySem.W.nsIn K mainGlobals "bool" = some none := of_decide_eq_true (fxM g5 31 rfl)
  have z_int : PySem.W.nsIn K mainGlobals "int" = some none := of_decide_eq_true (fxM g5 32 rfl)
  have z_isinstance : PySem.W.nsIn K mainGlobals "isinstance" = some none := of_decide_eq_true (fxM g5 33 rfl)
  have z_len : PySem.W.nsIn K mainGlobals "len" = some none := of_decide_eq_true (fxM g5 34 rfl)
  have z_list : PySem.W.nsIn K mainGlobals "list" = some none := of_decide_eq_true (fxM g5 35 rfl)
  have z_max : PySem.W.nsIn K mainGlobals "max" = some none := of_decide_eq_true (fxM g5 36 rfl)
  have z_range : PySem.W.nsIn K mainGlobals "range" = some none := of_decide_eq_true (fxM g5 37 rfl)
  have z_sorted : PySem.W.nsIn K mainGlobals "sorted" = some none := of_decide_eq_true (fxM g5 38 rfl)
  have z_str : PySem.W.nsIn K mainGlobals "str" = some none := of_decide_eq_true (fxM g5 39 rfl)
  have z_tuple : PySem.W.nsIn K mainGlobals "tuple" = some none := of_decide_eq_true (fxM g6 0 rfl)
  obtain ⟨tv_FIGURES, v_FIGURES⟩ := conS_ok (fxM g6 1 rfl)
  obtain ⟨tv_MOST_BODY, v_MOST_BODY⟩ := conI_ok (fxM g6 2 rfl)
  obtain ⟨tv_MOST_DAY, v_MOST_DAY⟩ := conI_ok (fxM g6 3 rfl)
  obtain ⟨tv_MOST_HAND, v_MOST_HAND⟩ := conI_ok (fxM g6 4 rfl)
  obtain ⟨tv_MOST_SIGNS, v_MOST_SIGNS⟩ := conI_ok (fxM g6 5 rfl)
  obtain ⟨tv_MOST_TITLE, v_MOST_TITLE⟩ := conI_ok (fxM g6 6 rfl)
  obtain ⟨tv_SMALL, v_SMALL⟩ := conS_ok (fxM g6 7 rfl)
  have ne8_7 : ¬ 293 = 193 := of_decide_eq_true (fxM g6 8 rfl)
  obtain ⟨fd0, F0⟩ : ∃ fd, FunD K "is_sign" "is_sign" (defArgs s_is_sign) (defBody s_is_sign) (defScope s_is_sign) [] [] 121 fd := defM cD0 0 (d := dfn0) rfl
  obtain ⟨⟨oc0, od0, kV0, dc0, pm0, an0, cd0, ct0, sl0, rfl, l0, cc0⟩, k0⟩ := He5.fun_of F0
  obtain ⟨fd1, F1⟩ : ∃ fd, FunD K "is_word" "is_word" (defArgs s_is_word) (defBody s_is_word) (defScope s_is_word) [] [] 126 fd := defM cD0 1 (d := dfn1) rfl
  obtain ⟨⟨oc1, od1, kV1, dc1, pm1, an1, cd1, ct1, sl1, rfl, l1, cc1⟩, k1⟩ := He5.fun_of F1
  obtain ⟨fd2, F2⟩ : ∃ fd, FunD K "words_of" "words_of" (defArgs s_words_of) (defBody s_words_of) (defScope s_words_of) [] [] 133 fd := defM cD0 2 (d := dfn2) rfl
  obtain ⟨⟨oc2, od2, kV2, dc2, pm2, an2, cd2, ct2, sl2, rfl, l2, cc2⟩, k2⟩ := He5.fun_of F2
  obtain ⟨fd3, F3⟩ : ∃ fd, FunD K "each_once" "each_once" (defArgs s_each_once) (defBody s_each_once) (defScope s_each_once) [] [] 140 fd := defM cD0 3 (d := dfn3) rfl
  obtain ⟨⟨oc3, od3, kV3, dc3, pm3, an3, cd3, ct3, sl3, rfl, l3, cc3⟩, k3⟩ := He5.fun_of F3
  obtain ⟨fd4, F4⟩ : ∃ fd, FunD K "is_text" "is_text" (defArgs s_is_text) (defBody s_is_text) (defScope s_is_text) [] [] 147 fd := defM cD0 4 (d := dfn4) rfl
  obtain ⟨⟨oc4, od4, kV4, dc4, pm4, an4, cd4, ct4, sl4, rfl, l4, cc4⟩, k4⟩ := He5.fun_of F4
  obtain ⟨fd5, F5⟩ : ∃ fd, FunD K "is_day" "is_day" (defArgs s_is_day) (defBody s_is_day) (defScope s_is_day) [] [] 154 fd := defM cD0 5 (d := dfn5) rfl
  obtain ⟨⟨oc5, od5, kV5, dc5, pm5, an5, cd5, ct5, sl5, rfl, l5, cc5⟩, k5⟩ := He5.fun_of F5
  obtain ⟨fd6, F6⟩ : ∃ fd, FunD K "__init__" "Letter.__init__" (defArgs s_Letter___init__) (defBody s_Letter___init__) (defScope s_Letter___init__) [.str ("" : Str)] [] 169 fd := defM cD0 6 (d := dfn6) rfl
  obtain ⟨fd7, F7⟩ : ∃ fd, FunD K "parts" "Letter.parts" (defArgs s_Letter_parts) (defBody s_Letter_parts) (defScope s_Letter_parts) [] [] 176 fd := defM cD0 7 (d := dfn7) rfl
  obtain ⟨⟨oc7, od7, kV7, dc7, pm7, an7, cd7, ct7, sl7, rfl, l7, cc7⟩, k7⟩ := He5.fun_of F7
  obtain ⟨fd8, F8⟩ : ∃ fd, FunD K "words" "Letter.words" (defArgs s_Letter_words) (defBody s_Letter_words) (defScope s_Letter_words) [] [] 190 fd := defM cD0 8 (d := dfn8) rfl
  obtain ⟨⟨oc8, od8, kV8, dc8, pm8, an8, cd8, ct8, sl8, rfl, l8, cc8⟩, k8⟩ := He5.fun_of F8
  obtain ⟨fd9, F9⟩ : ∃ fd, FunD K "letter_of" "letter_of" (defArgs s_letter_of) (defBody s_letter_of) (defScope s_letter_of) [] [] 204 fd := defM cD0 9 (d := dfn9) rfl
  obtain ⟨⟨oc9, od9, kV9, dc9, pm9, an9, cd9, ct9, sl9, rfl, l9, cc9⟩, k9⟩ := He5.fun_of F9
  obtain ⟨fd10, F10⟩ : ∃ fd, FunD K "is_hand" "is_hand" (defArgs s_is_hand) (defBody s_is_hand) (defScope s_is_hand) [] [] 209 fd := defM cD0 10 (d := dfn10) rfl
  obtain ⟨⟨oc10, od10, kV10, dc10, pm10, an10, cd10, ct10, sl10, rfl, l10, cc10⟩, k10⟩ := He5.fun_of F10
  obtain ⟨fd11, F11⟩ : ∃ fd, FunD K "is_parts" "is_parts" (defArgs s_is_parts) (defBody s_is_parts) (defScope s_is_parts) [] [] 216 fd := defM cD0 11 (d := dfn11) rfl
  obtain ⟨⟨oc11, od11, kV11, dc11, pm11, an11, cd11, ct11, sl11, rfl, l11, cc11⟩, k11⟩ := He5.fun_of F11
  obtain ⟨fd12, F12⟩ : ∃ fd, FunD K "is_deed" "is_deed" (defArgs s_is_deed) (defBody s_is_deed) (defScope s_is_deed) [] [] 223 fd := defM cD0 12 (d := dfn12) rfl
  obtain ⟨⟨oc12, od12, kV12, dc12, pm12, an12, cd12, ct12, sl12, rfl, l12, cc12⟩, k12⟩ := He5.fun_of F12
  obtain ⟨fd13, F13⟩ : ∃ fd, FunD K "stamp_of" "stamp_of" (defArgs s_stamp_of) (defBody s_stamp_of) (defScope s_stamp_of) [] [] 230 fd := defM cD0 13 (d := dfn13) rfl
  obtain ⟨⟨oc13, od13, kV13, dc13, pm13, an13, cd13, ct13, sl13, rfl, l13, cc13⟩, k13⟩ := He5.fun_of F13
  obtain ⟨fd14, F14⟩ : ∃ fd, FunD K "need_follows" "need_follows" (defArgs s_need_follows) (defBody s_need_follows) (defScope s_need_follows) [] [] 235 fd := defM cD0 14 (d := dfn14) rfl
  obtain ⟨⟨oc14, od14, kV14, dc14, pm14, an14, cd14, ct14, sl14, rfl, l14, cc14⟩, k14⟩ := He5.fun_of F14
  obtain ⟨fd15, F15⟩ : ∃ fd, FunD K "__init__" "Ledger.__init__" (defArgs s_Ledger___init__) (defBody s_Ledger___init__) (defScope s_Ledger___init__) [] [] 249 fd := defM cD0 15 (d := dfn15) rfl
  obtain ⟨⟨oc15, od15, kV15, dc15, pm15, an15, cd15, ct15, sl15, rfl, l15, cc15⟩, k15⟩ := He5.fun_of F15
  obtain ⟨fd16, F16⟩ : ∃ fd, FunD K "latest" "Ledger.latest" (defArgs s_Ledger_latest) (defBody s_Ledger_latest) (defScope s_Ledger_latest) [] [] 254 fd := defM cD0 16 (d := dfn16) rfl
  obtain ⟨⟨oc16, od16, kV16, dc16, pm16, an16, cd16, ct16, sl16, rfl, l16, cc16⟩, k16⟩ := He5.fun_of F16
  obtain ⟨fd17, F17⟩ : ∃ fd, FunD K "do" "Ledger.do" (defArgs s_Ledger_do) (defBody s_Ledger_do) (defScope s_Ledger_do) [] [] 261 fd := defM cD0 17 (d := dfn17) rfl
  obtain ⟨⟨oc17, od17, kV17, dc17, pm17, an17, cd17, ct17, sl17, rfl, l17, cc17⟩, k17⟩ := He5.fun_of F17
  obtain ⟨fd18, F18⟩ : ∃ fd, FunD K "have" "Ledger.have" (defArgs s_Ledger_have) (defBody s_Ledger_have) (defScope s_Ledger_have) [] [] 268 fd := defM cD0 18 (d := dfn18) rfl
  obtain ⟨⟨oc18, od18, kV18, dc18, pm18, an18, cd18, ct18, sl18, rfl, l18, cc18⟩, k18⟩ := He5.fun_of F18
  obtain ⟨fd19, F19⟩ : ∃ fd, FunD K "told" "Ledger.told" (defArgs s_Ledger_told) (defBody s_Ledger_told) (defScope s_Ledger_told) [.non] [] 276 fd := defM cD0 19 (d := dfn19) rfl
  obtain ⟨fd20, F20⟩ : ∃ fd, FunD K "_law_begin" "_law_begin" (defArgs s_law_begin) (defBody s_law_begin) (defScope s_law_begin) [] [] 304 fd := defM cD0 20 (d := dfn20) rfl
  obtain ⟨⟨oc20, od20, kV20, dc20, pm20, an20, cd20, ct20, sl20, rfl, l20, cc20⟩, k20⟩ := He5.fun_of F20
  obtain ⟨fd21, F21⟩ : ∃ fd, FunD K "_law_next" "_law_next" (defArgs s_law_next) (defBody s_law_next) (defScope s_law_next) [] [] 311 fd := defM cD0 21 (d := dfn21) rfl
  obtain ⟨⟨oc21, od21, kV21, dc21, pm21, an21, cd21, ct21, sl21, rfl, l21, cc21⟩, k21⟩ := He5.fun_of F21
  obtain ⟨fd22, F22⟩ : ∃ fd, FunD K "_law_word" "_law_word" (defArgs s_law_word) (defBody s_law_word) (defScope s_law_word) [] [] 316 fd := defM cD0 22 (d := dfn22) rfl
  obtain ⟨⟨oc22, od22, kV22, dc22, pm22, an22, cd22, ct22, sl22, rfl, l22, cc22⟩, k22⟩ := He5.fun_of F22
  obtain ⟨fd23, F23⟩ : ∃ fd, FunD K "_law_any_word" "_law_any_word" (defArgs s_law_any_word) (defBody s_law_any_word) (defScope s_law_any_word) [] [] 323 fd := defM cD0 23 (d := dfn23) rfl
  obtain ⟨⟨oc23, od23, kV23, dc23, pm23, an23, cd23, ct23, sl23, rfl, l23, cc23⟩, k23⟩ := He5.fun_of F23
  obtain ⟨fd24, F24⟩ : ∃ fd, FunD K "_law_hands" "_law_hands" (defArgs s_law_hands) (defBody s_law_hands) (defScope s_law_hands) [] [] 330 fd := defM cD0 24 (d := dfn24) rfl
  obtain ⟨⟨oc24, od24, kV24, dc24, pm24, an24, cd24, ct24, sl24, rfl, l24, cc24⟩, k24⟩ := He5.fun_of F24
  obtain ⟨fd25, F25⟩ : ∃ fd, FunD K "_law_parts" "_law_parts" (defArgs s_law_parts) (defBody s_law_parts) (defScope s_law_parts) [] [] 337 fd := defM cD0 25 (d := dfn25) rfl
  obtain ⟨⟨oc25, od25, kV25, dc25, pm25, an25, cd25, ct25, sl25, rfl, l25, cc25⟩, k25⟩ := He5.fun_of F25
  obtain ⟨fd26, F26⟩ : ∃ fd, FunD K "_law_deed" "_law_deed" (defArgs s_law_deed) (defBody s_law_deed) (defScope s_law_deed) [] [] 344 fd := defM cD0 26 (d := dfn26) rfl
  obtain ⟨⟨oc26, od26, kV26, dc26, pm26, an26, cd26, ct26, sl26, rfl, l26, cc26⟩, k26⟩ := He5.fun_of F26
  obtain ⟨fd27, F27⟩ : ∃ fd, FunD K "_law_alone" "_law_alone" (defArgs s_law_alone) (defBody s_law_alone) (defScope s_law_alone) [] [] 351 fd := defM cD0 27 (d := dfn27) rfl
  obtain ⟨⟨oc27, od27, kV27, dc27, pm27, an27, cd27, ct27, sl27, rfl, l27, cc27⟩, k27⟩ := He5.fun_of F27
  obtain ⟨fd28, F28⟩ : ∃ fd, FunD K "_law_refused" "_law_refused" (defArgs s_law_refused) (defBody s_law_refused) (defScope s_law_refused) [] [] 358 fd := defM cD0 28 (d := dfn28) rfl
  obtain ⟨⟨oc28, od28, kV28, dc28, pm28, an28, cd28, ct28, sl28, rfl, l28, cc28⟩, k28⟩ := He5.fun_of F28
  obtain ⟨fd29, F29⟩ : ∃ fd, FunD K "_law_done" "_law_done" (defArgs s_law_done) (defBody s_law_done) (defScope s_law_done) [] [] 365 fd := defM cD0 29 (d := dfn29) rfl
  obtain ⟨⟨oc29, od29, kV29, dc29, pm29, an29, cd29, ct29, sl29, rfl, l29, cc29⟩, k29⟩ := He5.fun_of F29
  obtain ⟨fd30, F30⟩ : ∃ fd, FunD K "_law_no_hand" "_law_no_hand" (defArgs s_law_no_hand) (defBody s_law_no_hand) (defScope s_law_no_hand) [] [] 372 fd := defM cD0 30 (d := dfn30) rfl
  obtain ⟨⟨oc30, od30, kV30, dc30, pm30, an30, cd30, ct30, sl30, rfl, l30, cc30⟩, k30⟩ := He5.fun_of F30
  obtain ⟨fd31, F31⟩ : ∃ fd, FunD K "_law_no_word" "_law_no_word" (defArgs s_law_no_word) (defBody s_law_no_word) (defScope s_law_no_word) [] [] 379 fd := defM cD0 31 (d := dfn31) rfl
  obtain ⟨⟨oc31, od31, kV31, dc31, pm31, an31, cd31, ct31, sl31, rfl, l31, cc31⟩, k31⟩ := He5.fun_of F31
  obtain ⟨fd32, F32⟩ : ∃ fd, FunD K "_law_no_parts" "_law_no_parts" (defArgs s_law_no_parts) (defBody s_law_no_parts) (defScope s_law_no_parts) [] [] 386 fd := defM cD0 32 (d := dfn32) rfl
  obtain ⟨⟨oc32, od32, kV32, dc32, pm32, an32, cd32, ct32, sl32, rfl, l32, cc32⟩, k32⟩ := He5.fun_of F32
  obtain ⟨fd33, F33⟩ : ∃ fd, FunD K "_law_no_deed" "_law_no_deed" (defArgs s_law_no_deed) (defBody s_law_no_deed) (defScope s_law_no_deed) [] [] 393 fd := defM cD0 33 (d := dfn33) rfl
  obtain ⟨⟨oc33, od33, kV33, dc33, pm33, an33, cd33, ct33, sl33, rfl, l33, cc33⟩, k33⟩ := He5.fun_of F33
  obtain ⟨fd34, F34⟩ : ∃ fd, FunD K "_law_odd" "_law_odd" (defArgs s_law_odd) (defBody s_law_odd) (defScope s_law_odd) [] [] 400 fd := defM cD0 34 (d := dfn34) rfl
  obtain ⟨⟨oc34, od34, kV34, dc34, pm34, an34, cd34, ct34, sl34, rfl, l34, cc34⟩, k34⟩ := He5.fun_of F34
  obtain ⟨fd35, F35⟩ : ∃ fd, FunD K "_law_looked" "_law_looked" (defArgs s_law_looked) (defBody s_law_looked) (defScope s_law_looked) [] [] 407 fd := defM cD0 35 (d := dfn35) rfl
  obtain ⟨⟨oc35, od35, kV35, dc35, pm35, an35, cd35, ct35, sl35, rfl, l35, cc35⟩, k35⟩ := He5.fun_of F35
  obtain ⟨fd36, F36⟩ : ∃ fd, FunD K "law" "law" (defArgs s_law) (defBody s_law) (defScope s_law) [] [] 412 fd := defM cD0 36 (d := dfn36) rfl
  obtain ⟨⟨oc36, od36, kV36, dc36, pm36, an36, cd36, ct36, sl36, rfl, l36, cc36⟩, k36⟩ := He5.fun_of F36
  exact all_mk X H hfa ac0 ac1 ac2 ac3 ac4 ac5 ac6 ac7 ac8 a0 l0 cc0 k0 a1 l1 cc1 k1 a2 l2 cc2 k2 a3 l3 cc3 k3 a4 l4 cc4 k4 a5 l5 cc5 k5 a6_7 i6 F6 mk7 kc7 a7_7 i7 l7 cc7 k7 a8_7 i8 l8 cc8 k8 a9 l9 cc9 k9 a10 l10 cc10 k10 a11 l11 cc11 k11 a12 l12 cc12 k12 a13 l13 cc13 k13 a14 l14 cc14 k14 a15_8 i15 l15 cc15 k15 mk8 kc8 a16_8 i16 l16 cc16 k16 a17_8 i17 l17 cc17 k17 a18_8 i18 l18 cc18 k18 a19_8 i19 F19 a20 l20 cc20 k20 a21 l21 cc21 k21 a22 l22 cc22 k22 a23 l23 cc23 k23 a24 l24 cc24 k24 a25 l25 cc25 k25 a26 l26 cc26 k26 a27 l27 cc27 k27 a28 l28 cc28 k28 a29 l29 cc29 k29 a30 l30 cc30 k30 a31 l31 cc31 k31 a32 l32 cc32 k32 a33 l33 cc33 k33 a34 l34 cc34 k34 a35 l35 cc35 k35 a36 l36 cc36 k36 bE0 tE0 hE0 s0_0 s1_0 s2_0 s3_0 s4_0 s5_0 s6_0 xE2 kE2 bE2 tE2 hE2 s0_2 s1_2 s2_2 s3_2 s4_2 s5_2 s6_2 xE4 kE4 bE4 tE4 xE5 kE5 bE5 tE5 pg7 hd7 po7 sa7 nf7_0 nf7_1 nf7_2 nf7_3 nf7_4 pg8 hd8 po8 sa8 nf8_0 nf8_1 ea0 eb0 ed0 eh0 ea1 eb1 bE1 tE1 hE1 ed1 eh1 ea2 eb2 ed2 eh2 ea3 eb3 bE3 tE3 hE3 ed3 eh3 ea4 eb4 hE4 ed4 eh4 ea5 eb5 hE5 ed5 eh5 ea6 eb6 bE6 tE6 hE6 ed6 eh6 ee ef sk0_2 nk0_2 sk1_2 nk1_2 sk2_2 sk3_2 nk3_2 sk4_2 nk4_2 sk5_2 nk5_2 sk6_2 nk6_2 sk0_4 nk0_4 sk1_4 nk1_4 sk2_4 nk2_4 sk3_4 nk3_4 sk4_4 sk5_4 nk5_4 sk6_4 nk6_4 sk0_5 nk0_5 sk1_5 nk1_5 sk2_5 nk2_5 sk3_5 nk3_5 sk4_5 nk4_5 sk5_5 sk6_5 nk6_5 sk0_6 nk0_6 sk1_6 nk1_6 sk2_6 nk2_6 sk3_6 nk3_6 sk4_6 nk4_6 sk5_6 nk5_6 sk6_6 sk0_3 nk0_3 sk1_3 nk1_3 sk2_3 nk2_3 sk3_3 sk4_3 nk4_3 sk5_3 nk5_3 sk6_3 nk6_3 sk0_1 nk0_1 sk1_1 sk2_1 nk2_1 sk3_1 nk3_1 sk4_1 nk4_1 sk5_1 nk5_1 sk6_1 nk6_1 kv0 kv1 kv2 kv3 kv4 kv5 kv6 z_ValueError z_all z_bool z_int z_isinstance z_len z_list z_max z_range z_sorted z_str z_tuple v_FIGURES v_MOST_BODY v_MOST_DAY v_MOST_HAND v_MOST_SIGNS v_MOST_TITLE v_SMALL ne8_7
end Lw
open PySem PySem.W PyProof.Rows
set_option maxRecDepth 100000 in
set_option maxHeartbeats 0 in
theorem PySem.Challenge.cw_mailroom_k42_deeds_done_holds : PySem.Challenge.rw_mailroom_k42_deeds_done.Holds := by
  w_on; o_law
  refine HandSHeadRun.head_any (r := OpenLaw.row PySem.Challenge.rw_mailroom_k42_deeds_done) (q := view (OpenLaw.row PySem.Challenge.rw_mailroom_k42_deeds_done).prog [51]) (H := Lw.hookM) (ob := Lw.obM) (M := 40000) (loose := Lw.namesM) (d := HandSHeadRun.topDef (OpenLaw.row PySem.Challenge.rw_mailroom_k42_deeds_done).prog 51) (kwd := []) Lw.obM_eq
    (by kernel_rfl) (fun s => by kernel_rfl) Lw.runM (by kernel_rfl) (by kernel_rfl) (by kernel_rfl) (by rfl) (by first | assumption | decide +kernel) (by decide +kernel) ⟨rfl, rfl, rfl, rfl, rfl, by decide +kernel⟩ ?hw ?hc
  case hw => w_witness2
  case hc =>
    refine L2.walk_ofE (l := PySem.Challenge.rw_mailroom_k42_deeds_done) (n := 63) (k := 10) (x := "_law_script") (CX := L2.CX0) rfl (by decide) (by kernel_rfl) ⟨rfl, by decide, by decide⟩ ?F (fun _ _ _ _ z => z)
    intro w mg fa h Y G hmg0
    obtain ⟨K, KX, c⟩ := Y
    have hmg : mg ("law" : PySem.Str) = some (.ref fa) := by
      have e : (HandSHeadRun.topDef (OpenLaw.row PySem.Challenge.rw_mailroom_k42_deeds_done).prog 51).name = ("law" : PySem.Str) := by kernel_rfl
      rw [← e]
      exact hmg0
    obtain ⟨fd, hb, hF⟩ := Lw.says_mk (l := PySem.Challenge.rw_mailroom_k42_deeds_done) (w := w) KX G hmg c
    exact ⟨K, fd, Lw.sp_top K, KX, hb, fun H a ns hl hO hS => ⟨a, ns, rfl, hS, hO, hl, fun _ => rfl⟩, hF⟩
