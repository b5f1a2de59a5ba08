import PyProof.Rows.All
import Wide.All
import OpenK.AllK
import Wide.FinOn
import HandS.ForMost
import HandS.ForExc
import HandS.SetKeys
import HandS.IsInst
import HandS.Flow
import HandS.Style
import HandS.CallSlots
import HandS.TryMany
import HandS.StrMore
import HandS.Strs
import HandS.TupLe
import HandS.TupAny
import HandS.More
import HandS.Conv
import HandS.Replace
import HandS.FStr
import HandS.ExcIs
import HandS.RaiseMore
import HandS.Defaults
import HandS.DictTup
import HandS.TupSets
import HandS.SortOrd
import HandS.SortKw
import HandS.Lambda
import PyProof.Rows.StrCase
import HandS.TryOnly
import KE.DataFind
import HandS.HotCalls
import HandS.Small
import HandS.WordsDict
import KE.KEqDict
import PyProof.NeKinds
import PyProof.FactsAll.dict_1
import PyProof.FactsAll.dict_2
import PyProof.FactsAll.str
import PyProof.FactsAll.int
import PyProof.FactsAll.subtypes
import HandS.SetTxt0
import HandS.SetFor
import KE.SortData
import KE.DataCmp
import HandS.Iter
import KE.DataMinMax
import HandS.ExcInit
import HandS.ClsMeth
import HandS.ExcField
import KE.KExcIs
import HandS.ExcInitHot
import HandS.SuiteRaise
import KE.GoesEnumKw
import HandS.NoneIn
import PyProof.SeqRoads2
import HandS.Ends
import HandS.Head0
import HandS.Head1
import HandS.Head2
import HandS.HeadEnd
import HandS.HeadHook1
import HandS.HeadHook2
import HandS.HeadNt
import PySem.Challenge.RW_mailroom_k25_words_of_names
set_option Elab.async false
set_option linter.all false
set_option maxRecDepth 100000
set_option maxHeartbeats 4000000
namespace Ml
open PySem L2
structure Gx where
  K : PySem.W.Frag
  fz : Addr → Option Nat
  cl : Nat → Addr
/-- what never changes once it stands -/
def per (G : Gx) : HO → Bool
  | .tup _ => true
  | .frz _ (.lst _) => true
  | .ins C _ fs => decide (G.fz C = some fs.length)
  | _ => false
/-- what sort of thing it is -/
def kindOf : HO → Nat
  | .lst _ => 0
  | .frz _ (.lst _) => 0
  | .dK _ => 1
  | .frz _ (.dK _) => 1
  | .dT _ => 6
  | .frz _ (.dT _) => 6
  | .tup _ => 2
  | .set _ _ => 3
  | .ins _ _ _ => 4
  | _ => 5
/-- all that never changes stands on, and nothing becomes another sort of thing -/
def Stab (G : Gx) (H H' : Hp) : Prop := (∀ a o, H a = some o → per G o = true → H' a = some o) ∧ ∀ a o, H a = some o → ∃ o', H' a = some o' ∧ kindOf o' = kindOf o
theorem Stab.refl {G : Gx} (H : Hp) : Stab G H H := ⟨fun _ _ h _ => h, fun _ o h => ⟨o, h, rfl⟩⟩
theorem Stab.trans {G : Gx} {H H1 H2 : Hp} (a : Stab G H H1) (b : Stab G H1 H2) : Stab G H H2 := ⟨fun x o h p => b.1 x o (a.1 x o h p) p, fun x o h => by
  obtain ⟨o1, h1, k1⟩ := a.2 x o h
  obtain ⟨o2, h2, k2⟩ := b.2 x o1 h1
  exact ⟨o2, h2, k2.trans k1⟩⟩
theorem Stab.of_same {G : Gx} {H H' : Hp} (s : Same H H') : Stab G H H' := ⟨fun a o h _ => s a o h, fun a o h => ⟨o, s a o h, rfl⟩⟩
theorem stab_put {G : Gx} {H : Hp} {a : Addr} {o o' : HO} (e : H a = some o) (n : per G o = false) (kd : kindOf o' = kindOf o) : Stab G H (upd H a o') := ⟨fun b x hb pb => by
  by_cases z : b = a
  · subst z; rw [e] at hb; cases hb; rw [n] at pb; cases pb
  · rw [upd_ne z]; exact hb, fun b x hb => by
  by_cases z : b = a
  · subst z; rw [e] at hb; cases hb; exact ⟨o', upd_same, kd⟩
  · exact ⟨x, by rw [upd_ne z]; exact hb, rfl⟩⟩
structure Asn (G : Gx) where
  sat : Hp → List Addr → Prop
  loc : ∀ H H' fp, sat H fp → (∀ a, a ∈ fp → H' a = H a) → Stab G H H' → sat H' fp
variable {G : Gx}
def satL (H : Hp) : List (Asn G) → List Addr → Prop
  | [], fp => fp = []
  | A :: L, fp => ∃ f1 f2, fp = f1 ++ f2 ∧ A.sat H f1 ∧ satL H L f2
theorem satL.loc {H H' : Hp} : ∀ {L : List (Asn G)} {fp : List Addr}, satL H L fp → (∀ a, a ∈ fp → H' a = H a) → Stab G H H' → satL H' L fp
  | [], fp, h, _, _ => h
  | A :: L, fp, ⟨f1, f2, e, h1, h2⟩, k, s => ⟨f1, f2, e, A.loc H H' f1 h1 (fun a m => k a (by rw [e]; exact List.mem_append_left _ m)) s,
      satL.loc h2 (fun a m => k a (by rw [e]; exact List.mem_append_right _ m)) s⟩
theorem satL.perm {H : Hp} {L L' : List (Asn G)} (p : L.Perm L') : ∀ {fp : List Addr}, satL H L fp → ∃ fp', fp'.Perm fp ∧ satL H L' fp' := by
  induction p with
  | nil => intro fp h; exact ⟨fp, .refl _, h⟩
  | cons x _ ih =>
    rintro fp ⟨f1, f2, e, h1, h2⟩
    obtain ⟨g, pg, hg⟩ := ih h2
    exact ⟨f1 ++ g, by rw [e]; exact List.Perm.append_left f1 pg, f1, g, rfl, h1, hg⟩
  | swap x y l =>
    rintro fp ⟨f1, f2, e, h1, g1, g2, e2, k1, k2⟩
    refine ⟨g1 ++ (f1 ++ g2), ?_, g1, f1 ++ g2, rfl, k1, f1, g2, rfl, h1, k2⟩
    rw [e, e2, ← List.append_assoc, ← List.append_assoc]
    exact List.Perm.append_right g2 List.perm_append_comm
  | trans _ _ ih1 ih2 =>
    intro fp h
    obtain ⟨g, pg, hg⟩ := ih1 h
    obtain ⟨k, pk, hk⟩ := ih2 hg
    exact ⟨k, pk.trans pg, hk⟩
theorem satL.append {H : Hp} : ∀ {L L' : List (Asn G)} {fp : List Addr}, satL H (L ++ L') fp ↔ ∃ f1 f2, fp = f1 ++ f2 ∧ satL H L f1 ∧ satL H L' f2
  | [], L', fp => ⟨fun h => ⟨[], fp, rfl, rfl, h⟩, fun ⟨f1, f2, e, h1, h2⟩ => by
      have h1' : f1 = [] := h1
      subst h1'; subst e; exact h2⟩
  | A :: L, L', fp => by
    constructor
    · rintro ⟨f1, f2, e, h1, h2⟩
      obtain ⟨g1, g2, e2, k1, k2⟩ := satL.append.mp h2
      exact ⟨f1 ++ g1, g2, by rw [e, e2, List.append_assoc], ⟨f1, g1, rfl, h1, k1⟩, k2⟩
    · rintro ⟨f1, f2, e, ⟨g1, g2, e2, h1, h2⟩, h3⟩
      exact ⟨g1, g2 ++ f2, by rw [e, e2, List.append_assoc], h1, satL.append.mpr ⟨g2, f2, rfl, h2, h3⟩⟩
/-- the assertions hold, each of its own part of the heap -/
def Sep (H : Hp) (L : List (Asn G)) : Prop := ∃ fp, satL H L fp ∧ fp.Nodup ∧ ∀ a, a ∈ fp → ∃ o, H a = some o ∧ per G o = false
theorem Sep.perm {H : Hp} {L L' : List (Asn G)} (h : Sep H L) (p : L.Perm L') : Sep H L' := by
  obtain ⟨fp, h1, h2, h3⟩ := h
  obtain ⟨g, pg, hg⟩ := satL.perm p h1
  exact ⟨g, hg, pg.nodup_iff.mpr h2, fun a m => h3 a (pg.mem_iff.mp m)⟩
theorem Sep.nil (H : Hp) : Sep H ([] : List (Asn G)) := ⟨[], rfl, List.nodup_nil, fun a m => absurd m (by simp)⟩
theorem Sep.left {H : Hp} {L L' : List (Asn G)} (h : Sep H (L ++ L')) : Sep H L := by
  obtain ⟨fp, h1, h2, h3⟩ := h
  obtain ⟨f1, f2, e, k1, k2⟩ := satL.append.mp h1
  subst e
  exact ⟨f1, k1, (List.nodup_append.mp h2).1, fun a m => h3 a (List.mem_append_left _ m)⟩
theorem Sep.tail {H : Hp} {A : Asn G} {L : List (Asn G)} (h : Sep H (A :: L)) : Sep H L := by
  have p : (A :: L).Perm (L ++ [A]) := (List.perm_append_singleton A L).symm
  exact (h.perm p).left
/-- old things stand, new ones may come -/
theorem Sep.more {H H' : Hp} {L : List (Asn G)} (h : Sep H L) (s : Same H H') : Sep H' L := by
  obtain ⟨fp, h1, h2, h3⟩ := h
  exact ⟨fp, h1.loc (fun a m => by obtain ⟨o, e, _⟩ := h3 a m; rw [e]; exact s a o e) (.of_same s), h2, fun a m => by
    obtain ⟨o, e, n⟩ := h3 a m; exact ⟨o, s a o e, n⟩⟩
theorem satL.at {H : Hp} {A : Asn G} : ∀ {L : List (Asn G)} {fp : List Addr} {i : Nat}, satL H L fp → L[i]? = some A → ∃ fp, A.sat H fp
  | [], _, _, _, e => by simp at e
  | B :: L, _, 0, ⟨f1, _, _, k1, _⟩, e => ⟨f1, by
      have : B = A := Option.some.inj e
      subst this; exact k1⟩
  | B :: L, _, i + 1, ⟨_, f2, _, _, k2⟩, e => satL.at (L := L) (i := i) k2 (by simpa using e)
theorem Sep.at {H : Hp} {L : List (Asn G)} (h : Sep H L) {i : Nat} {A : Asn G} (e : L[i]? = some A) : ∃ fp, A.sat H fp := by
  obtain ⟨fp, h1, _, _⟩ := h
  exact satL.at h1 e
/-- the i-th one ahead -/
theorem pull_perm {α : Type} : ∀ {L : List α} {i : Nat} {A : α}, L[i]? = some A → L.Perm (A :: L.eraseIdx i)
  | [], _, _, e => by simp at e
  | B :: L, 0, A, e => by
    have : B = A := Option.some.inj e
    subst this
    exact .refl _
  | B :: L, i + 1, A, e => by
    have ih := pull_perm (L := L) (i := i) (A := A) (by simpa using e)
    exact (List.Perm.cons B ih).trans (List.Perm.swap A B _)
theorem set_perm {α : Type} : ∀ {L : List α} {i : Nat} {A B : α}, L[i]? = some A → (B :: L.eraseIdx i).Perm (L.set i B)
  | [], _, _, _, e => by simp at e
  | C :: L, 0, A, B, e => .refl _
  | C :: L, i + 1, A, B, e => by
    have ih := set_perm (L := L) (i := i) (A := A) (B := B) (by simpa using e)
    exact (List.Perm.swap C B _).trans (List.Perm.cons C ih)
/-- chosen ones, in a chosen order -/
def pick {α : Type} (L : List α) (is : List Nat) : List α := is.filterMap fun i => L[i]?
theorem pick_perm {α : Type} : ∀ (is : List Nat) (L : List α), is.Nodup → ∃ R, L.Perm (pick L is ++ R)
  | [], L, _ => ⟨L, .refl _⟩
  | i :: is, L, nd => by
    obtain ⟨n1, n2⟩ := List.nodup_cons.mp nd
    cases e : L[i]? with
    | none =>
      obtain ⟨R, p⟩ := pick_perm is L n2
      refine ⟨R, ?_⟩
      have : pick L (i :: is) = pick L is := by unfold pick; rw [List.filterMap_cons, e]
      rw [this]; exact p
    | some A =>
      -- the others by their places without i
      have key : ∀ (js : List Nat), i ∉ js → pick L js = pick (L.eraseIdx i) (js.map fun j => if j < i then j else j - 1) := by
        intro js hj
        unfold pick
        rw [List.filterMap_map]
        have gen : ∀ js : List Nat, i ∉ js → js.filterMap (fun i => L[i]?) = js.filterMap ((fun j => (L.eraseIdx i)[j]?) ∘ fun j => if j < i then j else j - 1) := by
          intro js
          induction js with
          | nil => intro _; rfl
          | cons j js ih =>
            intro hm
            have hji : j ≠ i := fun z => hm (by rw [z]; exact List.mem_cons_self)
            have ih' := ih fun z => hm (List.mem_cons_of_mem _ z)
            have ej : L[j]? = ((fun j => (L.eraseIdx i)[j]?) ∘ fun j => if j < i then j else j - 1) j := by
              show L[j]? = (L.eraseIdx i)[if j < i then j else j - 1]?
              rw [List.getElem?_eraseIdx]
              by_cases c : j < i
              · rw [if_pos c, if_pos c]
              · rw [if_neg c, if_neg (by omega)]
                congr 1; omega
            rw [List.filterMap_cons, List.filterMap_cons, ih', ej]
        exact gen js hj
      have nd2 : (is.map fun j => if j < i then j else j - 1).Nodup := by
        refine List.pairwise_map.mpr (List.Pairwise.imp_of_mem ?_ n2)
        intro a b ha hb hab z
        have ha' : a ≠ i := fun q => n1 (q ▸ ha)
        have hb' : b ≠ i := fun q => n1 (q ▸ hb)
        split at z <;> split at z <;> omega
      obtain ⟨R, p⟩ := pick_perm (is.map fun j => if j < i then j else j - 1) (L.eraseIdx i) nd2
      refine ⟨R, ?_⟩
      have e2 : pick L (i :: is) = A :: pick L is := by unfold pick; rw [List.filterMap_cons, e]
      rw [e2, key is n1]
      exact (pull_perm e).trans (List.Perm.cons A p)
termination_by is => is.length
theorem Sep.sel {H : Hp} {L L' : List (Asn G)} (h : Sep H L) (is : List Nat) (nd : is.Nodup) (e : pick L is = L') : Sep H L' := by
  obtain ⟨R, p⟩ := pick_perm is L nd
  rw [e] at p
  exact (h.perm p).left
/-- at a stands o, owned -/
def cell (a : Addr) (o : HO) : Asn G := ⟨fun H fp => fp = [a] ∧ H a = some o, fun H H' fp h k _ => ⟨h.1, by rw [k a (by rw [h.1]; simp)]; exact h.2⟩⟩
/-- a fact that stays -/
def fact (p : Hp → Prop) (st : ∀ H H', p H → Stab G H H' → p H') : Asn G := ⟨fun H fp => fp = [] ∧ p H, fun H H' fp h _ s => ⟨h.1, st H H' h.2 s⟩⟩
/-- several as one -/
def star (L : List (Asn G)) : Asn G := ⟨fun H fp => satL H L fp, fun H H' fp h k s => h.loc k s⟩
/-- some one of them -/
def exA {α : Type} (f : α → Asn G) : Asn G := ⟨fun H fp => ∃ x, (f x).sat H fp, fun H H' fp ⟨x, h⟩ k s => ⟨x, (f x).loc H H' fp h k s⟩⟩
/-- and a plain truth -/
def andA (p : Prop) (A : Asn G) : Asn G := ⟨fun H fp => p ∧ A.sat H fp, fun H H' fp ⟨x, h⟩ k s => ⟨x, A.loc H H' fp h k s⟩⟩
theorem Sep.star {H : Hp} {L M : List (Asn G)} (h : Sep H (M ++ [Ml.star L])) : Sep H (M ++ L) := by
  obtain ⟨fp, h1, h2, h3⟩ := h
  obtain ⟨f1, f2, e, k1, g1, g2, e2, k2, k3⟩ := satL.append.mp h1
  have k3' : g2 = [] := k3
  subst k3'
  rw [List.append_nil] at e2
  subst e2
  exact ⟨fp, satL.append.mpr ⟨f1, f2, e, k1, k2⟩, h2, h3⟩
theorem Sep.unstar {H : Hp} {L M : List (Asn G)} (h : Sep H (M ++ L)) : Sep H (M ++ [Ml.star L]) := by
  obtain ⟨fp, h1, h2, h3⟩ := h
  obtain ⟨f1, f2, e, k1, k2⟩ := satL.append.mp h1
  exact ⟨fp, satL.append.mpr ⟨f1, f2, e, k1, f2, [], by simp, k2, rfl⟩, h2, h3⟩
theorem Sep.star1 {H : Hp} {L M : List (Asn G)} (h : Sep H (Ml.star L :: M)) : Sep H (L ++ M) := by
  obtain ⟨fp, ⟨f1, f2, e, h1, k⟩, h2, h3⟩ := h
  exact ⟨fp, satL.append.mpr ⟨f1, f2, e, h1, k⟩, h2, h3⟩
theorem Sep.unstar1 {H : Hp} {L M : List (Asn G)} (h : Sep H (L ++ M)) : Sep H (Ml.star L :: M) := by
  obtain ⟨fp, h1, h2, h3⟩ := h
  obtain ⟨f1, f2, e, k1, k2⟩ := satL.append.mp h1
  exact ⟨fp, ⟨f1, f2, e, k1, k2⟩, h2, h3⟩
theorem Sep.ex {α : Type} {f : α → Asn G} {H : Hp} {M : List (Asn G)} (h : Sep H (exA f :: M)) : ∃ x, Sep H (f x :: M) := by
  obtain ⟨fp, ⟨f1, f2, e, ⟨x, h1⟩, k⟩, h2, h3⟩ := h
  exact ⟨x, fp, ⟨f1, f2, e, h1, k⟩, h2, h3⟩
theorem Sep.exI {α : Type} {f : α → Asn G} {H : Hp} {M : List (Asn G)} (x : α) (h : Sep H (f x :: M)) : Sep H (exA f :: M) := by
  obtain ⟨fp, ⟨f1, f2, e, h1, k⟩, h2, h3⟩ := h
  exact ⟨fp, ⟨f1, f2, e, ⟨x, h1⟩, k⟩, h2, h3⟩
theorem Sep.and {p : Prop} {A : Asn G} {H : Hp} {M : List (Asn G)} (h : Sep H (andA p A :: M)) : p ∧ Sep H (A :: M) := by
  obtain ⟨fp, ⟨f1, f2, e, ⟨x, h1⟩, k⟩, h2, h3⟩ := h
  exact ⟨x, fp, ⟨f1, f2, e, h1, k⟩, h2, h3⟩
theorem Sep.andI {p : Prop} {A : Asn G} {H : Hp} {M : List (Asn G)} (x : p) (h : Sep H (A :: M)) : Sep H (andA p A :: M) := by
  obtain ⟨fp, ⟨f1, f2, e, h1, k⟩, h2, h3⟩ := h
  exact ⟨fp, ⟨f1, f2, e, ⟨x, h1⟩, k⟩, h2, h3⟩
/-- another view of the first one, over the same part -/
theorem Sep.view {A B : Asn G} {H : Hp} {M : List (Asn G)} (h : Sep H (A :: M)) (v : ∀ fp, A.sat H fp → B.sat H fp) : Sep H (B :: M) := by
  obtain ⟨fp, ⟨f1, f2, e, h1, k⟩, h2, h3⟩ := h
  exact ⟨fp, ⟨f1, f2, e, v f1 h1, k⟩, h2, h3⟩
theorem Sep.addFact {p : Hp → Prop} {st : ∀ H H', p H → Stab G H H' → p H'} {H : Hp} {M : List (Asn G)} (h : Sep H M) (x : p H) : Sep H (fact p st :: M) := by
  obtain ⟨fp, h1, h2, h3⟩ := h
  exact ⟨fp, ⟨[], fp, rfl, ⟨rfl, x⟩, h1⟩, h2, h3⟩
theorem Sep.getFact {p : Hp → Prop} {st : ∀ H H', p H → Stab G H H' → p H'} {H : Hp} {M : List (Asn G)} (h : Sep H M) {i : Nat} (e : M[i]? = some (fact p st)) : p H := by
  obtain ⟨fp, _, x⟩ := h.at e
  exact x
theorem Sep.getCell {H : Hp} {M : List (Asn G)} (h : Sep H M) {i : Nat} {a : Addr} {o : HO} (e : M[i]? = some (cell a o)) : H a = some o := by
  obtain ⟨fp, _, x⟩ := h.at e
  exact x
theorem same_new {H : Hp} {p : Addr} {o : HO} (h : H p = none) : Same H (upd H p o) := fun b u e => by
  rw [upd_ne (ne_of_none e h)]; exact e
/-- a new thing -/
theorem Sep.new {H : Hp} {M : List (Asn G)} (h : Sep H M) {p : Addr} {o : HO} (hp : H p = none) (n : per G o = false) : Sep (upd H p o) (cell p o :: M) := by
  have h' := h.more (same_new (o := o) hp)
  obtain ⟨fp, h1, h2, h3⟩ := h
  obtain ⟨_, k1, _, _⟩ := (⟨fp, h1, h2, h3⟩ : Sep H M)
  have q : satL (upd H p o) M fp := h1.loc (fun a m => by obtain ⟨u, e, _⟩ := h3 a m; exact upd_ne (ne_of_none e hp)) (.of_same (same_new hp))
  refine ⟨p :: fp, ⟨[p], fp, rfl, ⟨rfl, upd_same⟩, q⟩, List.nodup_cons.mpr ⟨fun m => ?_, h2⟩, fun a m => ?_⟩
  · obtain ⟨u, e, _⟩ := h3 p m
    rw [hp] at e; cases e
  · rcases List.mem_cons.mp m with rfl | m
    · exact ⟨o, upd_same, n⟩
    · obtain ⟨u, e, z⟩ := h3 a m
      exact ⟨u, by rw [upd_ne (ne_of_none e hp)]; exact e, z⟩
/-- a store at the first one's place -/
theorem Sep.put1 {H : Hp} {M : List (Asn G)} {a : Addr} {o o' : HO} (h : Sep H (cell a o :: M)) (n : per G o' = false) (kd : kindOf o' = kindOf o) : Sep (upd H a o') (cell a o' :: M) := by
  obtain ⟨fp, ⟨f1, f2, e, ⟨e1, ho⟩, k⟩, h2, h3⟩ := h
  subst e1; subst e
  have nd : ¬ a ∈ f2 := (List.nodup_cons.mp h2).1
  obtain ⟨u, hu, nu⟩ := h3 a (by simp)
  have st : Stab G H (upd H a o') := stab_put ho (by rw [hu] at ho; cases ho; exact nu) kd
  refine ⟨a :: f2, ⟨[a], f2, rfl, ⟨rfl, upd_same⟩, k.loc (fun b m => upd_ne fun z => nd (z ▸ m)) st⟩, h2, fun b m => ?_⟩
  rcases List.mem_cons.mp m with rfl | m
  · exact ⟨o', upd_same, n⟩
  · obtain ⟨x, hx, nx⟩ := h3 b (by simp [m])
    exact ⟨x, by rw [upd_ne (fun z => nd (by rw [← z]; exact m))]; exact hx, nx⟩
theorem Sep.put {H : Hp} {M : List (Asn G)} {i : Nat} {a : Addr} {o o' : HO} (h : Sep H M) (e : M[i]? = some (cell a o)) (n : per G o' = false) (kd : kindOf o' = kindOf o) : Sep (upd H a o') (M.set i (cell a o')) :=
  ((h.perm (pull_perm e)).put1 n kd).perm (set_perm e)
/-- another view of the i-th one -/
theorem Sep.viewAt {A B : Asn G} {H : Hp} {M : List (Asn G)} {i : Nat} (h : Sep H M) (e : M[i]? = some A) (v : ∀ fp, A.sat H fp → B.sat H fp) : Sep H (M.set i B) :=
  ((h.perm (pull_perm e)).view v).perm (set_perm e)
end Ml
namespace Ml
open PySem L2
structure Exc where
  cls : Nat
  row : Int
  deriving DecidableEq, Repr
inductive R (α : Type) where
  | ok (a : α) | exc (x : Exc) | bad
  deriving DecidableEq, Repr
namespace R
variable {α β σ ρ : Type}
def bind : R α → (α → R β) → R β
  | .ok a, f => f a
  | .exc x, _ => .exc x
  | .bad, _ => .bad
@[simp] theorem bind_ok (a : α) (f : α → R β) : (R.ok a).bind f = f a := rfl
@[simp] theorem bind_exc (x : Exc) (f : α → R β) : (R.exc x : R α).bind f = .exc x := rfl
@[simp] theorem bind_bad (f : α → R β) : (R.bad : R α).bind f = .bad := rfl
def need (p : Prop) [Decidable p] (k : R α) : R α := if p then k else .bad
@[simp] theorem need_pos {p : Prop} [Decidable p] (h : p) (k : R α) : need p k = k := if_pos h
/-- what holds of the answer, or of the error -/
def wp : R α → (α → Prop) → (Exc → Prop) → Prop
  | .ok a, q, _ => q a
  | .exc x, _, e => e x
  | .bad, _, _ => False
theorem wp_bind {m : R α} {f : α → R β} {q : β → Prop} {e : Exc → Prop} (h : wp (m.bind f) q e) : wp m (fun a => wp (f a) q e) e := by
  cases m <;> exact h
theorem wp_need {p : Prop} [Decidable p] {k : R α} {q : α → Prop} {e : Exc → Prop} (h : wp (need p k) q e) : p ∧ wp k q e := by
  unfold need at h
  by_cases c : p
  · rw [if_pos c] at h; exact ⟨c, h⟩
  · rw [if_neg c] at h; exact h.elim
theorem wp_mono {m : R α} {q q' : α → Prop} {e e' : Exc → Prop} (h : wp m q e) (hq : ∀ a, q a → q' a) (he : ∀ x, e x → e' x) : wp m q' e' := by
  cases m with
  | ok a => exact hq a h
  | exc x => exact he x h
  | bad => exact h
theorem wp_of {m : R α} {a : α} {q : α → Prop} {e : Exc → Prop} (h : m = .ok a) (k : q a) : wp m q e := by rw [h]; exact k
theorem wp_if {c : Prop} [Decidable c] {a b : R α} {q : α → Prop} {e : Exc → Prop} (h : wp (if c then a else b) q e) : (c → wp a q e) ∧ (¬ c → wp b q e) := by
  by_cases x : c
  · rw [if_pos x] at h; exact ⟨fun _ => h, fun n => absurd x n⟩
  · rw [if_neg x] at h; exact ⟨fun y => absurd y x, fun _ => h⟩
end R
/-- a turn's end: on with s, out of the loop with s, out of the def with r -/
inductive Fl (σ ρ : Type) where
  | go (s : σ) | brk (s : σ) | out (r : ρ)
  deriving DecidableEq, Repr
section
variable {α β σ ρ : Type}
def forR (f : σ → α → R σ) : List α → σ → R σ
  | [], s => .ok s
  | x :: xs, s => (f s x).bind fun s => forR f xs s
def forF (f : σ → α → R (Fl σ ρ)) : List α → σ → R (Fl σ ρ)
  | [], s => .ok (.go s)
  | x :: xs, s => (f s x).bind fun r => match r with
    | .go s => forF f xs s
    | .brk s => .ok (.go s)
    | .out r => .ok (.out r)
/-- a comprehension: what each item gives, the state carried -/
def compR (f : σ → α → R (σ × Option β)) : List α → σ → R (σ × List β)
  | [], s => .ok (s, [])
  | x :: xs, s => (f s x).bind fun r => (compR f xs r.1).bind fun t => .ok (t.1, match r.2 with
    | some y => y :: t.2
    | none => t.2)
end
class Im (G : Gx) (α : Type) where
  im : Hp → V → α → Prop
  st : ∀ {H H' : Hp} {v : V} {x : α}, im H v x → Stab G H H' → im H' v x
class Fv (G : Gx) (α : Type) extends Im G α where
  enc : α → V
  im_iff : ∀ {H : Hp} {v : V} {x : α}, im H v x ↔ v = enc x
variable {G : Gx}
instance imInt : Im G Int := ⟨fun _ v x => v = .int x, fun h _ => h⟩
instance imBool : Im G Bool := ⟨fun _ v x => v = .bl x, fun h _ => h⟩
instance imStr : Im G Str := ⟨fun _ v x => v = .str x, fun h _ => h⟩
instance imUnit : Im G Unit := ⟨fun _ v _ => v = .non, fun h _ => h⟩
instance fInt : Fv G Int := { enc := .int, im_iff := .rfl }
instance fBool : Fv G Bool := { enc := .bl, im_iff := .rfl }
instance fStr : Fv G Str := { enc := .str, im_iff := .rfl }
instance fUnit : Fv G Unit := { enc := fun _ => .non, im_iff := .rfl }
/-- the script -/
structure Script where
  ns : List Int
instance : Im G Script := ⟨fun H v x => ∃ a, v = .ref a ∧ ((∃ o, H a = some (.frz o (.lst (x.ns.map V.int)))) ∨ ∃ o its n, List.lookup a G.K = some o ∧ o.cls = Value.type "list" ∧ o.dict = none ∧ o.data = Data.seq its n ∧ its.size ≤ sizeLine ∧ Vals (x.ns.map V.int) its.toList),
  fun ⟨a, e, h⟩ s => ⟨a, e, h.imp (fun ⟨o, h⟩ => ⟨o, s.1 a _ h rfl⟩) id⟩⟩
theorem im_script {H : Hp} {v : V} {x : Script} (h : Im.im G H v x) : ∃ a, v = .ref a ∧ SqL G.K H a (x.ns.map V.int) := by
  obtain ⟨a, e, h⟩ := h
  refine ⟨a, e, ?_⟩
  rcases h with ⟨o, h⟩ | h
  · exact .inl (.inr ⟨o, h⟩)
  · exact .inr h
theorem sq_script {H : Hp} {a : Addr} {x : Script} (h : Im.im G H (.ref a) x) : SqL G.K H a (x.ns.map V.int) := by
  obtain ⟨b, e, h⟩ := im_script h
  cases e; exact h
def imL {α : Type} [Im G α] (H : Hp) : List V → List α → Prop
  | [], [] => True
  | v :: vs, x :: xs => Im.im G H v x ∧ imL H vs xs
  | _, _ => False
section
variable {α : Type} [Im G α] {H H' : Hp}
theorem imL.st : ∀ {vs : List V} {xs : List α}, imL (G := G) H vs xs → Stab G H H' → imL (G := G) H' vs xs
  | [], [], _, _ => True.intro
  | v :: vs, x :: xs, h, s => ⟨Im.st h.1 s, imL.st h.2 s⟩
  | [], _ :: _, h, _ => h
  | _ :: _, [], h, _ => h
theorem imL.len : ∀ {vs : List V} {xs : List α}, imL (G := G) H vs xs → vs.length = xs.length
  | [], [], _ => rfl
  | v :: vs, x :: xs, h => by rw [List.length_cons, List.length_cons, imL.len h.2]
  | [], _ :: _, h => h.elim
  | _ :: _, [], h => h.elim
theorem imL.app : ∀ {vs ws : List V} {xs ys : List α}, imL (G := G) H vs xs → imL (G := G) H ws ys → imL (G := G) H (vs ++ ws) (xs ++ ys)
  | [], _, [], _, _, h => h
  | v :: vs, _, x :: xs, _, h, k => ⟨h.1, imL.app h.2 k⟩
  | [], _, _ :: _, _, h, _ => h.elim
  | _ :: _, _, [], _, h, _ => h.elim
theorem imL.get : ∀ {vs : List V} {xs : List α} {i : Nat} {x : α}, imL (G := G) H vs xs → xs[i]? = some x → ∃ v, vs[i]? = some v ∧ Im.im G H v x
  | [], [], _, _, _, e => by simp at e
  | v :: vs, x :: xs, 0, y, h, e => by
    have : x = y := Option.some.inj e
    subst this
    exact ⟨v, rfl, h.1⟩
  | v :: vs, x :: xs, i + 1, y, h, e => by
    obtain ⟨u, h1, h2⟩ := imL.get (i := i) (x := y) h.2 (by simpa using e)
    exact ⟨u, by simpa using h1, h2⟩
  | [], _ :: _, _, _, h, _ => h.elim
  | _ :: _, [], _, _, h, _ => h.elim
theorem imL.set : ∀ {vs : List V} {xs : List α} {i : Nat} {x : α} {v : V}, imL (G := G) H vs xs → Im.im G H v x → imL (G := G) H (vs.set i v) (xs.set i x)
  | [], [], _, _, _, _, _ => True.intro
  | v :: vs, x :: xs, 0, y, u, h, k => ⟨k, h.2⟩
  | v :: vs, x :: xs, i + 1, y, u, h, k => ⟨h.1, imL.set h.2 k⟩
  | [], _ :: _, _, _, _, h, _ => h.elim
  | _ :: _, [], _, _, _, h, _ => h.elim
theorem imL.take : ∀ {vs : List V} {xs : List α} (n : Nat), imL (G := G) H vs xs → imL (G := G) H (vs.take n) (xs.take n)
  | [], [], n, _ => by simp [imL]
  | v :: vs, x :: xs, 0, h => True.intro
  | v :: vs, x :: xs, n + 1, h => ⟨h.1, imL.take n h.2⟩
  | [], _ :: _, _, h => h.elim
  | _ :: _, [], _, h => h.elim
theorem imL.drop : ∀ {vs : List V} {xs : List α} (n : Nat), imL (G := G) H vs xs → imL (G := G) H (vs.drop n) (xs.drop n)
  | [], [], n, _ => by simp [imL]
  | v :: vs, x :: xs, 0, h => h
  | v :: vs, x :: xs, n + 1, h => imL.drop n h.2
  | [], _ :: _, _, h => h.elim
  | _ :: _, [], _, h => h.elim
end
section
variable {α : Type} [Fv G α] {H H' : Hp}
theorem imL.flat : ∀ {vs : List V} {xs : List α}, imL (G := G) H vs xs ↔ vs = xs.map (Fv.enc G)
  | [], [] => ⟨fun _ => rfl, fun _ => True.intro⟩
  | v :: vs, x :: xs => by
    show (Im.im G H v x ∧ imL (G := G) H vs xs) ↔ _
    rw [Fv.im_iff, imL.flat]
    simp
  | [], _ :: _ => by simp [imL]
  | _ :: _, [] => by simp [imL]
end
section
variable {α : Type} [Im G α]
def lstA (a : Addr) (xs : List α) : Asn G := ⟨fun H fp => fp = [a] ∧ ∃ vs, H a = some (.lst vs) ∧ imL (G := G) H vs xs,
  fun H H' fp ⟨e, vs, h, m⟩ k s => ⟨e, vs, by rw [k a (by rw [e]; simp)]; exact h, m.st s⟩⟩
/-- a value's fact -/
def imA (v : V) (x : α) : Asn G := fact (fun H => Im.im G H v x) fun H H' h s => Im.st h s
variable {H : Hp} {L : List (Asn G)}
theorem Sep.lst (h : Sep H L) {i : Nat} {a : Addr} {xs : List α} (e : L[i]? = some (lstA a xs)) : ∃ vs, H a = some (.lst vs) ∧ imL (G := G) H vs xs := by
  obtain ⟨fp, _, x⟩ := h.at e
  exact x
theorem Sep.im (h : Sep H L) {i : Nat} {v : V} {x : α} (e : L[i]? = some (imA v x)) : Im.im G H v x := h.getFact e
theorem Sep.addIm (h : Sep H L) {v : V} {x : α} (e : Im.im G H v x) : Sep H (imA v x :: L) := h.addFact e
/-- the list's own cell, and back -/
theorem Sep.openL (h : Sep H L) {i : Nat} {a : Addr} {xs : List α} (e : L[i]? = some (lstA a xs)) : ∃ vs, imL (G := G) H vs xs ∧ Sep H (L.set i (cell a (.lst vs))) := by
  obtain ⟨vs, e1, m⟩ := h.lst e
  exact ⟨vs, m, h.viewAt e fun fp ⟨q, _⟩ => ⟨q, e1⟩⟩
theorem Sep.closeL {i : Nat} {a : Addr} {vs : List V} {xs : List α} (h : Sep H L) (e : L[i]? = some (cell a (.lst vs))) (m : imL (G := G) H vs xs) : Sep H (L.set i (lstA a xs)) :=
  h.viewAt e fun fp ⟨q, r⟩ => ⟨q, vs, r, m⟩
theorem Sep.newL (h : Sep H L) {p : Addr} {vs : List V} {xs : List α} (hp : H p = none) (m : imL (G := G) H vs xs) : Sep (upd H p (.lst vs)) (lstA p xs :: L) :=
  (h.new (o := .lst vs) hp rfl).view fun fp ⟨q, r⟩ => ⟨q, vs, r, m.st (.of_same (same_new hp))⟩
theorem set_set {β : Type} {l : List β} {i : Nat} {x y : β} : (l.set i x).set i y = l.set i y := by simp
theorem get_set {β : Type} {l : List β} {i : Nat} {x y : β} (h : l[i]? = some x) : (l.set i y)[i]? = some y := by
  have : i < l.length := by
    have := List.getElem?_eq_some_iff.mp h
    exact this.1
  simp [this]
theorem Sep.putL (h : Sep H L) {i : Nat} {a : Addr} {xs ys : List α} {vs : List V} (e : L[i]? = some (lstA a xs)) (m : imL (G := G) H vs ys) : Sep (upd H a (.lst vs)) (L.set i (lstA a ys)) := by
  obtain ⟨us, mu, h1⟩ := h.openL e
  have e1 := get_set (y := cell (G := G) a (.lst us)) e
  have h2 := h1.put (o' := .lst vs) e1 rfl rfl
  rw [set_set] at h2
  have st : Stab G H (upd H a (.lst vs)) := stab_put (h1.getCell e1) rfl rfl
  have h3 := h2.closeL (get_set e) (m.st st)
  rw [set_set] at h3
  exact h3
end
end Ml
namespace Ml
open PySem L2
variable {G : Gx}
def Ev (te : TE) (σ : St) (H : Hp) (v : V) : Prop := ∀ Q : VK, Q v H → te σ H Q
def Et (t : TT) (σ : St) (H : Hp) (b : Bool) : Prop := ∀ Q : Bool → Hp → Prop, Q b H → t σ H Q
def Ea (t : TA) (σ : St) (H : Hp) (vs : List V) : Prop := ∀ Q : List V → Hp → Prop, Q vs H → t σ H Q
def Eo (t : TO) (σ : St) (H : Hp) (o : Option Int) : Prop := ∀ Q : Option Int → Hp → Prop, Q o H → t σ H Q
section
variable {σ : St} {H : Hp} {ta tb tc te : TE} {t u : TT} {x y v : V} {i j : Int} {a b : Bool} {s z : Str} {vs : List V}
theorem ev_var {k : Nat} (h : σ[k]? = some (some v)) : Ev (tVar k) σ H v := fun _ q => ⟨v, h, q⟩
theorem ev_c : Ev (tC v) σ H v := fun _ q => q
theorem ev_op {r : R2} (ha : Ev ta σ H x) (hb : Ev tb σ H y) (hr : ∀ Q : VK, Q v H → r x y H Q) : Ev (tOp r ta tb) σ H v := fun Q q => ha _ (hb _ (hr _ q))
theorem r_I0 {g : Int → Int → V} (Q : VK) (q : Q (g i j) H) : rI0 g (.int i) (.int j) H Q := ⟨i, j, rfl, rfl, q⟩
theorem r_I {C : Int → Int → Prop} {g : Int → Int → V} (c : C i j) (Q : VK) (q : Q (g i j) H) : rI C g (.int i) (.int j) H Q := ⟨i, j, rfl, rfl, c, q⟩
theorem ev_i0 {g : Int → Int → V} (ha : Ev ta σ H (.int i)) (hb : Ev tb σ H (.int j)) : Ev (tOp (rI0 g) ta tb) σ H (g i j) := ev_op ha hb fun Q q => r_I0 Q q
theorem ev_i {C : Int → Int → Prop} {g : Int → Int → V} (ha : Ev ta σ H (.int i)) (hb : Ev tb σ H (.int j)) (c : C i j) : Ev (tOp (rI C g) ta tb) σ H (g i j) := ev_op ha hb fun Q q => r_I c Q q
theorem ev_mul (ha : Ev ta σ H (.int i)) (hb : Ev tb σ H (.int j)) (c : CMul i j) : Ev (tOp (rI CMul fun i j => .int (i * j)) ta tb) σ H (.int (i * j)) := ev_i ha hb c
theorem ev_fdiv (ha : Ev ta σ H (.int i)) (hb : Ev tb σ H (.int j)) (c : 0 < j ∧ j < 1073741824) : Ev (tOp (rI CDiv fun i j => .int (i / j)) ta tb) σ H (.int (i / j)) := ev_i ha hb c
theorem ev_mod (ha : Ev ta σ H (.int i)) (hb : Ev tb σ H (.int j)) (c : 0 < j) : Ev (tOp (rI (fun _ j => 0 < j) fun i j => .int (i % j)) ta tb) σ H (.int (i % j)) := ev_i ha hb c
theorem ev_add (ha : Ev ta σ H (.int i)) (hb : Ev tb σ H (.int j)) : Ev (tOp (rI0 fun i j => .int (i + j)) ta tb) σ H (.int (i + j)) := ev_i0 ha hb
theorem ev_sub (ha : Ev ta σ H (.int i)) (hb : Ev tb σ H (.int j)) : Ev (tOp (rI0 fun i j => .int (i - j)) ta tb) σ H (.int (i - j)) := ev_i0 ha hb
theorem r_eqI (Q : VK) (q : Q (.bl (decide (i = j))) H) : rEq (.int i) (.int j) H Q := ⟨rfl, by
  have : decide (V.int i = V.int j) = decide (i = j) := by simp
  rw [this]; exact q⟩
theorem r_eqS (Q : VK) (q : Q (.bl (decide (s = z))) H) : rEq (.str s) (.str z) H Q := ⟨rfl, by
  have : decide (V.str s = V.str z) = decide (s = z) := by simp
  rw [this]; exact q⟩
theorem r_neS (Q : VK) (q : Q (.bl (!decide (s = z))) H) : rNe (.str s) (.str z) H Q := ⟨rfl, by
  have : decide (V.str s = V.str z) = decide (s = z) := by simp
  rw [this]; exact q⟩
theorem ev_eqI (ha : Ev ta σ H (.int i)) (hb : Ev tb σ H (.int j)) : Ev (tOp rEq ta tb) σ H (.bl (decide (i = j))) := ev_op ha hb fun Q q => r_eqI Q q
theorem ev_eqS (ha : Ev ta σ H (.str s)) (hb : Ev tb σ H (.str z)) : Ev (tOp rEq ta tb) σ H (.bl (decide (s = z))) := ev_op ha hb fun Q q => r_eqS Q q
theorem ev_neS (ha : Ev ta σ H (.str s)) (hb : Ev tb σ H (.str z)) : Ev (tOp rNe ta tb) σ H (.bl (!decide (s = z))) := ev_op ha hb fun Q q => r_neS Q q
def rCatS : R2 := fun x y H Q => ∃ i j, x = .str i ∧ y = .str j ∧ i.length + j.length ≤ sizeLine ∧ Q (.str (i ++ j)) H
theorem op_catS {X : Cx} : OpR X (binaryOp .Add) rCatS := op_add_str
theorem r_catS (c : s.length + z.length ≤ sizeLine) (Q : VK) (q : Q (.str (s ++ z)) H) : rCatS (.str s) (.str z) H Q := ⟨s, z, rfl, rfl, c, q⟩
theorem ev_catS (ha : Ev ta σ H (.str s)) (hb : Ev tb σ H (.str z)) (c : s.length + z.length ≤ sizeLine) : Ev (tOp rCatS ta tb) σ H (.str (s ++ z)) := ev_op ha hb fun Q q => r_catS c Q q
theorem et_test (h : Ev te σ H (.bl b)) : Et (tTest te) σ H b := fun _ q => h _ ⟨b, rfl, q⟩
theorem et_B (h : Ev te σ H (.bl b)) : Et (tB te) σ H b := fun _ q => h _ ⟨b, rfl, q⟩
theorem et_not (h : Et t σ H a) : Et (tNot t) σ H (!a) := fun _ q => h _ q
theorem ea_nil : Ea tNil σ H [] := fun _ q => q
theorem ea_cons {tr : TA} (h : Ev ta σ H x) (hr : Ea tr σ H vs) : Ea (tCons ta tr) σ H (x :: vs) := fun _ q => h _ (hr _ q)
theorem eo_some (h : Ev te σ H (.int i)) : Eo (tPart te) σ H (some i) := fun _ q => h _ ⟨i, rfl, q⟩
theorem ev_cb {r : List V → Hp → VK → Prop} {tr : TA} (h : Ea tr σ H vs) (hr : ∀ Q : VK, Q v H → r vs H Q) : Ev (tCB r tr) σ H v := fun Q q => h _ (hr _ q)
variable {K : PySem.W.Frag} {α : Type}
theorem ev_ixSq {p : Addr} {ws : List V} (ha : Ev ta σ H (.ref p)) (hb : Ev tb σ H (.int i)) (hs : SqL K H p ws) (e : atI ws i = some v) : Ev (tOp (rIxL K) ta tb) σ H v := ev_op ha hb fun _ q => ⟨p, ws, i, v, rfl, rfl, hs, e, q⟩
theorem ev_ixS {c : Nat} (ha : Ev ta σ H (.str z)) (hb : Ev tb σ H (.int i)) (hl : z.length ≤ sizeLine) (e : atI z.cps.toList i = some c) : Ev (tOp rIxS ta tb) σ H (.str ⟨#[c]⟩) := ev_op ha hb fun _ q => ⟨z, i, c, rfl, rfl, hl, e, q⟩
def rLenSq (K : PySem.W.Frag) : List V → Hp → VK → Prop := fun xs H Q => ∃ p ys, xs = [.ref p] ∧ (SqL K H p ys ∨ SqT K H p ys) ∧ Q (.int ys.length) H
theorem call_lenSq {X : Cx} : CallR X (.builtin "len") (rLenSq X.K) := call_len_seq
theorem ev_lenL {p : Addr} {ws : List V} (ha : Ev ta σ H (.ref p)) (hs : SqL K H p ws) : Ev (tCB (rLenSq K) (tCons ta tNil)) σ H (.int ws.length) := ev_cb (ea_cons ha ea_nil) fun _ q => ⟨p, ws, rfl, .inl hs, q⟩
end
section
variable {σ σ' : St} {H : Hp} {te : TE} {t : TT} {D : Ends} {t1 t2 tb : TS} {v : V} {b : Bool}
theorem ev_to (h : Ev te σ H v) {Q : VK} (q : Q v H) : te σ H Q := h Q q
theorem ea_to {t : TA} {vs : List V} (h : Ea t σ H vs) {Q : List V → Hp → Prop} (q : Q vs H) : t σ H Q := h Q q
theorem eo_to {t : TO} {o : Option Int} (h : Eo t σ H o) {Q : Option Int → Hp → Prop} (q : Q o H) : t σ H Q := h Q q
theorem et_to (h : Et t σ H b) {Q : Bool → Hp → Prop} (q : Q b H) : t σ H Q := h Q q
end
section
variable {α β τ ρ : Type} {H : Hp} {σ : St} {D : Ends} {tb : TS} {g : TG} {K : PySem.W.Frag}
/-- a walk J over the items xs: at turn i it yields a v of which the i-th item holds -/
structure Wk (J : It) (I : St → Hp → Prop) (im : Hp → V → α → Prop) (xs : List α) : Prop where
  go : ∀ i σ H, I σ H → i < xs.length → J.go i H
  yl : ∀ i σ H v H' x, I σ H → xs[i]? = some x → J.yld i H v H' → I σ H' ∧ im H' v x
  sp : ∀ σ H, I σ H → J.stop xs.length H
/-- for .. in ..: the state s : τ, I s its place in slots and heap; each turn reckons f -/
theorem for_walk {J : It} {I : τ → St → Hp → Prop} {im : Hp → V → α → Prop} {xs : List α} {f : τ → α → R τ} {k : τ → Prop} {e : Exc → Prop} {s : τ}
    (w : ∀ s, Wk J (I s) im xs) (h0 : I s σ H) (hm : R.wp (forR f xs s) k e)
    (turn : ∀ (s : τ) (x : α) (v : V) (σ : St) (H : Hp) (q : τ → Prop) (N : St → Hp → Prop), I s σ H → im H v x → R.wp (f s x) q e → (∀ s' σ' H', q s' → I s' σ' H' → N σ' H') → g v σ H fun σ2 H2 => tb { D with nx := N, ct := N, bk := D.nx } σ2 H2)
    (done : ∀ s σ H, k s → I s σ H → D.nx σ H) :
    ∃ W : Nat → Nat → St → Hp → Prop, (∃ m, W 0 m σ H) ∧ ∀ i m σ H, W i m σ H →
      (J.stop i H ∧ D.nx σ H) ∨ (J.go i H ∧ ∃ N : St → Hp → Prop, (∀ σ' H', N σ' H' → ∃ m', m' < m ∧ W (i + 1) m' σ' H') ∧ ∀ x H', J.yld i H x H' → g x σ H' fun σ2 H2 => tb { D with nx := N, ct := N, bk := D.nx } σ2 H2) := by
  refine ⟨fun i m σ H => m = xs.length - i ∧ i ≤ xs.length ∧ ∃ s, I s σ H ∧ R.wp (forR f (xs.drop i) s) k e, ⟨xs.length, by simp, Nat.zero_le _, s, h0, by simpa using hm⟩, ?_⟩
  rintro i m σ H ⟨rfl, hi, s, hI, hw⟩
  by_cases c : i < xs.length
  · have ed : xs.drop i = xs[i] :: xs.drop (i + 1) := List.drop_eq_getElem_cons c
    rw [ed] at hw
    refine .inr ⟨(w s).go i σ H hI c, fun σ' H' => ∃ s', I s' σ' H' ∧ R.wp (forR f (xs.drop (i + 1)) s') k e, fun σ' H' ⟨s', h1, h2⟩ => ⟨xs.length - (i + 1), by omega, rfl, c, s', h1, h2⟩, fun v H' y => ?_⟩
    obtain ⟨hI', hv⟩ := (w s).yl i σ H v H' xs[i] hI (List.getElem?_eq_getElem c) y
    exact turn s xs[i] v σ H' _ _ hI' hv (R.wp_bind hw) fun s' σ' H'' q hI'' => ⟨s', hI'', q⟩
  · have ei : i = xs.length := by omega
    subst ei
    rw [List.drop_length] at hw
    exact .inl ⟨(w s).sp σ H hI, done s σ H hw hI⟩
/-- .. whose turns may leave it -/
theorem for_walkF {J : It} {I : τ → St → Hp → Prop} {im : Hp → V → α → Prop} {xs : List α} {f : τ → α → R (Fl τ ρ)} {k : Fl τ ρ → Prop} {e : Exc → Prop} {s : τ}
    (w : ∀ s, Wk J (I s) im xs) (h0 : I s σ H) (hm : R.wp (forF f xs s) k e)
    (turn : ∀ (s : τ) (x : α) (v : V) (σ : St) (H : Hp) (q : Fl τ ρ → Prop) (N B : St → Hp → Prop), I s σ H → im H v x → R.wp (f s x) q e → (∀ s' σ' H', q (.go s') → I s' σ' H' → N σ' H') → (∀ s' σ' H', q (.brk s') → I s' σ' H' → B σ' H') → (∀ r, q (.out r) → k (.out r)) →
      g v σ H fun σ2 H2 => tb { D with nx := N, ct := N, bk := B } σ2 H2)
    (done : ∀ s σ H, k (.go s) → I s σ H → D.nx σ H) :
    ∃ W : Nat → Nat → St → Hp → Prop, (∃ m, W 0 m σ H) ∧ ∀ i m σ H, W i m σ H →
      (J.stop i H ∧ D.nx σ H) ∨ (J.go i H ∧ ∃ N : St → Hp → Prop, (∀ σ' H', N σ' H' → ∃ m', m' < m ∧ W (i + 1) m' σ' H') ∧ ∀ x H', J.yld i H x H' → g x σ H' fun σ2 H2 => tb { D with nx := N, ct := N, bk := D.nx } σ2 H2) := by
  refine ⟨fun i m σ H => m = xs.length - i ∧ i ≤ xs.length ∧ ∃ s, I s σ H ∧ R.wp (forF f (xs.drop i) s) k e, ⟨xs.length, by simp, Nat.zero_le _, s, h0, by simpa using hm⟩, ?_⟩
  rintro i m σ H ⟨rfl, hi, s, hI, hw⟩
  by_cases c : i < xs.length
  · have ed : xs.drop i = xs[i] :: xs.drop (i + 1) := List.drop_eq_getElem_cons c
    rw [ed] at hw
    refine .inr ⟨(w s).go i σ H hI c, fun σ' H' => ∃ s', I s' σ' H' ∧ R.wp (forF f (xs.drop (i + 1)) s') k e, fun σ' H' ⟨s', h1, h2⟩ => ⟨xs.length - (i + 1), by omega, rfl, c, s', h1, h2⟩, fun v H' y => ?_⟩
    obtain ⟨hI', hv⟩ := (w s).yl i σ H v H' xs[i] hI (List.getElem?_eq_getElem c) y
    have hw' := R.wp_bind hw
    exact turn s xs[i] v σ H' _ _ _ hI' hv hw' (fun s' σ' H'' q hI'' => ⟨s', hI'', q⟩) (fun s' σ' H'' q hI'' => done s' σ' H'' q hI'') fun r q => q
  · have ei : i = xs.length := by omega
    subst ei
    rw [List.drop_length] at hw
    exact .inl ⟨(w s).sp σ H hI, done s σ H hw hI⟩
/-- a comprehension -/
theorem lc_walk {J : It} {I : Addr → τ → List β → Hp → Prop} {im : Hp → V → α → Prop} [Im G β] {xs : List α} {f : τ → α → R (τ × Option β)} {k : τ × List β → Prop} {e : Exc → Prop} {s : τ} {tt : TT} {te : TE} {vs : List Nat} {Q : VK} {Dr : Addr}
    (w : ∀ s ys, Wk J (fun _ H => I Dr s ys H) im xs) (h0 : I Dr s [] (upd H Dr (.lst []))) (hm : R.wp (compR f xs s) k e) (hl : xs.length ≤ sizeLine)
    (turn : ∀ (s : τ) (ys : List β) (x : α) (v : V) (H : Hp) (q : τ × Option β → Prop) (Nx : Hp → Prop), I Dr s ys H → im H v x → R.wp (f s x) q e → ys.length < sizeLine →
      (∀ s' y u H', q (s', some y) → Im.im G H' u y → I Dr s' ys H' → ∃ acc, H' Dr = some (.lst acc) ∧ acc.length < sizeLine ∧ Nx (upd H' Dr (.lst (acc ++ [u])))) → (∀ s' H', q (s', none) → I Dr s' ys H' → Nx H') →
      g v (wipe σ vs) H fun σ2 H2 => wipe σ2 vs = wipe σ vs ∧ tt σ2 H2 fun b H3 => if b = true then te σ2 H3 fun y H4 => ∃ acc, H4 Dr = some (.lst acc) ∧ acc.length < sizeLine ∧ Nx (upd H4 Dr (.lst (acc ++ [y]))) else Nx H3)
    (app : ∀ s ys y u H, I Dr s ys H → Im.im G H u y → ∃ acc, H Dr = some (.lst acc) ∧ acc.length = ys.length ∧ I Dr s (ys ++ [y]) (upd H Dr (.lst (acc ++ [u]))))
    (done : ∀ s ys H, k (s, ys) → I Dr s ys H → Q (.ref Dr) H) :
    ∃ W : Nat → Nat → Hp → Prop, (∃ m, W 0 m (upd H Dr (.lst []))) ∧ ∀ i m H, W i m H →
      (J.stop i H ∧ Q (.ref Dr) H) ∨ (J.go i H ∧ ∃ Nx : Hp → Prop, (∀ H', Nx H' → ∃ m', m' < m ∧ W (i + 1) m' H') ∧ ∀ x H', J.yld i H x H' → g x (wipe σ vs) H' fun σ2 H2 => wipe σ2 vs = wipe σ vs ∧ tt σ2 H2 fun b H3 =>
        if b = true then te σ2 H3 fun y H4 => ∃ acc, H4 Dr = some (.lst acc) ∧ acc.length < sizeLine ∧ Nx (upd H4 Dr (.lst (acc ++ [y]))) else Nx H3) := by
  refine ⟨fun i m H => m = xs.length - i ∧ i ≤ xs.length ∧ ∃ s ys, ys.length ≤ i ∧ I Dr s ys H ∧ R.wp (compR f (xs.drop i) s) (fun t => k (t.1, ys ++ t.2)) e, ⟨xs.length, by simp, Nat.zero_le _, s, [], Nat.le_refl _, h0, by simpa using hm⟩, ?_⟩
  rintro i m H ⟨rfl, hi, s, ys, hy, hI, hw⟩
  by_cases c : i < xs.length
  · have ed : xs.drop i = xs[i] :: xs.drop (i + 1) := List.drop_eq_getElem_cons c
    rw [ed] at hw
    refine .inr ⟨(w s ys).go i [] H hI c, fun H' => ∃ s' ys', ys'.length ≤ i + 1 ∧ I Dr s' ys' H' ∧ R.wp (compR f (xs.drop (i + 1)) s') (fun t => k (t.1, ys' ++ t.2)) e,
      fun H' ⟨s', ys', h0, h1, h2⟩ => ⟨xs.length - (i + 1), by omega, rfl, c, s', ys', h0, h1, h2⟩, fun v H' y => ?_⟩
    obtain ⟨hI', hv⟩ := (w s ys).yl i [] H v H' xs[i] hI (List.getElem?_eq_getElem c) y
    have hw' := R.wp_bind hw
    refine turn s ys xs[i] v H' _ _ hI' hv hw' (by omega) (fun s' y u H'' q hu hI'' => ?_) (fun s' H'' q hI'' => ?_)
    · have q' := R.wp_bind q
      obtain ⟨acc, ea, la, hI3⟩ := app s' ys y u H'' hI'' hu
      refine ⟨acc, ea, by omega, s', ys ++ [y], by simp; omega, hI3, ?_⟩
      refine R.wp_mono q' (fun t ht => ?_) fun _ z => z
      have ht' : k (t.1, ys ++ y :: t.2) := ht
      rw [List.append_assoc]; exact ht'
    · have q' := R.wp_bind q
      exact ⟨s', ys, by omega, hI'', R.wp_mono q' (fun t ht => ht) fun _ z => z⟩
  · have ei : i = xs.length := by omega
    subst ei
    rw [List.drop_length] at hw
    have hw : k (s, ys ++ []) := hw
    rw [List.append_nil] at hw
    exact .inl ⟨(w s ys).sp [] H hI, done s ys H hw hI⟩
end
end Ml
namespace Ml
open PySem L2
variable {G : Gx}
def idxR {α : Type} (xs : List α) (i : Int) : R α := match atI xs i with
  | some x => .ok x
  | none => .bad
theorem wp_idx {α ρ : Type} {xs : List α} {i : Int} {f : α → R ρ} {q : ρ → Prop} {e : Exc → Prop} (h : R.wp ((idxR xs i).bind f) q e) : ∃ x, atI xs i = some x ∧ R.wp (f x) q e := by
  unfold idxR at h
  cases c : atI xs i with
  | some x => rw [c] at h; exact ⟨x, rfl, h⟩
  | none => rw [c] at h; exact h.elim
theorem atI_map {α β : Type} {xs : List α} {f : α → β} {i : Int} {x : α} (h : atI xs i = some x) : atI (xs.map f) i = some (f x) := by
  unfold atI at h ⊢
  rw [List.length_map]
  cases e : ixN xs.length i with
  | none => rw [e] at h; cases h
  | some j =>
    rw [e] at h
    show (xs.map f)[j]? = some (f x)
    have h : xs[j]? = some x := h
    rw [List.getElem?_map, h]; rfl
theorem atI_im {α : Type} [Im G α] {H : Hp} {vs : List V} {xs : List α} {i : Int} {x : α} (m : imL (G := G) H vs xs) (h : atI xs i = some x) : ∃ v, atI vs i = some v ∧ Im.im G H v x := by
  unfold atI at h ⊢
  rw [m.len]
  cases e : ixN xs.length i with
  | none => rw [e] at h; cases h
  | some j =>
    rw [e] at h
    exact m.get h
theorem atI_ok {α : Type} {xs : List α} {i : Int} (h0 : 0 ≤ i) (h1 : i < xs.length) : ∃ x, xs[i.toNat]? = some x ∧ atI xs i = some x := by
  have hj : i.toNat < xs.length := by omega
  refine ⟨xs[i.toNat], List.getElem?_eq_getElem hj, ?_⟩
  unfold atI ixN
  rw [if_pos h0, if_pos h1]
  exact List.getElem?_eq_getElem hj
theorem idxR_ok {α : Type} {xs : List α} {i : Int} {x : α} (h0 : 0 ≤ i) (h1 : xs[i.toNat]? = some x) : idxR xs i = .ok x := by
  have hl : i.toNat < xs.length := (List.getElem?_eq_some_iff.mp h1).1
  obtain ⟨y, hy, h⟩ := atI_ok (xs := xs) h0 (by omega)
  rw [h1] at hy; cases hy
  unfold idxR; rw [h]
/-- one sign as a text -/
abbrev sg (c : Nat) : Str := ⟨#[c]⟩
def mulOk (i j : Int) : Prop := (-(2 ^ 64) < i ∧ i < 2 ^ 64) ∨ (-(2 ^ 64) < j ∧ j < 2 ^ 64)
instance (i j : Int) : Decidable (mulOk i j) := by unfold mulOk; infer_instance
def rngL (lo : Int) (n : Nat) : List Int := (List.range n).map fun (i : Nat) => lo + (i : Int)
theorem rngL_len (lo : Int) (n : Nat) : (rngL lo n).length = n := by simp [rngL]
theorem rngL_get {lo : Int} {n i : Nat} {x : Int} (h : (rngL lo n)[i]? = some x) : x = lo + (i : Int) ∧ i < n := by
  have hl : i < (rngL lo n).length := (List.getElem?_eq_some_iff.mp h).1
  rw [rngL_len] at hl
  unfold rngL at h
  rw [List.getElem?_map, List.getElem?_range hl] at h
  exact ⟨(Option.some.inj h).symm, hl⟩
section
variable {α τ : Type} {I : St → Hp → Prop} {K : PySem.W.Frag} {a : Addr}
theorem wk_list [Im G α] {xs : List α} (h : ∀ σ H, I σ H → ∃ vs, SqL K H a vs ∧ imL (G := G) H vs xs) : Wk (Itl K a) I (Im.im G) xs where
  go := fun i σ H hI hi => by
    obtain ⟨vs, s, m⟩ := h σ H hI
    have hl : i < vs.length := by rw [m.len]; exact hi
    exact ⟨vs, vs[i], s, List.getElem?_eq_getElem hl⟩
  yl := fun i σ H v H' x hI hx y => by
    obtain ⟨vs, s, m⟩ := h σ H hI
    obtain ⟨rfl, y⟩ := y
    obtain ⟨u, hu, im⟩ := m.get hx
    have e := y vs s
    rw [hu] at e; cases e
    exact ⟨hI, im⟩
  sp := fun σ H hI => by
    obtain ⟨vs, s, m⟩ := h σ H hI
    exact ⟨vs, s, by rw [m.len]; exact Nat.le_refl _⟩
theorem wk_range {lo : Int} {n : Nat} : Wk (Itr lo n) I (fun _ v (x : Int) => v = .int x) (rngL lo n) where
  go := fun i σ H _ hi => by rw [rngL_len] at hi; exact hi
  yl := fun i σ H v H' x hI hx y => by
    obtain ⟨rfl, y⟩ := y
    obtain ⟨e, _⟩ := rngL_get hx
    exact ⟨hI, by rw [y, e]⟩
  sp := fun σ H _ => by rw [rngL_len]; exact Nat.le_refl _
end
theorem Sep.sq {α : Type} [Im G α] {H : Hp} {L : List (Asn G)} (h : Sep H L) {i : Nat} {a : Addr} {xs : List α} (e : L[i]? = some (lstA a xs)) : ∃ vs, SqL G.K H a vs ∧ imL (G := G) H vs xs := by
  obtain ⟨vs, e, m⟩ := h.lst e
  exact ⟨vs, .inl (.inl e), m⟩
theorem Sep.sqF {α : Type} [Fv G α] {H : Hp} {L : List (Asn G)} (h : Sep H L) {i : Nat} {a : Addr} {xs : List α} (e : L[i]? = some (lstA a xs)) : SqL G.K H a (xs.map (Fv.enc G)) := by
  obtain ⟨vs, e, m⟩ := h.sq e
  rw [imL.flat.mp m] at e
  exact e
section
variable {σ σ' : St} {H : Hp} {L L' : List (Asn G)} {D : Ends} {Q : VK} {te ta tb : TE} {α β : Type}
theorem c_op {r : R2} (h : ta σ H fun x H1 => tb σ H1 fun y H2 => r x y H2 Q) : tOp r ta tb σ H Q := h
theorem c_cons {tr : TA} {P : List V → Hp → Prop} (h : ta σ H fun x H1 => tr σ H1 fun xs H2 => P (x :: xs) H2) : tCons ta tr σ H P := h
theorem c_nil {P : List V → Hp → Prop} (h : P [] H) : tNil σ H P := h
theorem c_call {sp : Sp} {dvs : List V} {E : XK} {t : TA} (h : t σ H fun vs H1 => sp (vs ++ dvs) H1 Q E) : tCall sp dvs E t σ H Q := h
theorem c_cb {r : List V → Hp → VK → Prop} {t : TA} (h : t σ H fun vs H1 => r vs H1 Q) : tCB r t σ H Q := h
theorem c_asg {i : Nat} (h : te σ H fun v H1 => D.nx (σ.set i (some v)) H1) : tAsg te (gName i) D σ H := h
theorem c_ret (h : te σ H D.rt) : tRet te D σ H := h
theorem c_drop (h : te σ H fun _ H1 => D.nx σ H1) : tDrop te D σ H := h
theorem c_set {i : Nat} {v : V} (e : σ.set i (some v) = σ') (h : D.nx σ' H) : D.nx (σ.set i (some v)) H := by rw [e]; exact h
/-- a new list of written items -/
def lstK (Q : VK) : List V → Hp → Prop := fun xs H1 => xs.length ≤ sizeLine ∧ ∀ p, H1 p = none → Q (.ref p) (upd H1 p (.lst xs))
def tupK (Q : VK) : List V → Hp → Prop := fun xs H1 => xs.length ≤ sizeLine ∧ ∀ p, H1 p = none → Q (.ref p) (upd H1 p (.tup xs))
theorem k_lst [Im G α] {vs : List V} {xs : List α} (hS : Sep H L) (m : imL (G := G) H vs xs) (z : vs.length ≤ sizeLine) (k : ∀ p H', Sep H' (lstA p xs :: L) → Q (.ref p) H') :
    lstK Q vs H := ⟨z, fun p hp => k p _ (hS.newL hp m)⟩
theorem c_lst {t : TA} (h : t σ H (lstK Q)) : tLst t σ H Q := h
theorem c_tup {t : TA} (h : t σ H (tupK Q)) : tTup t σ H Q := h
theorem c_bm {K : PySem.W.Frag} {T : String} {r : V → List V → Hp → VK → Prop} {to : TE} {t : TA} (h : to σ H fun x H1 => tyV K T x H1 ∧ t σ H1 fun xs H2 => r x xs H2 Q) : tBM K T r to t σ H Q := h
theorem c_bm0 {K : PySem.W.Frag} {T : String} {r : V → List V → Hp → VK → Prop} {to : TE} (h : to σ H fun x H1 => tyV K T x H1 ∧ r x [] H1 Q) : tBM0 K T r to σ H Q := h
theorem tyL [Im G α] {i : Nat} {a : Addr} {xs : List α} (hS : Sep H L) (e : L[i]? = some (lstA a xs)) : tyV G.K "list" (.ref a) H := by
  obtain ⟨vs, h, _⟩ := hS.sq e
  exact .inl ⟨rfl, vs, h⟩
theorem k_append [Im G α] {i : Nat} {a : Addr} {xs : List α} {x : α} {v : V} (hS : Sep H L) (e : L[i]? = some (lstA a xs)) (hv : Im.im G H v x) (z : xs.length < sizeLine) (e2 : L.set i (lstA a (xs ++ [x])) = L')
    (k : ∀ H', Sep H' L' → Q .non H') : rAppend (.ref a) [v] H Q := by
  obtain ⟨vs, h, m⟩ := hS.lst e
  refine ⟨a, vs, v, rfl, rfl, h, by rw [m.len]; exact z, k _ ?_⟩
  subst e2
  exact hS.putL e (m.app (vs := vs) (ws := [v]) ⟨hv, True.intro⟩)
/-- xs[i] = v -/
theorem k_setL [Im G α] {n : Nat} {a : Addr} {xs : List α} {x : α} {v : V} {i : Int} {P : Hp → Prop} (hS : Sep H L) (e : L[n]? = some (lstA a xs)) (hv : Im.im G H v x) (j : Nat) (hj : ixN xs.length i = some j) (e2 : L.set n (lstA a (xs.set j x)) = L')
    (k : ∀ H', Sep H' L' → P H') : rSetL (.ref a) (.int i) v H P := by
  obtain ⟨vs, h, m⟩ := hS.lst e
  refine ⟨a, vs, i, j, rfl, rfl, h, by rw [m.len]; exact hj, k _ ?_⟩
  subst e2
  exact hS.putL e (m.set hv)
def cutL (xs : List α) (lo hi : Option Int) : List α := (xs.drop (HT.sIx xs.length 0 lo)).take (HT.sIx xs.length xs.length hi - HT.sIx xs.length 0 lo)
theorem cutL_im [Im G α] {vs : List V} {xs : List α} {lo hi : Option Int} (m : imL (G := G) H vs xs) : imL (G := G) H (cutV vs lo hi) (cutL xs lo hi) := by
  unfold cutV cutL
  rw [m.len]
  exact (m.drop _).take _
theorem c_sl {r : V → Option Int → Option Int → Hp → VK → Prop} {tl th : TO} (h : te σ H fun x H1 => tl σ H1 fun l H2 => th σ H2 fun u H3 => r x l u H3 Q) : tSl r te tl th σ H Q := h
def rListSq (K : PySem.W.Frag) : List V → Hp → VK → Prop := fun xs H Q => ∃ p ys, xs = [.ref p] ∧ (SqL K H p ys ∨ SqT K H p ys) ∧ ∀ l, H l = none → Q (.ref l) (upd H l (.lst ys))
theorem call_listSq {X : Cx} : CallR X (.type "list") (rListSq X.K) := call_list_of
end
end Ml
namespace Ml
open PySem L2
variable {G : Gx}
section
variable {κ β : Type} [DecidableEq κ]
def dget (kvs : List (κ × β)) (k : κ) : Option β := (kvs.find? fun kv => decide (kv.1 = k)).map (·.2)
def dput (kvs : List (κ × β)) (k : κ) (v : β) : List (κ × β) :=
  if (kvs.any fun kv => decide (kv.1 = k)) = true then kvs.map (fun kv => if kv.1 = k then (kv.1, v) else kv) else kvs ++ [(k, v)]
def ddrop (kvs : List (κ × β)) (k : κ) : List (κ × β) := kvs.filter fun kv => decide (kv.1 ≠ k)
def dhas (kvs : List (κ × β)) (k : κ) : Bool := (dget kvs k).isSome
end
class Kx (κ : Type) where
  key : κ → Key
  inj : ∀ {a b : κ}, key a = key b → a = b
instance : Kx Int := ⟨Sum.inl, fun h => Sum.inl.inj h⟩
instance : Kx Str := ⟨Sum.inr, fun h => Sum.inr.inj h⟩
section
variable {κ β : Type} [DecidableEq κ] [Kx κ] [Im G β]
def imD (H : Hp) : List (Key × V) → List (κ × β) → Prop
  | [], [] => True
  | p :: ps, q :: qs => (p.1 = Kx.key q.1 ∧ Im.im G H p.2 q.2) ∧ imD H ps qs
  | _, _ => False
variable {H H' : Hp}
theorem imD.st : ∀ {ps : List (Key × V)} {qs : List (κ × β)}, imD (G := G) H ps qs → Stab G H H' → imD (G := G) H' ps qs
  | [], [], _, _ => True.intro
  | p :: ps, q :: qs, h, s => ⟨⟨h.1.1, Im.st h.1.2 s⟩, imD.st h.2 s⟩
  | [], _ :: _, h, _ => h
  | _ :: _, [], h, _ => h
theorem imD.len : ∀ {ps : List (Key × V)} {qs : List (κ × β)}, imD (G := G) H ps qs → ps.length = qs.length
  | [], [], _ => rfl
  | p :: ps, q :: qs, h => by rw [List.length_cons, List.length_cons, imD.len h.2]
  | [], _ :: _, h => h.elim
  | _ :: _, [], h => h.elim
theorem key_dec (a b : κ) : decide (Kx.key a = Kx.key b) = decide (a = b) := by
  by_cases h : a = b
  · subst h; simp
  · have : ¬ Kx.key a = Kx.key b := fun e => h (Kx.inj e)
    simp [h, this]
theorem imD.val : ∀ {ps : List (Key × V)} {qs : List (κ × β)} (k : κ), imD (G := G) H ps qs → (∀ y, dget qs k = some y → ∃ v, valV ps (Kx.key k) = some v ∧ Im.im G H v y) ∧ (dget qs k = none → valV ps (Kx.key k) = none)
  | [], [], _, _ => ⟨fun y e => (by cases (show (none : Option β) = some y from e)), fun _ => rfl⟩
  | p :: ps, q :: qs, k, ⟨⟨e1, e2⟩, h⟩ => by
    have ih := imD.val k h
    by_cases c : q.1 = k
    · have c1 : p.1 = Kx.key k := by rw [e1, c]
      have d : dget (q :: qs) k = some q.2 := by simp [dget, List.find?_cons, c]
      rw [d, valV_pos c1]
      exact ⟨fun y e => ⟨p.2, rfl, by cases e; exact e2⟩, fun e => by cases e⟩
    · have c1 : ¬ p.1 = Kx.key k := fun z => c (Kx.inj (e1.symm.trans z))
      have d : dget (q :: qs) k = dget qs k := by simp [dget, List.find?_cons, c]
      rw [d, valV_neg c1]
      exact ih
  | [], _ :: _, _, h => h.elim
  | _ :: _, [], _, h => h.elim
theorem imD.any : ∀ {ps : List (Key × V)} {qs : List (κ × β)} (k : κ), imD (G := G) H ps qs → (ps.any fun kv => decide (kv.1 = Kx.key k)) = qs.any fun kv => decide (kv.1 = k)
  | [], [], _, _ => rfl
  | p :: ps, q :: qs, k, ⟨⟨e1, e2⟩, h⟩ => by
    rw [List.any_cons, List.any_cons, imD.any k h, e1, key_dec]
  | [], _ :: _, _, h => h.elim
  | _ :: _, [], _, h => h.elim
theorem imD.app : ∀ {ps rs : List (Key × V)} {qs ts : List (κ × β)}, imD (G := G) H ps qs → imD (G := G) H rs ts → imD (G := G) H (ps ++ rs) (qs ++ ts)
  | [], _, [], _, _, h => h
  | _ :: _, _, _ :: _, _, h, k => ⟨h.1, imD.app h.2 k⟩
  | [], _, _ :: _, _, h, _ => h.elim
  | _ :: _, _, [], _, h, _ => h.elim
theorem imD.rep : ∀ {ps : List (Key × V)} {qs : List (κ × β)} {k : κ} {v : V} {y : β}, imD (G := G) H ps qs → Im.im G H v y →
    imD (G := G) H (ps.map fun kv => if kv.1 = Kx.key k then (kv.1, v) else kv) (qs.map fun kv => if kv.1 = k then (kv.1, y) else kv)
  | [], [], _, _, _, _, _ => True.intro
  | p :: ps, q :: qs, k, v, y, ⟨⟨e1, e2⟩, h⟩, hv => by
    refine ⟨?_, imD.rep h hv⟩
    show (if p.1 = Kx.key k then (p.1, v) else p).1 = Kx.key (if q.1 = k then (q.1, y) else q).1 ∧ Im.im G H (if p.1 = Kx.key k then (p.1, v) else p).2 (if q.1 = k then (q.1, y) else q).2
    by_cases c : q.1 = k
    · have c1 : p.1 = Kx.key k := by rw [e1, c]
      rw [if_pos c, if_pos c1]; exact ⟨e1, hv⟩
    · have c1 : ¬ p.1 = Kx.key k := fun z => c (Kx.inj (e1.symm.trans z))
      rw [if_neg c, if_neg c1]; exact ⟨e1, e2⟩
  | [], _ :: _, _, _, _, h, _ => h.elim
  | _ :: _, [], _, _, _, h, _ => h.elim
theorem imD.put {ps : List (Key × V)} {qs : List (κ × β)} {k : κ} {v : V} {y : β} (h : imD (G := G) H ps qs) (hv : Im.im G H v y) : imD (G := G) H (putK ps (Kx.key k) v) (dput qs k y) := by
  unfold putK dput
  rw [h.any k]
  split
  · exact h.rep hv
  · exact h.app (rs := [(Kx.key k, v)]) (ts := [(k, y)]) ⟨⟨rfl, hv⟩, True.intro⟩
theorem imD.drop : ∀ {ps : List (Key × V)} {qs : List (κ × β)} (k : κ), imD (G := G) H ps qs → imD (G := G) H (dropK ps (Kx.key k)) (ddrop qs k)
  | [], [], _, _ => True.intro
  | p :: ps, q :: qs, k, ⟨⟨e1, e2⟩, h⟩ => by
    have ih := imD.drop k h
    unfold dropK ddrop at ih ⊢
    rw [List.filter_cons, List.filter_cons]
    by_cases c : q.1 = k
    · have c1 : p.1 = Kx.key k := by rw [e1, c]
      simp only [c, c1, ne_eq, not_true_eq_false, decide_false, Bool.false_eq_true, if_false]
      exact ih
    · have c1 : ¬ p.1 = Kx.key k := fun z => c (Kx.inj (e1.symm.trans z))
      simp only [c, c1, ne_eq, not_false_eq_true, decide_true, if_true]
      exact ⟨⟨e1, e2⟩, ih⟩
  | [], _ :: _, _, h => h.elim
  | _ :: _, [], _, h => h.elim
theorem imD.keys : ∀ {ps : List (Key × V)} {qs : List (κ × β)}, imD (G := G) H ps qs → ps.map (·.1) = qs.map fun q => Kx.key q.1
  | [], [], _ => rfl
  | p :: ps, q :: qs, h => by rw [List.map_cons, List.map_cons, imD.keys h.2, h.1.1]
  | [], _ :: _, h => h.elim
  | _ :: _, [], h => h.elim
def dictA (a : Addr) (kvs : List (κ × β)) : Asn G := ⟨fun H fp => fp = [a] ∧ ∃ ps, H a = some (.dK ps) ∧ imD (G := G) H ps kvs,
  fun H H' fp ⟨e, ps, h, m⟩ k s => ⟨e, ps, by rw [k a (by rw [e]; simp)]; exact h, m.st s⟩⟩
variable {L L' : List (Asn G)}
theorem Sep.dict (h : Sep H L) {i : Nat} {a : Addr} {kvs : List (κ × β)} (e : L[i]? = some (dictA a kvs)) : ∃ ps, H a = some (.dK ps) ∧ imD (G := G) H ps kvs := by
  obtain ⟨fp, _, x⟩ := h.at e
  exact x
theorem Sep.newD (h : Sep H L) {p : Addr} (hp : H p = none) : Sep (upd H p (.dK [])) (dictA p ([] : List (κ × β)) :: L) :=
  (h.new (o := .dK []) hp rfl).view fun fp ⟨q, r⟩ => ⟨q, [], r, True.intro⟩
theorem Sep.putD (h : Sep H L) {i : Nat} {a : Addr} {xs ys : List (κ × β)} {ps : List (Key × V)} (e : L[i]? = some (dictA a xs)) (m : imD (G := G) H ps ys) : Sep (upd H a (.dK ps)) (L.set i (dictA a ys)) := by
  obtain ⟨us, e0, mu⟩ := h.dict e
  have h1 : Sep H (L.set i (cell a (.dK us))) := h.viewAt e fun fp ⟨q, _⟩ => ⟨q, e0⟩
  have e1 := get_set (y := cell (G := G) a (.dK us)) e
  have h2 := h1.put (o' := .dK ps) e1 rfl rfl
  rw [set_set] at h2
  have st : Stab G H (upd H a (.dK ps)) := stab_put (h1.getCell e1) rfl rfl
  have h3 := h2.viewAt (B := dictA a ys) (get_set e) fun fp ⟨q, r⟩ => ⟨q, ps, r, m.st st⟩
  rw [set_set] at h3
  exact h3
variable {σ : St} {Q : VK} {td ty tx : TE} {k : κ} {a : Addr} {xs : List (κ × β)} {i : Nat}
theorem k_dnew (hS : Sep H L) (q : ∀ p H', Sep H' (dictA p ([] : List (κ × β)) :: L) → Q (.ref p) H') : tDNewK σ H Q := fun p hp => q p _ (hS.newD hp)
theorem dget_at (hS : Sep H L) (e : L[i]? = some (dictA a xs)) {o : Option β} (ho : dget xs k = o) : ∃ r, DGet H a (kV (Kx.key k)) r ∧ (∀ y, o = some y → ∃ v, r = some v ∧ Im.im G H v y) ∧ (o = none → r = none) := by
  obtain ⟨ps, h, m⟩ := hS.dict e
  obtain ⟨v1, v2⟩ := m.val k
  exact ⟨_, DGet.k h, fun y q => v1 y (ho.trans q), fun q => v2 (ho.trans q)⟩
theorem ev_din (hS : Sep H L) (e : L[i]? = some (dictA a xs)) (hy : Ev ty σ H (kV (Kx.key k))) (hd : Ev td σ H (.ref a)) : Ev (tDIn ty td) σ H (.bl (dhas xs k)) := fun Q q => hy _ (hd _ (by
  obtain ⟨r, g, h1, h2⟩ := dget_at hS e (k := k) rfl
  refine ⟨a, r, rfl, g, ?_⟩
  have : r.isSome = dhas xs k := by
    unfold dhas
    cases c : dget xs k with
    | none => rw [h2 c]; rfl
    | some y => obtain ⟨v, e, _⟩ := h1 y c; rw [e]; rfl
  rw [this]; exact q))
theorem ev_dnotin (hS : Sep H L) (e : L[i]? = some (dictA a xs)) (hy : Ev ty σ H (kV (Kx.key k))) (hd : Ev td σ H (.ref a)) : Ev (tDNotIn ty td) σ H (.bl (!dhas xs k)) := fun Q q => hy _ (hd _ (by
  obtain ⟨r, g, h1, h2⟩ := dget_at hS e (k := k) rfl
  refine ⟨a, r, rfl, g, ?_⟩
  have : r.isSome = dhas xs k := by
    unfold dhas
    cases c : dget xs k with
    | none => rw [h2 c]; rfl
    | some y => obtain ⟨v, e, _⟩ := h1 y c; rw [e]; rfl
  rw [this]; exact q))
theorem isD_of (hS : Sep H L) (e : L[i]? = some (dictA a xs)) : IsD H a := by
  obtain ⟨ps, h, _⟩ := hS.dict e
  exact .inl ⟨ps, .inl h⟩
end
class Lay (α : Type) where
  lay : α → Bool
instance : Lay Int := ⟨fun _ => true⟩
instance : Lay Bool := ⟨fun _ => true⟩
instance : Lay Str := ⟨fun x => PyData.strOk x⟩
def layAllB {α : Type} [Lay α] (xs : List α) : Bool := xs.all Lay.lay
class Pd (G : Gx) (α : Type) [Im G α] [DecidableEq α] [Lay α] where
  pd : α → PyData
  dep : Nat
  dp : ∀ {H : Hp} {v : V} {x : α}, Im.im G H v x → Dp G.K H v (pd x)
  lay_ok : ∀ x, Lay.lay x = true → (pd x).canLay0 = true
  dep_ok : ∀ x, (pd x).depth ≤ dep
  eqv : ∀ x y, PyData.eqv (pd x) (pd y) = decide (x = y)
instance pInt : Pd G Int where
  pd := .int
  dep := 0
  dp := fun {H v x} h => by
    have h : v = .int x := h
    subst h; exact .int x
  lay_ok := fun _ _ => rfl
  dep_ok := fun _ => Nat.le_refl _
  eqv := fun x y => by
    show (x == y) = decide (x = y)
    rfl
instance pBool : Pd G Bool where
  pd := .bool
  dep := 0
  dp := fun {H v x} h => by
    have h : v = .bl x := h
    subst h; exact .bl x
  lay_ok := fun _ _ => rfl
  dep_ok := fun _ => Nat.le_refl _
  eqv := fun x y => by cases x <;> cases y <;> rfl
theorem str_beq (x y : Str) : (x == y) = decide (x = y) := by
  by_cases h : x = y
  · subst h; simp
  · simp [h]
instance pStr : Pd G Str where
  pd := .str
  dep := 0
  dp := fun {H v x} h => by
    have h : v = .str x := h
    subst h; exact .str x
  lay_ok := fun _ h => h
  dep_ok := fun _ => Nat.le_refl _
  eqv := fun x y => str_beq x y
section
variable {α : Type} [Im G α] [DecidableEq α] [Lay α] [Pd G α] {H : Hp} {L : List (Asn G)}
theorem dpAll : ∀ {vs : List V} {xs : List α}, imL (G := G) H vs xs → DpAll G.K H vs (xs.map (Pd.pd G))
  | [], [], _ => .nil
  | v :: vs, x :: xs, h => .cons (Pd.dp h.1) (dpAll h.2)
  | [], _ :: _, h => h.elim
  | _ :: _, [], h => h.elim
theorem layAll : ∀ {xs : List α}, layAllB xs = true → PyData.canLayAll0 (xs.map (Pd.pd G)) = true
  | [], _ => rfl
  | x :: xs, h => by
    unfold layAllB at h
    rw [List.all_cons, Bool.and_eq_true] at h
    show ((Pd.pd G x).canLay0 && PyData.canLayAll0 (xs.map (Pd.pd G))) = true
    rw [Pd.lay_ok x h.1, layAll h.2]; rfl
theorem depAll : ∀ (xs : List α), PyData.depthAll (xs.map (Pd.pd G)) ≤ Pd.dep G α
  | [] => Nat.zero_le _
  | x :: xs => by
    show max (Pd.pd G x).depth (PyData.depthAll (xs.map (Pd.pd G))) ≤ _
    exact Nat.max_le.mpr ⟨Pd.dep_ok x, depAll xs⟩
theorem eqvAll_is : ∀ (xs ys : List α), PyData.eqvAll (xs.map (Pd.pd G)) (ys.map (Pd.pd G)) = decide (xs = ys)
  | [], [] => rfl
  | x :: xs, y :: ys => by
    show (PyData.eqv (Pd.pd G x) (Pd.pd G y) && PyData.eqvAll (xs.map (Pd.pd G)) (ys.map (Pd.pd G))) = _
    rw [Pd.eqv, eqvAll_is xs ys]
    simp
  | [], _ :: _ => rfl
  | _ :: _, [] => rfl
variable {a b : Addr} {xs ys : List α} {i j : Nat} {σ : St} {ta tb : TE}
end
section
variable {H : Hp} {L : List (Asn G)} {σ : St} {ta tb : TE} {a : Addr} {i : Nat}
theorem inV_str (x : Str) : ∀ ys : List Str, inV (.str x) (ys.map V.str) = decide (x ∈ ys)
  | [] => rfl
  | y :: ys => by
    have ih := inV_str x ys
    unfold inV at ih ⊢
    rw [List.map_cons, List.any_cons, ih]
    show ((y == x) || _) = _
    by_cases h : y = x
    · subst h; simp
    · have h' : ¬ x = y := fun e => h e.symm
      simp [h, h']
theorem flat_str : ∀ ys : List Str, (ys.map V.str).all flatV = true
  | [] => rfl
  | y :: ys => by rw [List.map_cons, List.all_cons, flat_str ys]; rfl
theorem ev_niL {x : Str} {ys : List Str} (hS : Sep H L) (e : L[i]? = some (lstA a ys)) (ha : Ev ta σ H (.str x)) (hb : Ev tb σ H (.ref a)) : Ev (tOp (rIn G.K true) ta tb) σ H (.bl (!decide (x ∈ ys))) := ev_op ha hb fun Q q =>
  ⟨a, ys.map V.str, rfl, .inl (hS.sqF e), rfl, flat_str ys, by
    show Q (.bl (!inV (.str x) (ys.map V.str))) H
    rw [inV_str]; exact q⟩
theorem ev_isi {x : V} {T U : String} {b : Bool} (ha : Ev ta σ H x) (hb : Ev tb σ H (.ty U)) (t : TyX G.K H x (.type T)) (e : kitB T U = some b) : Ev (tCB (rIsi G.K) (tCons ta (tCons tb tNil))) σ H (.bl b) :=
  ev_cb (ea_cons ha (ea_cons hb ea_nil)) fun Q q => ⟨x, .ty U, _, _, b, rfl, .ty U, t, kit_ty e, q⟩
theorem ty_lst {α : Type} [Im G α] {xs : List α} (hS : Sep H L) (e : L[i]? = some (lstA a xs)) : TyX G.K H (.ref a) (.type "list") := by
  obtain ⟨vs, h, _⟩ := hS.lst e
  exact .base (.lst h)
end
end Ml
namespace Ml
open PySem L2
variable {G : Gx}
section
variable {σ σ' : St} {H : Hp} {L L' M : List (Asn G)} {D : Ends} {Q : VK} {te : TE} {tt : TT} {tb : TS} {α β τ ρ : Type} {i : Nat} {v : V} {vs : List Nat}
theorem c_gN {P : St → Hp → Prop} (e : σ.set i (some v) = σ') (h : P σ' H) : gName i v σ H P := by
  show P (σ.set i (some v)) H
  rw [e]; exact h
theorem c_gLc {P : Bool → Hp → Prop} (e : (wipe σ vs).set i (some v) = σ') (hw : wipe σ' vs = wipe σ vs) (h : tt σ' H P) : gName i v (wipe σ vs) H fun σ2 H2 => wipe σ2 vs = wipe σ vs ∧ tt σ2 H2 P := by
  show wipe ((wipe σ vs).set i (some v)) vs = wipe σ vs ∧ tt ((wipe σ vs).set i (some v)) H P
  rw [e]; exact ⟨hw, h⟩
theorem c_yes {A B : Hp → Prop} (h : A H) : tYes σ H fun b H3 => if b = true then A H3 else B H3 := h
theorem lc_app [Im G β] {Dr : Addr} {ys : List β} {y : β} {u : V} (hS : Sep H (lstA Dr ys :: M)) (hu : Im.im G H u y) : ∃ acc, H Dr = some (.lst acc) ∧ acc.length = ys.length ∧ Sep (upd H Dr (.lst (acc ++ [u]))) (lstA Dr (ys ++ [y]) :: M) := by
  obtain ⟨acc, h, m⟩ := hS.lst (i := 0) rfl
  exact ⟨acc, h, m.len, hS.putL (i := 0) rfl (m.app (vs := acc) (ws := [u]) ⟨hu, True.intro⟩)⟩
theorem st_nx (h : D.nx σ H) : tNext D σ H := h
def sq (t : TS) (D : Ends) : Ends := { D with nx := t D }
theorem f_seq {t1 t2 : TS} (h : t1 (sq t2 D) σ H) : tSeq t1 t2 D σ H := h
theorem sq_nx {t2 : TS} (h : t2 D σ H) : (sq t2 D).nx σ H := h
def forK (g : TG) (tb : TS) (D : Ends) (σ : L2.St) : It → Hp → Prop := fun J H1 => ∃ W : Nat → Nat → L2.St → Hp → Prop, (∃ m, W 0 m σ H1) ∧ ∀ i m σ H, W i m σ H →
  (J.stop i H ∧ D.nx σ H) ∨ (J.go i H ∧ ∃ N : L2.St → Hp → Prop, (∀ σ' H', N σ' H' → ∃ m', m' < m ∧ W (i + 1) m' σ' H') ∧ ∀ x H', J.yld i H x H' → g x σ H' fun σ2 H2 => tb { D with nx := N, ct := N, bk := D.nx } σ2 H2)
def loopD (D : Ends) (N B : L2.St → Hp → Prop) : Ends := { D with nx := N, ct := N, bk := B }
theorem c_for {wi : TI} {g : TG} (h : wi σ H (forK g tb D σ)) : tFor wi g tb D σ H := h
def lcK (g : TG) (tt : TT) (te : TE) (vs : List Nat) (σ : L2.St) (Q : VK) : It → Hp → Prop := fun J H1 => ∀ D, H1 D = none → ∃ W : Nat → Nat → Hp → Prop, (∃ m, W 0 m (upd H1 D (.lst []))) ∧ ∀ i m H, W i m H →
  (J.stop i H ∧ Q (.ref D) H) ∨ (J.go i H ∧ ∃ Nx : Hp → Prop, (∀ H', Nx H' → ∃ m', m' < m ∧ W (i + 1) m' H') ∧ ∀ x H', J.yld i H x H' → g x (wipe σ vs) H' fun σ2 H2 => wipe σ2 vs = wipe σ vs ∧ tt σ2 H2 fun b H3 =>
    if b = true then te σ2 H3 fun y H4 => ∃ acc, H4 D = some (.lst acc) ∧ acc.length < sizeLine ∧ Nx (upd H4 D (.lst (acc ++ [y]))) else Nx H3)
theorem c_lc {wi : TI} {g : TG} (h : wi σ H (lcK g tt te vs σ Q)) : tLc wi g tt te vs σ H Q := h
def rng1K (R : It → Hp → Prop) : List V → Hp → Prop := fun vs H1 => ∃ j : Int, vs = [.int j] ∧ -(2 ^ 62) ≤ j ∧ j < 2 ^ 62 ∧ R (Itr 0 j.toNat) H1
def ilK (K : PySem.W.Frag) (R : It → Hp → Prop) : VK := fun x H1 => ∃ a, x = .ref a ∧ (∃ xs, SqL K H1 a xs) ∧ R (Itl K a) H1
theorem c_rng1 {ta : TA} {R : It → Hp → Prop} (h : ta σ H (rng1K R)) : iRng1 ta σ H R := h
theorem c_il {K : PySem.W.Frag} {R : It → Hp → Prop} (h : te σ H (ilK K R)) : iList K te σ H R := h
theorem k_rng1 {R : It → Hp → Prop} {j : Int} (h1 : -(2 ^ 62) ≤ j) (h2 : j < 2 ^ 62) (h : R (Itr 0 j.toNat) H) : rng1K R [.int j] H := ⟨j, rfl, h1, h2, h⟩
theorem k_il [Im G α] {a : Addr} {xs : List α} {R : It → Hp → Prop} (hS : Sep H L) (e : L[i]? = some (lstA a xs)) (h : R (Itl G.K a) H) : ilK G.K R (.ref a) H := by
  obtain ⟨vs, s, _⟩ := hS.sq e
  exact ⟨a, rfl, ⟨vs, s⟩, h⟩
/-- for .. in .. -/
theorem k_for {J : It} {g : TG} {im : Hp → V → α → Prop} {xs : List α} {f : τ → α → R τ} {rest : τ → R ρ} {q : ρ → Prop} {e : Exc → Prop} {s : τ} (I : τ → L2.St → Hp → Prop)
    (w : ∀ s, Wk J (I s) im xs) (h0 : I s σ H) (hm : R.wp ((forR f xs s).bind rest) q e)
    (turn : ∀ (s : τ) (x : α) (v : V) (σ : L2.St) (H : Hp) (q : τ → Prop) (N : L2.St → Hp → Prop), I s σ H → im H v x → R.wp (f s x) q e → (∀ s' σ' H', q s' → I s' σ' H' → N σ' H') → g v σ H fun σ2 H2 => tb (loopD D N D.nx) σ2 H2)
    (done : ∀ s σ H, R.wp (rest s) q e → I s σ H → D.nx σ H) : forK g tb D σ J H :=
  for_walk (I := I) w h0 (R.wp_bind hm) turn done
/-- a comprehension over owned things -/
theorem lc_sep [Im G β] {J : It} {im : Hp → V → α → Prop} {xs : List α} {f : τ → α → R (τ × Option β)} {rest : τ × List β → R ρ} {q : ρ → Prop} {e : Exc → Prop} {s : τ} (M : τ → List (Asn G))
    (hS : Sep H (M s)) (w : ∀ (Dr : Addr) (s : τ) (ys : List β), Wk J (fun (_ : St) H => Sep H (lstA Dr ys :: M s)) im xs) (hl : xs.length ≤ sizeLine) (hm : R.wp ((compR f xs s).bind rest) q e)
    (turn : ∀ (Dr : Addr) (s : τ) (ys : List β) (x : α) (v : V) (H : Hp) (q : τ × Option β → Prop) (Nx : Hp → Prop), Sep H (lstA Dr ys :: M s) → im H v x → R.wp (f s x) q e →
      (∀ s' y u H', q (s', some y) → Im.im G H' u y → Sep H' (lstA Dr ys :: M s') → ∃ acc, H' Dr = some (.lst acc) ∧ acc.length < sizeLine ∧ Nx (upd H' Dr (.lst (acc ++ [u])))) → (∀ s' H', q (s', none) → Sep H' (lstA Dr ys :: M s') → Nx H') →
      gName i v (wipe σ vs) H fun σ2 H2 => wipe σ2 vs = wipe σ vs ∧ tt σ2 H2 fun b H3 => if b = true then te σ2 H3 fun y H4 => ∃ acc, H4 Dr = some (.lst acc) ∧ acc.length < sizeLine ∧ Nx (upd H4 Dr (.lst (acc ++ [y]))) else Nx H3)
    (done : ∀ (Dr : Addr) (t : τ × List β) H, R.wp (rest t) q e → Sep H (lstA Dr t.2 :: M t.1) → Q (.ref Dr) H) :
    lcK (gName i) tt te vs σ Q J H := fun Dr hD =>
  lc_walk (G := G) (I := fun Dr s ys H => Sep H (lstA Dr ys :: M s)) (im := im) (xs := xs) (f := f) (k := fun t => R.wp (rest t) q e) (e := e) (s := s) (w Dr)
    (hS.newL (vs := []) (xs := ([] : List β)) hD True.intro) (R.wp_bind hm) hl
    (fun s ys x v H q Nx hI hv hw _ k1 k2 => turn Dr s ys x v H q Nx hI hv hw k1 k2)
    (fun s ys y u H hI hu => lc_app hI hu)
    (fun s ys H hk hI => done Dr (s, ys) H hk hI)
theorem c_asgS {to ti : TE} {t : TSet} (h : te σ H fun v H1 => to σ H1 fun o H2 => ti σ H2 fun j H3 => t o j v H3 fun H4 => D.nx σ H4) : tAsg te (gSub to ti t) D σ H := h
theorem m2 {X : Cx} {o : Expr} {m : Str} {apos : Pos} {e f : Expr} {cpos : Pos} (base : attributeBase o m X.env (eval o X.env) = eval o X.env := by rfl)
  (few : ((backTo cpos (starEach [e, f] X.env)).all (fun x => !x.1) && (backToKw cpos (keywordEach [] X.env)).all (fun x => x.1.isSome)
    && decide (([e, f] : List Expr).length + ([] : List Keyword).length + (if ([] : List Keyword).isEmpty then 0 else 1) < 30)) = true := by rfl)
  (line : (apos.endLine == cpos.line) = true := by rfl) (trees : backTo cpos (starEach [e, f] X.env) = [(false, eval e X.env), (false, eval f X.env)] := by rfl) : M2 X o m apos e f cpos := ⟨base, few, line, trees⟩
def ixR {α : Type} (xs : List α) (i : Int) : R Nat := match ixN xs.length i with
  | some j => .ok j
  | none => .bad
theorem wp_ix {xs : List α} {i : Int} {f : Nat → R ρ} {q : ρ → Prop} {e : Exc → Prop} (h : R.wp ((ixR xs i).bind f) q e) : ∃ j, ixN xs.length i = some j ∧ R.wp (f j) q e := by
  unfold ixR at h
  cases c : ixN xs.length i with
  | some x => rw [c] at h; exact ⟨x, rfl, h⟩
  | none => rw [c] at h; exact h.elim
theorem r_ixSq {K : PySem.W.Frag} {p : Addr} {ws : List V} {i : Int} (hs : SqL K H p ws) (e : atI ws i = some v) (Q : VK) (q : Q v H) : rIxL K (.ref p) (.int i) H Q := ⟨p, ws, i, v, rfl, rfl, hs, e, q⟩
theorem ev_lenLm {K : PySem.W.Frag} {ta : TE} {p : Addr} {xs : List α} {f : α → V} (ha : Ev ta σ H (.ref p)) (hs : SqL K H p (xs.map f)) : Ev (tCB (rLenSq K) (tCons ta tNil)) σ H (.int xs.length) := by
  have := ev_lenL ha hs
  rw [List.length_map] at this
  exact this
end
end Ml
namespace Ml
open PySem L2
variable {G : Gx}
def andK (u : TT) (σ : St) (P : Bool → Hp → Prop) : Bool → Hp → Prop := fun c H => if c = true then u σ H P else P false H
def orK (u : TT) (σ : St) (P : Bool → Hp → Prop) : Bool → Hp → Prop := fun c H => if c = true then P true H else u σ H P
def notK (P : Bool → Hp → Prop) : Bool → Hp → Prop := fun c H => P (!c) H
def ifK (t1 t2 : TS) (D : Ends) (σ : St) : Bool → Hp → Prop := fun c H => if c = true then t1 D σ H else t2 D σ H
/-- a value that is a Bool -/
def blK (P : Bool → Hp → Prop) : VK := fun x H => ∃ k, x = .bl k ∧ P k H
section
variable {σ : St} {H : Hp} {L : List (Asn G)} {D : Ends} {Q : VK} {P : Bool → Hp → Prop} {t u : TT} {t1 t2 : TS} {ta tb te : TE} {ρ τ : Type} {a b : Bool} {v w : V}
theorem f_and (h : t σ H (andK u σ P)) : tAnd t u σ H P := h
theorem f_or (h : t σ H (orK u σ P)) : tOr t u σ H P := h
theorem f_not (h : t σ H (notK P)) : tNot t σ H P := h
theorem f_if (h : t σ H (ifK t1 t2 D σ)) : tIfS t t1 t2 D σ H := h
theorem f_test (h : te σ H (blK P)) : tTest te σ H P := h
theorem f_B (h : te σ H (blK P)) : tB te σ H P := h
theorem f_bl (h : P b H) : blK P (.bl b) H := ⟨b, rfl, h⟩
theorem f_nK (h : P (!b) H) : notK P b H := h
theorem orK_f (h : u σ H P) : orK u σ P false H := h
variable {A B : R Bool} {rest : Bool → R ρ} {q : ρ → Prop} {e : Exc → Prop}
theorem andK_J (hm : R.wp ((if a = true then A else .ok false).bind rest) q e) (hS : Sep H L)
    (h1 : a = true → ∀ q' : Bool → Prop, R.wp A q' e → (∀ b H', q' b → Sep H' L → P b H') → u σ H P) (k : ∀ b H', R.wp (rest b) q e → Sep H' L → P b H') : andK u σ P a H := by
  have hm' := R.wp_bind hm
  cases a with
  | true => exact h1 rfl _ hm' k
  | false => exact k false H hm' hS
theorem orK_J (hm : R.wp ((if a = true then .ok true else A).bind rest) q e) (hS : Sep H L)
    (h1 : a = false → ∀ q' : Bool → Prop, R.wp A q' e → (∀ b H', q' b → Sep H' L → P b H') → u σ H P) (k : ∀ b H', R.wp (rest b) q e → Sep H' L → P b H') : orK u σ P a H := by
  have hm' := R.wp_bind hm
  cases a with
  | true => exact k true H hm' hS
  | false => exact h1 rfl _ hm' k
theorem ifK_2 (h1 : a = true → t1 D σ H) (h2 : a = false → t2 D σ H) : ifK t1 t2 D σ a H := by
  cases a with
  | true => exact h1 rfl
  | false => exact h2 rfl
theorem ifK_J {A B : R τ} {rest : τ → R ρ} (J : τ → St → Hp → Prop) (hm : R.wp ((if a = true then A else B).bind rest) q e)
    (h1 : a = true → ∀ q' : τ → Prop, R.wp A q' e → (∀ s σ' H', q' s → J s σ' H' → D.nx σ' H') → t1 D σ H)
    (h2 : a = false → ∀ q' : τ → Prop, R.wp B q' e → (∀ s σ' H', q' s → J s σ' H' → D.nx σ' H') → t2 D σ H)
    (k : ∀ s σ' H', R.wp (rest s) q e → J s σ' H' → D.nx σ' H') : ifK t1 t2 D σ a H := by
  have hm' := R.wp_bind hm
  cases a with
  | true => exact h1 rfl _ hm' k
  | false => exact h2 rfl _ hm' k
theorem wp_let {α : Type} {x : α} {f : α → R ρ} (hm : R.wp ((R.ok x).bind f) q e) : ∃ y, x = y ∧ R.wp (f y) q e := ⟨x, rfl, hm⟩
theorem n_is {i : Nat} (e : v = w) (h : D.nx (σ.set i (some w)) H) : D.nx (σ.set i (some v)) H := by rw [e]; exact h
/-- [elt ..] with a test: the two ways -/
theorem lc_if {A B : Prop} (h1 : a = true → A) (h2 : a = false → B) : if a = true then A else B := by
  cases a with
  | true => exact h1 rfl
  | false => exact h2 rfl
end
end Ml
namespace Ml
open PySem L2
section
variable {X : Cx} (K : PySem.W.Frag) (hK : X.K = K := by rfl)
include hK
theorem ix_listK : IxR X (rIxL K) := by subst hK; exact ix_list
theorem ix_tupK : IxR X (rIxT K) := by subst hK; exact ix_tup
theorem sl_listK : SlR X (rSlL K) := by subst hK; exact sl_list
theorem lenSqK : CallR X (.builtin "len") (rLenSq K) := by subst hK; exact call_lenSq
theorem listSqK : CallR X (.type "list") (rListSq K) := by subst hK; exact call_listSq
theorem isiK : CallR X (.builtin "isinstance") (rIsi K) := by subst hK; exact call_isi
theorem inSqK : OpR X (compareOp .In) (rIn K false) := by subst hK; exact op_in_seq
theorem niSqK : OpR X (compareOp .NotIn) (rIn K true) := by subst hK; exact op_notIn_seq
end
theorem neDK {X : Cx} (K : PySem.W.Frag) (hu : X.A.units + 64 < cLine) (hK : X.K = K := by rfl) : OpR X (compareOp .NotEq) (rNeD K) := by subst hK; exact op_neD hu
theorem allK {X : Cx} (K : PySem.W.Frag) (hc : X.calm = true) (hK : X.K = K := by rfl) : CallR X (.builtin "all") (rAll K) := by subst hK; exact cr_all hc
theorem pi_listK {X : Cx} {tg e : Expr} {tl : TE} (K : PySem.W.Frag) (h : PE X e tl) (hK : X.K = K := by rfl) : PI X tg e (iList K tl) := by subst hK; exact pi_list h
section
variable {X : Cx} {T : String} {name : Str} {id : String} {r : V → List V → Hp → VK → Prop} {o e : Expr} {es : List Expr} {to : TE} {t : TA} {apos cpos : Pos}
theorem pe_bm0K (K : PySem.W.Frag) (pa : PlainAttrs T) (slot : Slot T name id) (hty : typeOf (.builtin id) = pure (.type "method_descriptor")) (hm : MtR X id r) (ho : PE X o to) (hK : X.K = K := by rfl)
    (hbase : attributeBase o name X.env (eval o X.env) = eval o X.env := by rfl) (hline : (apos.endLine == cpos.line) = true := by rfl) :
    PE X (.Call (.Attribute o name apos) [] [] cpos) (tBM0 K T r to) := by subst hK; exact pe_bm0 pa slot hty hm ho hbase hline
theorem pe_bmK (K : PySem.W.Frag) (pa : PlainAttrs T) (slot : Slot T name id) (hty : typeOf (.builtin id) = pure (.type "method_descriptor")) (hm : MtR X id r) (ho : PE X o to) (ha : PA X (e :: es) t) (hK : X.K = K := by rfl)
    (hbase : attributeBase o name X.env (eval o X.env) = eval o X.env := by rfl)
    (hfew : ((backTo cpos (starEach (e :: es) X.env)).all (fun x => !x.1) && (backToKw cpos (keywordEach [] X.env)).all (fun x => x.1.isSome)
      && decide ((e :: es).length + ([] : List Keyword).length + (if ([] : List Keyword).isEmpty then 0 else 1) < 30)) = true := by rfl)
    (hline : (apos.endLine == cpos.line) = true := by rfl) (hs : starEach (e :: es) X.env = (false, eval e X.env) :: starEach es X.env := by rfl) (hplain : (backTo cpos (starEach es X.env)).any (·.1) = false := by rfl) :
    PE X (.Call (.Attribute o name apos) (e :: es) [] cpos) (tBM K T r to t) := by subst hK; exact pe_bm pa slot hty hm ho ha hbase hfew hline hs hplain
end
end Ml
namespace Ml
open PySem L2
theorem im_of_only {G : Gx} {H : Hp} {a : Addr} {ns : List Int} (hO : Only H) (hS : SqL G.K H a (ns.map V.int)) : Im.im G H (.ref a) (⟨ns⟩ : Script) := by
  refine ⟨a, rfl, ?_⟩
  rcases hS with (h | ⟨o, h⟩) | h
  · rcases hO a with z | ⟨o, xs, z⟩
    · rw [h] at z; cases z
    · rw [h] at z; cases z
  · exact .inl ⟨o, h⟩
  · exact .inr h
end Ml
namespace Ml
open PySem L2
end Ml
namespace Ml
open PySem L2
def fzK (Q : VK) : VK := fun v H => Q v H ∨ ∃ a u, v = .ref a ∧ H a = some u ∧ Mut (some u) ∧ ∀ o, Q v (upd H a (.frz o u))
def tFz (t : TE) : TE := fun σ H Q => t σ H (fzK Q)
theorem pe_fz {X : Cx} {e : Expr} {t : TE} (h : PE X e t) : PE X e (tFz t) := by
  refine ⟨fun pins s σ H Q I hw => ?_⟩
  refine thn (h.run pins s σ H _ I hw) fun v s1 ⟨x, H1, I1, r, q⟩ => ?_
  rcases q with q | ⟨a, u, e, ha, mu, q⟩
  · exact ⟨x, H1, I1, r, q⟩
  · obtain ⟨od, I2⟩ := I1.lock ha mu
    exact ⟨x, _, I2, r, q od⟩
variable {G : Gx}
section
variable {σ : St} {H : Hp} {L : List (Asn G)} {te : TE} {Q : VK} {v : V} {α : Type}
theorem c_fz (h : te σ H (fzK Q)) : tFz te σ H Q := h
theorem fz_no (h : Q v H) : fzK Q v H := .inl h
theorem ev_fz (h : Ev te σ H v) : Ev (tFz te) σ H v := fun Q q => h _ (.inl q)
/-- a locked list: a value -/
instance imList [Im G α] : Im G (List α) := ⟨fun H v xs => ∃ a vs, v = .ref a ∧ (∃ o, H a = some (.frz o (.lst vs))) ∧ imL (G := G) H vs xs,
  fun ⟨a, vs, e, ⟨o, h⟩, m⟩ s => ⟨a, vs, e, ⟨o, s.1 a _ h rfl⟩, m.st s⟩⟩
theorem imPl [Im G α] {a : Addr} {xs : List α} (h : Im.im G H (.ref a) xs) : ∃ vs, SqL G.K H a vs ∧ imL (G := G) H vs xs := by
  obtain ⟨b, vs, e, ⟨o, h⟩, m⟩ := h
  cases e
  exact ⟨vs, .inl (.inr ⟨o, h⟩), m⟩
theorem imPlF [Fv G α] {a : Addr} {xs : List α} (h : Im.im G H (.ref a) xs) : SqL G.K H a (xs.map (Fv.enc G)) := by
  obtain ⟨vs, e, m⟩ := imPl h
  rw [imL.flat.mp m] at e
  exact e
/-- the i-th thing is dropped, the rest stays while its cell changes -/
theorem Sep.drop1 {a : Addr} {o o' : HO} {M : List (Asn G)} (h : Sep H (cell a o :: M)) (kd : kindOf o' = kindOf o) : Sep (upd H a o') M := by
  obtain ⟨fp, ⟨f1, f2, e, ⟨e1, ho⟩, k⟩, h2, h3⟩ := h
  subst e1; subst e
  have nd : ¬ a ∈ f2 := (List.nodup_cons.mp h2).1
  obtain ⟨u, hu, nu⟩ := h3 a (by simp)
  have eu : u = o := by rw [ho] at hu; cases hu; rfl
  have st : Stab G H (upd H a o') := stab_put hu nu (by rw [eu]; exact kd)
  refine ⟨f2, k.loc (fun b m => upd_ne fun z => nd (z ▸ m)) st, (List.nodup_cons.mp h2).2, fun b m => ?_⟩
  obtain ⟨x, hx, nx⟩ := h3 b (by simp [m])
  exact ⟨x, by rw [upd_ne (fun z => nd (by rw [← z]; exact m))]; exact hx, nx⟩
theorem fz_yes [Im G α] {i : Nat} {a : Addr} {xs : List α} (hS : Sep H L) (e : L[i]? = some (lstA a xs)) (k : ∀ H', Sep H' (imA (.ref a) xs :: L.eraseIdx i) → Q (.ref a) H') : fzK Q (.ref a) H := by
  obtain ⟨vs, m, h1⟩ := hS.openL e
  have h0 := h1.getCell (get_set e)
  refine .inr ⟨a, .lst vs, rfl, h0, True.intro, fun o => k _ ?_⟩
  have h2 := h1.perm (pull_perm (get_set (y := cell (G := G) a (.lst vs)) e))
  have e3 : (L.set i (cell a (.lst vs))).eraseIdx i = L.eraseIdx i := by simp [List.eraseIdx_set_eq]
  rw [e3] at h2
  obtain ⟨fp, ⟨f1, f2, _, ⟨ef, _⟩, _⟩, nd0, nper⟩ := id h2
  have nu : per G (.lst vs) = false := rfl
  have st : Stab G H (upd H a (.frz o (.lst vs))) := stab_put h0 nu rfl
  have h4 := h2.drop1 (o' := .frz o (.lst vs)) rfl
  exact h4.addIm ⟨a, vs, rfl, ⟨o, upd_same⟩, m.st st⟩
end
structure T3 (α β γ : Type) where
  a : α
  b : β
  c : γ
  deriving DecidableEq, Repr
structure T4 (α β γ δ : Type) where
  a : α
  b : β
  c : γ
  d : δ
  deriving DecidableEq, Repr
structure T5 (α β γ δ ε : Type) where
  a : α
  b : β
  c : γ
  d : δ
  e : ε
  deriving DecidableEq, Repr
structure T1 (α : Type) where
  a : α
  deriving DecidableEq, Repr
section
variable {α β γ δ ε : Type} [Im G α] [Im G β] [Im G γ] [Im G δ] [Im G ε] {H H' : Hp} {a : Addr} {u1 u2 u3 u4 u5 : V}
instance imT1 : Im G (T1 α) := ⟨fun H v x => ∃ a u1, v = .ref a ∧ H a = some (.tup [u1]) ∧ Im.im G H u1 x.a,
  fun ⟨a, u1, e, h, i1⟩ s => ⟨a, u1, e, s.1 a _ h rfl, Im.st i1 s⟩⟩
instance imT2 : Im G (α × β) := ⟨fun H v x => ∃ a u1 u2, v = .ref a ∧ H a = some (.tup [u1, u2]) ∧ Im.im G H u1 x.1 ∧ Im.im G H u2 x.2,
  fun ⟨a, u1, u2, e, h, i1, i2⟩ s => ⟨a, u1, u2, e, s.1 a _ h rfl, Im.st i1 s, Im.st i2 s⟩⟩
instance imT3 : Im G (T3 α β γ) := ⟨fun H v x => ∃ a u1 u2 u3, v = .ref a ∧ H a = some (.tup [u1, u2, u3]) ∧ Im.im G H u1 x.a ∧ Im.im G H u2 x.b ∧ Im.im G H u3 x.c,
  fun ⟨a, u1, u2, u3, e, h, i1, i2, i3⟩ s => ⟨a, u1, u2, u3, e, s.1 a _ h rfl, Im.st i1 s, Im.st i2 s, Im.st i3 s⟩⟩
instance imT4 : Im G (T4 α β γ δ) := ⟨fun H v x => ∃ a u1 u2 u3 u4, v = .ref a ∧ H a = some (.tup [u1, u2, u3, u4]) ∧ Im.im G H u1 x.a ∧ Im.im G H u2 x.b ∧ Im.im G H u3 x.c ∧ Im.im G H u4 x.d,
  fun ⟨a, u1, u2, u3, u4, e, h, i1, i2, i3, i4⟩ s => ⟨a, u1, u2, u3, u4, e, s.1 a _ h rfl, Im.st i1 s, Im.st i2 s, Im.st i3 s, Im.st i4 s⟩⟩
instance imT5 : Im G (T5 α β γ δ ε) := ⟨fun H v x => ∃ a u1 u2 u3 u4 u5, v = .ref a ∧ H a = some (.tup [u1, u2, u3, u4, u5]) ∧ Im.im G H u1 x.a ∧ Im.im G H u2 x.b ∧ Im.im G H u3 x.c ∧ Im.im G H u4 x.d ∧ Im.im G H u5 x.e,
  fun ⟨a, u1, u2, u3, u4, u5, e, h, i1, i2, i3, i4, i5⟩ s => ⟨a, u1, u2, u3, u4, u5, e, s.1 a _ h rfl, Im.st i1 s, Im.st i2 s, Im.st i3 s, Im.st i4 s, Im.st i5 s⟩⟩
theorem im2 {x : α × β} (h : Im.im G H (.ref a) x) : ∃ u1 u2, H a = some (.tup [u1, u2]) ∧ Im.im G H u1 x.1 ∧ Im.im G H u2 x.2 := by
  obtain ⟨b, u1, u2, e, h⟩ := h; cases e; exact ⟨u1, u2, h⟩
theorem mk2 {x : α × β} (i1 : Im.im G H u1 x.1) (i2 : Im.im G H u2 x.2) (h : H' a = some (.tup [u1, u2])) (s : Stab G H H') : Im.im G H' (.ref a) x := ⟨a, u1, u2, rfl, h, Im.st i1 s, Im.st i2 s⟩
end
class IsRef (G : Gx) (α : Type) [Im G α] : Prop where
  isref : ∀ {H : Hp} {v : V} {x : α}, Im.im G H v x → ∃ a, v = .ref a
theorem isref {α : Type} [Im G α] [IsRef G α] {H : Hp} {v : V} {x : α} (h : Im.im G H v x) : ∃ a, v = .ref a := IsRef.isref h
section
variable {α β γ δ ε : Type} [Im G α] [Im G β] [Im G γ] [Im G δ] [Im G ε]
instance : IsRef G (List α) := ⟨fun h => by obtain ⟨a, _, e, _⟩ := h; exact ⟨a, e⟩⟩
instance : IsRef G (T1 α) := ⟨fun h => by obtain ⟨a, _, e, _⟩ := h; exact ⟨a, e⟩⟩
instance : IsRef G (α × β) := ⟨fun h => by obtain ⟨a, _, _, e, _⟩ := h; exact ⟨a, e⟩⟩
instance : IsRef G (T3 α β γ) := ⟨fun h => by obtain ⟨a, _, _, _, e, _⟩ := h; exact ⟨a, e⟩⟩
instance : IsRef G (T4 α β γ δ) := ⟨fun h => by obtain ⟨a, _, _, _, _, e, _⟩ := h; exact ⟨a, e⟩⟩
instance : IsRef G (T5 α β γ δ ε) := ⟨fun h => by obtain ⟨a, _, _, _, _, _, e, _⟩ := h; exact ⟨a, e⟩⟩
end
section
variable {σ σ' : St} {H : Hp} {L : List (Asn G)} {D : Ends} {Q : VK} {te ta tb : TE} {α : Type} {K : PySem.W.Frag} {v : V}
/-- a tuple is laid -/
theorem k_tupP [Im G α] {vs : List V} {x : α} (hS : Sep H L) (mk : ∀ (H' : Hp) (p : Addr), H' p = some (.tup vs) → Stab G H H' → Im.im G H' (.ref p) x) (hl : vs.length ≤ sizeLine)
    (k : ∀ p H', Sep H' (imA (.ref p) x :: L) → Q (.ref p) H') : tupK Q vs H :=
  ⟨hl, fun p hp => k p _ ((hS.more (same_new hp)).addIm (mk _ p upd_same (.of_same (same_new hp))))⟩
theorem ev_ixT {a : Addr} {i : Int} {us : List V} (ha : Ev ta σ H (.ref a)) (hb : Ev tb σ H (.int i)) (h : H a = some (.tup us)) (e : atI us i = some v) : Ev (tOp (rIxT K) ta tb) σ H v :=
  ev_op ha hb fun _ q => ⟨a, us, i, v, rfl, rfl, SqT.of h, e, q⟩
/-- a field -/
theorem ev_fld {a C dx : Addr} {fs : List (Str × V)} {f : Str} (ha : Ev ta σ H (.ref a)) (h : H a = some (.ins C dx fs)) (c : Cls K C) (n : NoAttr K C f) (l : fs.lookup f = some v) : Ev (tFld K ta f) σ H v :=
  fun _ q => ha _ ⟨a, C, dx, fs, v, rfl, h, c, n, l, q⟩
end
end Ml
namespace Ml
open PySem L2
inductive Any where
  | str (s : Str) | int (i : Int) | bl (b : Bool) | non | tup (xs : List Any) | lst (xs : List Any) | oth (k : Nat)
section
variable (G : Gx)
mutual
def imAny (H : Hp) : V → Any → Prop
  | v, .str s => v = .str s
  | v, .int i => v = .int i
  | v, .bl b => v = .bl b
  | v, .non => v = .non
  | v, .tup xs => ∃ a vs, v = .ref a ∧ H a = some (.tup vs) ∧ imAnyL H vs xs
  | v, .lst xs => ∃ a vs, v = .ref a ∧ (∃ o, H a = some (.frz o (.lst vs))) ∧ imAnyL H vs xs
  | v, .oth k => ∃ a o, v = .ref a ∧ H a = some o ∧ kindOf o = k ∧ (k = 0 ∨ k = 1)
def imAnyL (H : Hp) : List V → List Any → Prop
  | [], [] => True
  | v :: vs, x :: xs => imAny H v x ∧ imAnyL H vs xs
  | _, _ => False
end
variable {G} {H H' : Hp}
mutual
theorem imAny.st : ∀ {v : V} {x : Any}, imAny H v x → Stab G H H' → imAny H' v x
  | v, .str s, h, _ => by rw [imAny] at h ⊢; exact h
  | v, .int i, h, _ => by rw [imAny] at h ⊢; exact h
  | v, .bl b, h, _ => by rw [imAny] at h ⊢; exact h
  | v, .non, h, _ => by rw [imAny] at h ⊢; exact h
  | v, .tup xs, h, s => by
    rw [imAny] at h ⊢
    obtain ⟨a, vs, e, g, m⟩ := h
    exact ⟨a, vs, e, s.1 a _ g rfl, imAnyL.st m s⟩
  | v, .lst xs, h, s => by
    rw [imAny] at h ⊢
    obtain ⟨a, vs, e, ⟨o, g⟩, m⟩ := h
    exact ⟨a, vs, e, ⟨o, s.1 a _ g rfl⟩, imAnyL.st m s⟩
  | v, .oth k, h, s => by
    rw [imAny] at h ⊢
    obtain ⟨a, o, e, g, q, z⟩ := h
    obtain ⟨o', g', q'⟩ := s.2 a o g
    exact ⟨a, o', e, g', q'.trans q, z⟩
theorem imAnyL.st : ∀ {vs : List V} {xs : List Any}, imAnyL H vs xs → Stab G H H' → imAnyL H' vs xs
  | [], [], h, _ => h
  | v :: vs, x :: xs, h, s => by
    rw [imAnyL] at h ⊢
    exact ⟨imAny.st h.1 s, imAnyL.st h.2 s⟩
  | [], _ :: _, h, _ => by rw [imAnyL] at h; exact h.elim; all_goals simp
  | _ :: _, [], h, _ => by rw [imAnyL] at h; exact h.elim; all_goals simp
end
instance imAnyI : Im G Any := ⟨fun H v x => imAny H v x, fun h s => imAny.st h s⟩
end
variable {G : Gx} {H : Hp} {L : List (Asn G)}
theorem any_str {v : V} {s : Str} : Im.im G H v (Any.str s) ↔ v = .str s := by show imAny H v (.str s) ↔ _; rw [imAny]
theorem imAnyL_eq : ∀ {vs : List V} {xs : List Any}, imAnyL H vs xs ↔ imL (G := G) H vs xs
  | [], [] => by rw [imAnyL]; exact Iff.rfl
  | v :: vs, x :: xs => by
    rw [imAnyL]
    exact and_congr_right fun _ => imAnyL_eq (vs := vs) (xs := xs)
  | [], _ :: _ => ⟨fun h => by rw [imAnyL] at h; exact h.elim; all_goals simp, fun h => h.elim⟩
  | _ :: _, [] => ⟨fun h => by rw [imAnyL] at h; exact h.elim; all_goals simp, fun h => h.elim⟩
theorem any_tup {v : V} {xs : List Any} : Im.im G H v (Any.tup xs) ↔ ∃ a vs, v = .ref a ∧ H a = some (.tup vs) ∧ imL (G := G) H vs xs := by
  show imAny H v (.tup xs) ↔ _
  rw [imAny]
  exact exists_congr fun a => exists_congr fun vs => and_congr_right fun _ => and_congr_right fun _ => imAnyL_eq
theorem any_lsts {v : V} {xs : List Any} : Im.im G H v (Any.lst xs) ↔ ∃ a vs, v = .ref a ∧ (∃ o, H a = some (.frz o (.lst vs))) ∧ imL (G := G) H vs xs := by
  show imAny H v (.lst xs) ↔ _
  rw [imAny]
  exact exists_congr fun a => exists_congr fun vs => and_congr_right fun _ => and_congr_right fun _ => imAnyL_eq
def Any.ty : Any → String
  | .str _ => "str"
  | .int _ => "int"
  | .bl _ => "bool"
  | .non => "NoneType"
  | .tup _ => "tuple"
  | .lst _ => "list"
  | .oth 0 => "list"
  | .oth _ => "dict"
/-- isinstance of a plain type -/
def Any.is (x : Any) (t : String) : Bool := x.ty == t || (x.ty == "bool" && t == "int")
end Ml
namespace Ml
open PySem L2
end Ml
namespace Ml
open PySem L2
variable {G : Gx}
section
variable {α β γ δ ε : Type} [Lay α] [Lay β] [Lay γ] [Lay δ] [Lay ε]
instance layList : Lay (List α) := ⟨layAllB⟩
instance layT1 : Lay (T1 α) := ⟨fun x => Lay.lay x.a⟩
instance layT2 : Lay (α × β) := ⟨fun x => Lay.lay x.1 && Lay.lay x.2⟩
instance layT3 : Lay (T3 α β γ) := ⟨fun x => Lay.lay x.a && (Lay.lay x.b && Lay.lay x.c)⟩
instance layT4 : Lay (T4 α β γ δ) := ⟨fun x => Lay.lay x.a && (Lay.lay x.b && (Lay.lay x.c && Lay.lay x.d))⟩
instance layT5 : Lay (T5 α β γ δ ε) := ⟨fun x => Lay.lay x.a && (Lay.lay x.b && (Lay.lay x.c && (Lay.lay x.d && Lay.lay x.e)))⟩
end
section
variable {α β γ δ ε : Type} [Im G α] [DecidableEq α] [Lay α] [Pd G α] [Im G β] [DecidableEq β] [Lay β] [Pd G β] [Im G γ] [DecidableEq γ] [Lay γ] [Pd G γ] [Im G δ] [DecidableEq δ] [Lay δ] [Pd G δ] [Im G ε] [DecidableEq ε] [Lay ε] [Pd G ε]
instance pdList : Pd G (List α) where
  pd := fun xs => .list (xs.map (Pd.pd G))
  dep := Pd.dep G α + 1
  dp := fun {H v x} h => by
    obtain ⟨a, vs, rfl, ⟨o, g⟩, m⟩ := h
    exact .lst (.inl (.inr ⟨o, g⟩)) (dpAll m)
  lay_ok := fun x h => layAll (G := G) h
  dep_ok := fun x => Nat.succ_le_succ (depAll (G := G) x)
  eqv := fun x y => eqvAll_is x y
theorem canTup (ds : List PyData) : (PyData.tuple ds).canLay0 = PyData.canLayAll0 ds := rfl
theorem canCons (d : PyData) (ds : List PyData) : PyData.canLayAll0 (d :: ds) = (d.canLay0 && PyData.canLayAll0 ds) := rfl
theorem depTup (ds : List PyData) : (PyData.tuple ds).depth = PyData.depthAll ds + 1 := rfl
theorem depCons (d : PyData) (ds : List PyData) : PyData.depthAll (d :: ds) = max d.depth (PyData.depthAll ds) := rfl
theorem depNil : PyData.depthAll [] = 0 := rfl
theorem eqvTup (ds es : List PyData) : PyData.eqv (.tuple ds) (.tuple es) = PyData.eqvAll ds es := rfl
theorem eqvCons (d e : PyData) (ds es : List PyData) : PyData.eqvAll (d :: ds) (e :: es) = (PyData.eqv d e && PyData.eqvAll ds es) := rfl
theorem eqvNil : PyData.eqvAll [] [] = true := rfl
instance pdT1 : Pd G (T1 α) where
  pd := fun x => .tuple [Pd.pd G x.a]
  dep := Pd.dep G α + 1
  dp := fun {H v x} h => by
    obtain ⟨a, u1, rfl, g, i1⟩ := h
    exact .tup (SqT.of g) (.cons (Pd.dp i1) .nil)
  lay_ok := fun x h => by rw [canTup, canCons, Pd.lay_ok x.a h]; rfl
  dep_ok := fun x => by
    rw [depTup, depCons, depNil]
    have := Pd.dep_ok (G := G) x.a
    omega
  eqv := fun x y => by
    rw [eqvTup, eqvCons, eqvNil, Pd.eqv]
    obtain ⟨a⟩ := x; obtain ⟨b⟩ := y
    simp
instance pdT2 : Pd G (α × β) where
  pd := fun x => .tuple [Pd.pd G x.1, Pd.pd G x.2]
  dep := max (Pd.dep G α) (Pd.dep G β) + 1
  dp := fun {H v x} h => by
    obtain ⟨a, u1, u2, rfl, g, i1, i2⟩ := h
    exact .tup (SqT.of g) (.cons (Pd.dp i1) (.cons (Pd.dp i2) .nil))
  lay_ok := fun x h => by
    have h : (Lay.lay x.1 && Lay.lay x.2) = true := h
    rw [Bool.and_eq_true] at h
    rw [canTup, canCons, canCons, Pd.lay_ok x.1 h.1, Pd.lay_ok x.2 h.2]; rfl
  dep_ok := fun x => by
    rw [depTup, depCons, depCons, depNil]
    have := Pd.dep_ok (G := G) x.1
    have := Pd.dep_ok (G := G) x.2
    omega
  eqv := fun x y => by
    rw [eqvTup, eqvCons, eqvCons, eqvNil, Pd.eqv, Pd.eqv]
    obtain ⟨a, b⟩ := x; obtain ⟨c, d⟩ := y
    simp
instance pdT3 : Pd G (T3 α β γ) where
  pd := fun x => .tuple [Pd.pd G x.a, Pd.pd G x.b, Pd.pd G x.c]
  dep := max (Pd.dep G α) (max (Pd.dep G β) (Pd.dep G γ)) + 1
  dp := fun {H v x} h => by
    obtain ⟨a, u1, u2, u3, rfl, g, i1, i2, i3⟩ := h
    exact .tup (SqT.of g) (.cons (Pd.dp i1) (.cons (Pd.dp i2) (.cons (Pd.dp i3) .nil)))
  lay_ok := fun x h => by
    have h : (Lay.lay x.a && (Lay.lay x.b && Lay.lay x.c)) = true := h
    simp only [Bool.and_eq_true] at h
    rw [canTup, canCons, canCons, canCons, Pd.lay_ok x.a h.1, Pd.lay_ok x.b h.2.1, Pd.lay_ok x.c h.2.2]; rfl
  dep_ok := fun x => by
    rw [depTup, depCons, depCons, depCons, depNil]
    have := Pd.dep_ok (G := G) x.a
    have := Pd.dep_ok (G := G) x.b
    have := Pd.dep_ok (G := G) x.c
    omega
  eqv := fun x y => by
    rw [eqvTup, eqvCons, eqvCons, eqvCons, eqvNil, Pd.eqv, Pd.eqv, Pd.eqv]
    obtain ⟨a, b, c⟩ := x; obtain ⟨d, e, f⟩ := y
    simp
instance pdT4 : Pd G (T4 α β γ δ) where
  pd := fun x => .tuple [Pd.pd G x.a, Pd.pd G x.b, Pd.pd G x.c, Pd.pd G x.d]
  dep := max (Pd.dep G α) (max (Pd.dep G β) (max (Pd.dep G γ) (Pd.dep G δ))) + 1
  dp := fun {H v x} h => by
    obtain ⟨a, u1, u2, u3, u4, rfl, g, i1, i2, i3, i4⟩ := h
    exact .tup (SqT.of g) (.cons (Pd.dp i1) (.cons (Pd.dp i2) (.cons (Pd.dp i3) (.cons (Pd.dp i4) .nil))))
  lay_ok := fun x h => by
    have h : (Lay.lay x.a && (Lay.lay x.b && (Lay.lay x.c && Lay.lay x.d))) = true := h
    simp only [Bool.and_eq_true] at h
    rw [canTup, canCons, canCons, canCons, canCons, Pd.lay_ok x.a h.1, Pd.lay_ok x.b h.2.1, Pd.lay_ok x.c h.2.2.1, Pd.lay_ok x.d h.2.2.2]; rfl
  dep_ok := fun x => by
    rw [depTup, depCons, depCons, depCons, depCons, depNil]
    have := Pd.dep_ok (G := G) x.a
    have := Pd.dep_ok (G := G) x.b
    have := Pd.dep_ok (G := G) x.c
    have := Pd.dep_ok (G := G) x.d
    omega
  eqv := fun x y => by
    rw [eqvTup, eqvCons, eqvCons, eqvCons, eqvCons, eqvNil, Pd.eqv, Pd.eqv, Pd.eqv, Pd.eqv]
    obtain ⟨a, b, c, d⟩ := x; obtain ⟨a', b', c', d'⟩ := y
    simp
instance pdT5 : Pd G (T5 α β γ δ ε) where
  pd := fun x => .tuple [Pd.pd G x.a, Pd.pd G x.b, Pd.pd G x.c, Pd.pd G x.d, Pd.pd G x.e]
  dep := max (Pd.dep G α) (max (Pd.dep G β) (max (Pd.dep G γ) (max (Pd.dep G δ) (Pd.dep G ε)))) + 1
  dp := fun {H v x} h => by
    obtain ⟨a, u1, u2, u3, u4, u5, rfl, g, i1, i2, i3, i4, i5⟩ := h
    exact .tup (SqT.of g) (.cons (Pd.dp i1) (.cons (Pd.dp i2) (.cons (Pd.dp i3) (.cons (Pd.dp i4) (.cons (Pd.dp i5) .nil)))))
  lay_ok := fun x h => by
    have h : (Lay.lay x.a && (Lay.lay x.b && (Lay.lay x.c && (Lay.lay x.d && Lay.lay x.e)))) = true := h
    simp only [Bool.and_eq_true] at h
    rw [canTup, canCons, canCons, canCons, canCons, canCons, Pd.lay_ok x.a h.1, Pd.lay_ok x.b h.2.1, Pd.lay_ok x.c h.2.2.1, Pd.lay_ok x.d h.2.2.2.1, Pd.lay_ok x.e h.2.2.2.2]; rfl
  dep_ok := fun x => by
    rw [depTup, depCons, depCons, depCons, depCons, depCons, depNil]
    have := Pd.dep_ok (G := G) x.a
    have := Pd.dep_ok (G := G) x.b
    have := Pd.dep_ok (G := G) x.c
    have := Pd.dep_ok (G := G) x.d
    have := Pd.dep_ok (G := G) x.e
    omega
  eqv := fun x y => by
    rw [eqvTup, eqvCons, eqvCons, eqvCons, eqvCons, eqvCons, eqvNil, Pd.eqv, Pd.eqv, Pd.eqv, Pd.eqv, Pd.eqv]
    obtain ⟨a, b, c, d, e⟩ := x; obtain ⟨a', b', c', d', e'⟩ := y
    simp
end
section
variable {α : Type} [Im G α] [DecidableEq α] [Lay α] [Pd G α] {H : Hp} {L : List (Asn G)} {σ : St} {ta tb : TE} {Q : VK} {v w : V} {x y : α}
theorem shapedP (h : Lay.lay x = true) (d : Pd.dep G α ≤ 64) : SeqAt.shaped (Pd.pd G x) = true := by
  unfold SeqAt.shaped
  rw [Pd.lay_ok x h, decide_eq_true (Nat.le_trans (Pd.dep_ok x) d)]; rfl
/-- the data of a list that one owns -/
theorem dpOwn {i : Nat} {a : Addr} {xs : List α} (hS : Sep H L) (e : L[i]? = some (lstA a xs)) : Dp G.K H (.ref a) (Pd.pd G xs) := by
  obtain ⟨vs, s, m⟩ := hS.sq e
  exact .lst s (dpAll m)
theorem ev_neP (ha : Ev ta σ H v) (hb : Ev tb σ H w) (d1 : Dp G.K H v (Pd.pd G x)) (d2 : Dp G.K H w (Pd.pd G y)) (l1 : Lay.lay x = true) (l2 : Lay.lay y = true) (d : Pd.dep G α ≤ 64) :
    Ev (tOp (rNeD G.K) ta tb) σ H (.bl (!decide (x = y))) := ev_op ha hb fun Q q => by
  refine ⟨_, _, d1, d2, shapedP l1 d, shapedP l2 d, ?_⟩
  rw [Pd.eqv]; exact q
end
end Ml
namespace L2
open PySem PySem.Spec PyProof.Rows
/-- list + list, either may be locked -/
def rCatR : R2 := fun x y H Q => ∃ l b xs zs, x = .ref l ∧ y = .ref b ∧ Rd H l (.lst xs) ∧ Rd H b (.lst zs) ∧ xs.length + zs.length ≤ sizeLine ∧ ∀ p, H p = none → Q (.ref p) (upd H p (.lst (xs ++ zs)))
theorem op_catR {X : Cx} : OpR X (binaryOp .Add) rCatR := by
  intro pins s σ H x y v u Q I rx ry h
  obtain ⟨l, b, xs, zs, rfl, rfl, hH, hB, hz, q⟩ := h
  cases rx
  cases ry
  obtain ⟨z, its, n, r, e⟩ := hH.ok I.hok
  obtain ⟨z2, its2, n2, r2, e2⟩ := hB.ok I.hok
  have hl := r.length
  have hl2 := r2.length
  refine PySem.P.add_list e e2 ?_ (by rw [List.size_toArray, List.size_toArray]; omega)
  have ea : its.toArray ++ its2.toArray = (its ++ its2).toArray := by simp
  rw [ea]
  exact ⟨.ref _, _, I.lnew (t' := s.toks) (r.append r2) (by rw [List.length_append]; omega), rfl, q _ I.fresh⟩
end L2
namespace Ml
open PySem L2
def contF {σ ρ β : Type} (k : σ → R β) (o : ρ → R β) : Fl σ ρ → R β
  | .go s => k s
  | .brk s => k s
  | .out r => o r
/-- an exception as it is wished for -/
def Eok (G : Gx) (x : Exc) (E : XK) (H : Hp) : Prop := E (.ref (G.cl x.cls)) none H
variable {G : Gx}
section
variable {σ σ' : St} {H : Hp} {L L' : List (Asn G)} {D : Ends} {Q : VK} {te ta tb : TE} {α β τ ρ : Type} {v w : V} {q : ρ → Prop} {e : Exc → Prop}
theorem k_catG [Im G α] {a b : Addr} {xs ys : List α} (hS : Sep H L) (h1 : ∃ vs, Rd H a (.lst vs) ∧ imL (G := G) H vs xs) (h2 : ∃ vs, Rd H b (.lst vs) ∧ imL (G := G) H vs ys) (z : xs.length + ys.length ≤ sizeLine)
    (k : ∀ p H', Sep H' (lstA p (xs ++ ys) :: L) → Q (.ref p) H') : rCatR (.ref a) (.ref b) H Q := by
  obtain ⟨vs, r1, m1⟩ := h1
  obtain ⟨ws, r2, m2⟩ := h2
  exact ⟨a, b, vs, ws, rfl, rfl, r1, r2, by rw [m1.len, m2.len]; exact z, fun p hp => k p _ (hS.newL hp (m1.app m2))⟩
theorem k_slG [Im G α] {a : Addr} {xs : List α} {lo hi : Option Int} (hS : Sep H L) (h : ∃ vs, SqL G.K H a vs ∧ imL (G := G) H vs xs)
    (k : ∀ p H', Sep H' (lstA p (cutL xs lo hi) :: L) → Q (.ref p) H') : rSlL G.K (.ref a) lo hi H Q := by
  obtain ⟨vs, h, m⟩ := h
  exact ⟨a, vs, rfl, h, fun p hp => k p _ (hS.newL hp (cutL_im m))⟩
theorem k_listG [Im G α] {a : Addr} {xs : List α} (hS : Sep H L) (h : ∃ vs, SqL G.K H a vs ∧ imL (G := G) H vs xs) (k : ∀ p H', Sep H' (lstA p xs :: L) → Q (.ref p) H') : rListSq G.K [.ref a] H Q := by
  obtain ⟨vs, h, m⟩ := h
  exact ⟨a, vs, rfl, .inl h, fun p hp => k p _ (hS.newL hp m)⟩
theorem k_ilG [Im G α] {a : Addr} {xs : List α} {R : It → Hp → Prop} (h : ∃ vs, SqL G.K H a vs ∧ imL (G := G) H vs xs) (k : R (Itl G.K a) H) : ilK G.K R (.ref a) H := by
  obtain ⟨vs, s, _⟩ := h
  exact ⟨a, rfl, ⟨vs, s⟩, k⟩
theorem ev_lenG [Im G α] {a : Addr} {xs : List α} (ha : Ev ta σ H (.ref a)) (h : ∃ vs, SqL G.K H a vs ∧ imL (G := G) H vs xs) : Ev (tCB (rLenSq G.K) (tCons ta tNil)) σ H (.int xs.length) := by
  obtain ⟨vs, s, m⟩ := h
  have := ev_lenL ha s
  rw [m.len] at this
  exact this
theorem ev_inPl {x : Str} {ys : List Str} {a : Addr} (h : Im.im G H (.ref a) ys) (ha : Ev ta σ H (.str x)) (hb : Ev tb σ H (.ref a)) : Ev (tOp (rIn G.K false) ta tb) σ H (.bl (decide (x ∈ ys))) := ev_op ha hb fun Q q =>
  ⟨a, ys.map V.str, rfl, .inl (imPlF h), rfl, flat_str ys, by
    show Q (.bl (inV (.str x) (ys.map V.str))) H
    rw [inV_str]; exact q⟩
/-- the rule on values alone -/
theorem ev_op2 {r : R2} {x y : V} (h : Ev (tOp r (tC x) (tC y)) [] H v) (q : Q v H) : r x y H Q := h Q q
theorem imL_strs : ∀ (ys : List Str), imL (G := G) H (ys.map V.str) ys
  | [] => True.intro
  | y :: ys => ⟨rfl, imL_strs ys⟩
section
variable {acc y : Str} {ts : List TE} {te : TE} {P : Str → Hp → Prop}
theorem f_fc (h : Ev te σ H (.str y)) (z : (acc ++ y).length ≤ sizeLine) (k : tJs ts (acc ++ y) σ H P) : tJs (te :: ts) acc σ H P := h _ ⟨y, rfl, z, k⟩
theorem f_fs (h : Ev te σ H (.str y)) (l : y.length ≤ sizeLine) (z : (acc ++ y).length ≤ sizeLine) (k : tJs ts (acc ++ y) σ H P) : tJs (tFmt te :: ts) acc σ H P := h _ (.inl ⟨y, rfl, l, y, rfl, z, k⟩)
theorem f_je (k : P acc H) : tJs [] acc σ H P := k
end
theorem imL.erase [Im G α] : ∀ {vs : List V} {xs : List α} (n : Nat), imL (G := G) H vs xs → imL (G := G) H (vs.eraseIdx n) (xs.eraseIdx n)
  | [], [], n, _ => by simp [imL]
  | v :: vs, x :: xs, 0, h => h.2
  | v :: vs, x :: xs, n + 1, h => ⟨h.1, imL.erase n h.2⟩
  | [], _ :: _, _, h => h.elim
  | _ :: _, [], _, h => h.elim
theorem Sep.newI {C x dx : Addr} (h : Sep H L) (hx : H x = none) (hd : H dx = none) (ne : dx ≠ x) (n : ¬ G.fz C = some 0) : Sep (upd (upd H dx (.own x)) x (.ins C dx [])) (cell x (.ins C dx []) :: L) := by
  have h1 := h.more (same_new (o := HO.own x) hd)
  refine h1.new (o := .ins C dx []) (by rw [upd_ne (Ne.symm ne)]; exact hx) ?_
  show decide (G.fz C = some 0) = false
  exact decide_eq_false n
theorem c_sfld {K : PySem.W.Frag} {f : Str} (h : tb σ H fun y H1 => ta σ H1 fun x H2 => ∃ a C dx fs, x = .ref a ∧ H2 a = some (.ins C dx fs) ∧ Cls K C ∧ NoAttr K C f ∧ fs.length < 1000 ∧ D.nx σ (upd H2 a (.ins C dx (putF f y fs)))) : sFld K ta tb f D σ H := h
theorem k_sfld {K : PySem.W.Frag} {i : Nat} {a C dx : Addr} {fs fs' : List (Str × V)} {f : Str} {y : V} (hS : Sep H L) (e : L[i]? = some (cell a (.ins C dx fs))) (c : Cls K C) (n : NoAttr K C f) (ef : putF f y fs = fs') (hl : fs.length < 1000)
    (np : per G (.ins C dx fs') = false) (eL : L.set i (cell a (.ins C dx fs')) = L') (k : ∀ H', Sep H' L' → D.nx σ H') :
    ∃ a' C' dx' fs'', V.ref a = .ref a' ∧ H a' = some (.ins C' dx' fs'') ∧ Cls K C' ∧ NoAttr K C' f ∧ fs''.length < 1000 ∧ D.nx σ (upd H a' (.ins C' dx' (putF f y fs''))) := by
  refine ⟨a, C, dx, fs, rfl, hS.getCell e, c, n, hl, ?_⟩
  rw [ef]
  refine k _ ?_
  subst eL
  exact hS.put e np rfl
theorem c_meth {C : Addr} {m : Str} {sp : Sp} {dvs : List V} {E : XK} {t : TA} (h : ta σ H fun x H1 => ∃ a dx fs, x = .ref a ∧ H1 a = some (.ins C dx fs) ∧ fs.lookup m = none ∧ t σ H1 fun vs H2 => sp (x :: (vs ++ dvs)) H2 Q E) : tMeth C m sp dvs E ta t σ H Q := h
theorem c_make {C : Addr} {sp : Sp} {dvs : List V} {E : XK} {t : TA} (h : t σ H fun vs H1 => ∀ x dx, H1 x = none → H1 dx = none → dx ≠ x → sp (.ref x :: (vs ++ dvs)) (upd (upd H1 dx (.own x)) x (.ins C dx [])) (fun v H2 => v = .non ∧ Q (.ref x) H2) E) : tMake C sp dvs E t σ H Q := h
theorem k_forF {J : It} {g : TG} {tb : TS} {im : Hp → V → α → Prop} {xs : List α} {f : τ → α → R (Fl τ ρ)} {β : Type} {rest : τ → R β} {o : ρ → R β} {q : β → Prop} {e : Exc → Prop} {s : τ} (I : τ → L2.St → Hp → Prop)
    (w : ∀ s, Wk J (I s) im xs) (h0 : I s σ H) (hm : R.wp ((forF f xs s).bind (contF rest o)) q e)
    (turn : ∀ (s : τ) (x : α) (v : V) (σ : L2.St) (H : Hp) (q' : Fl τ ρ → Prop) (N B : L2.St → Hp → Prop), I s σ H → im H v x → R.wp (f s x) q' e → (∀ s' σ' H', q' (.go s') → I s' σ' H' → N σ' H') → (∀ s' σ' H', q' (.brk s') → I s' σ' H' → B σ' H') → (∀ r, q' (.out r) → R.wp (o r) q e) →
      g v σ H fun σ2 H2 => tb (loopD D N B) σ2 H2)
    (done : ∀ s σ H, R.wp (rest s) q e → I s σ H → D.nx σ H) : forK g tb D σ J H :=
  for_walkF (D := D) (I := I) (k := fun r => R.wp (contF rest o r) q e) w h0 (R.wp_bind hm) (fun s x v σ H q' N B hI hv hw h1 h2 h3 => turn s x v σ H q' N B hI hv hw h1 h2 h3) (fun s σ H h hI => done s σ H h hI)
theorem k_gT {K : PySem.W.Frag} {n : Nat} {t : TGs} {a : Addr} {us : List V} {P : St → Hp → Prop} (h : H a = some (.tup us)) (hl : us.length = n := by rfl) (k : t us σ H P) : gTup K n t (.ref a) σ H P := ⟨a, us, rfl, SqT.of h, hl, k⟩
theorem k_gC {i : Nat} {u : TGs} {us : List V} {P : St → Hp → Prop} (e : σ.set i (some v) = σ') (k : u us σ' H P) : gCons (gName i) u (v :: us) σ H P := ⟨v, us, rfl, by show u us (σ.set i (some v)) H P; rw [e]; exact k⟩
theorem k_gE {P : St → Hp → Prop} (k : P σ H) : gNil [] σ H P := ⟨rfl, k⟩
end
section
variable {X : Cx} (K : PySem.W.Frag) (hK : X.K = K := by rfl)
include hK
theorem pg_tupK {es : List Expr} {k : Nat} {pos : Pos} {t : TGs} {n : Nat} (hc : X.calm = true) (h : PGs X es t) (hn : (assignEach es X.env).length = n := by rfl) (hst : (assignEach es X.env).findIdx? (·.1) = none := by rfl) : PG X (.Tuple es k pos) (gTup K n t) := by
  subst hK; exact pg_tup hc h hn hst
end
end Ml
namespace L2
open PySem PySem.Spec PyProof.Rows
end L2
namespace Ml
open PySem PySem.Spec PyProof.Rows L2
variable {G : Gx}
theorem hu0 {k : Nat} {A : Around} (r : Room k A) : A.units + 65 < cLine := by have := r.un; omega
end Ml
namespace Ml
open PySem L2
section
variable {α β σ ρ : Type}
theorem forR_ok {f : σ → α → R σ} (I : List α → σ → Prop) : ∀ {xs : List α} {s : σ} (pre : List α), I pre s → (∀ p x q s, pre ++ xs = p ++ x :: q → I p s → ∃ s', f s x = .ok s' ∧ I (p ++ [x]) s') → ∃ s', forR f xs s = .ok s' ∧ I (pre ++ xs) s'
  | [], s, pre, h0, _ => ⟨s, rfl, by rw [List.append_nil]; exact h0⟩
  | x :: xs, s, pre, h0, hs => by
    obtain ⟨s1, e1, h1⟩ := hs pre x xs s rfl h0
    obtain ⟨s2, e2, h2⟩ := forR_ok I (xs := xs) (s := s1) (pre ++ [x]) h1 fun p y q s e => hs p y q s (by rw [← e]; simp)
    refine ⟨s2, ?_, by rw [List.append_assoc] at h2; exact h2⟩
    show (f s x).bind _ = _
    rw [e1, R.bind_ok]; exact e2
theorem forR_inv {f : σ → α → R σ} {xs : List α} {s : σ} (I : List α → σ → Prop) (h0 : I [] s) (hs : ∀ p x q s, xs = p ++ x :: q → I p s → ∃ s', f s x = .ok s' ∧ I (p ++ [x]) s') : ∃ s', forR f xs s = .ok s' ∧ I xs s' := by
  obtain ⟨s', h1, h2⟩ := forR_ok I (xs := xs) (s := s) [] h0 fun p x q s e => hs p x q s (by simpa using e)
  exact ⟨s', h1, by simpa using h2⟩
theorem forF_inv {f : σ → α → R (Fl σ ρ)} (I : List α → σ → Prop) : ∀ {xs : List α} {s : σ} (pre : List α), I pre s → (∀ p x q s, pre ++ xs = p ++ x :: q → I p s → ∃ s', f s x = .ok (.go s') ∧ I (p ++ [x]) s') → ∃ s', forF f xs s = .ok (.go s') ∧ I (pre ++ xs) s'
  | [], s, pre, h0, _ => ⟨s, rfl, by rw [List.append_nil]; exact h0⟩
  | x :: xs, s, pre, h0, hs => by
    obtain ⟨s1, e1, h1⟩ := hs pre x xs s rfl h0
    obtain ⟨s2, e2, h2⟩ := forF_inv I (xs := xs) (s := s1) (pre ++ [x]) h1 fun p y q s e => hs p y q s (by rw [← e]; simp)
    refine ⟨s2, ?_, by rw [List.append_assoc] at h2; exact h2⟩
    show (f s x).bind _ = _
    rw [e1, R.bind_ok]; exact e2
theorem compR_map {f : Unit → α → R (Unit × Option β)} {g : α → β} {xs : List α} (h : ∀ x, x ∈ xs → f () x = .ok ((), some (g x))) : compR f xs () = .ok ((), xs.map g) := by
  induction xs with
  | nil => rfl
  | cons x xs ih =>
    show (f () x).bind _ = _
    rw [h x (by simp), R.bind_ok, ih fun y hy => h y (by simp [hy])]
    rfl
theorem compR_filterMap {f : Unit → α → R (Unit × Option β)} {g : α → Option β} {xs : List α} (h : ∀ x, x ∈ xs → f () x = .ok ((), g x)) : compR f xs () = .ok ((), xs.filterMap g) := by
  induction xs with
  | nil => rfl
  | cons x xs ih =>
    show (f () x).bind _ = _
    rw [h x (by simp), R.bind_ok, ih fun y hy => h y (by simp [hy])]
    cases e : g x with
    | none => simp [e]
    | some y => simp [e]
theorem compR_all {f : Unit → α → R (Unit × Option β)} {xs : List α} (P : β → Prop) (h : ∀ x, x ∈ xs → ∃ y, f () x = .ok ((), some y) ∧ P y) : ∃ ys, compR f xs () = .ok ((), ys) ∧ ys.length = xs.length ∧ ∀ y, y ∈ ys → P y := by
  induction xs with
  | nil => exact ⟨[], rfl, rfl, by simp⟩
  | cons x xs ih =>
    obtain ⟨y, e, p⟩ := h x (by simp)
    obtain ⟨ys, e2, l, q⟩ := ih fun z hz => h z (by simp [hz])
    refine ⟨y :: ys, ?_, by simp [l], fun z hz => ?_⟩
    · show (f () x).bind _ = _
      rw [e, R.bind_ok, e2]; rfl
    · rcases List.mem_cons.mp hz with rfl | hz
      · exact p
      · exact q z hz
theorem idxR_mem {xs : List α} {i : Int} (h0 : 0 ≤ i) (h1 : i < xs.length) : ∃ x, idxR xs i = .ok x ∧ x ∈ xs ∧ xs[i.toNat]? = some x := by
  obtain ⟨x, h, _⟩ := atI_ok h0 h1
  exact ⟨x, idxR_ok h0 h, List.mem_of_getElem? h, h⟩
theorem ixR_ok {xs : List α} {i : Int} (h0 : 0 ≤ i) (h1 : i < xs.length) : ixR xs i = .ok i.toNat := by
  unfold ixR ixN
  rw [if_pos h0, if_pos h1]
theorem mem_set {xs : List α} {j : Nat} {v x : α} (h : x ∈ xs.set j v) : x ∈ xs ∨ x = v := by
  rcases List.mem_or_eq_of_mem_set h with h | h
  · exact .inl h
  · exact .inr h
theorem cutL_sub {xs : List α} {lo hi : Option Int} : (cutL xs lo hi).Sublist xs := (List.take_sublist _ _).trans (List.drop_sublist _ _)
theorem cutL_mem {xs : List α} {lo hi : Option Int} {x : α} (h : x ∈ cutL xs lo hi) : x ∈ xs := cutL_sub.subset h
theorem sIx_nn {n d : Nat} {i : Int} (h : 0 ≤ i) : HT.sIx n d (some i) = min i.toNat n := by
  show (if i < 0 then (i + (n : Int)).toNat else min i.toNat n) = _
  rw [if_neg (by omega)]
theorem rngL_mem {lo x : Int} {n : Nat} (h : x ∈ rngL lo n) : lo ≤ x ∧ x < lo + n := by
  unfold rngL at h
  obtain ⟨i, hi, rfl⟩ := List.mem_map.mp h
  have := List.mem_range.mp hi
  omega
end
theorem tl_app (a b : Str) : (a ++ b).cps.toList = a.cps.toList ++ b.cps.toList := by
  show (a.cps ++ b.cps).toList = _
  rw [Array.toList_append]
theorem len_tl (x : Str) : x.length = x.cps.toList.length := by simp [Str.length]
theorem str_ext {x y : Str} (h : x.cps.toList = y.cps.toList) : x = y := Str.ext' (Array.toList_inj.mp h)
/-- all signs below 128 -/
def Asc (x : Str) : Prop := ∀ c, c ∈ x.cps.toList → c < 128
theorem Asc.app {a b : Str} (ha : Asc a) (hb : Asc b) : Asc (a ++ b) := fun c hc => by
  rw [tl_app] at hc
  rcases List.mem_append.mp hc with h | h
  · exact ha c h
  · exact hb c h
theorem Asc.lit {x : Str} (h : x.cps.toList.all (· < 128) = true) : Asc x := fun c hc => by
  have := List.all_eq_true.mp h c hc
  simpa using this
theorem Asc.lay {x : Str} (h : Asc x) : (Lay.lay x : Bool) = true := by
  show PyData.strOk x = true
  unfold PyData.strOk
  rw [← Array.all_toList]
  exact List.all_eq_true.mpr fun c hc => decide_eq_true (Nat.lt_trans (h c hc) (by decide))
theorem len_sg (c : Nat) : (sg c).length = 1 := rfl
end Ml
namespace Ml
open PySem L2
def Ok {α : Type} (m : R α) (P : α → Prop) : Prop := ∃ a, m = .ok a ∧ P a
namespace Ok
variable {α β σ ρ : Type} {P : ρ → Prop}
theorem ret {a : ρ} (h : P a) : Ok (.ok a) P := ⟨a, rfl, h⟩
theorem bind {m : R α} {f : α → R ρ} {Q : α → Prop} (h : Ok m Q) (k : ∀ a, Q a → Ok (f a) P) : Ok (m.bind f) P := by
  obtain ⟨a, e, q⟩ := h
  rw [e, R.bind_ok]; exact k a q
theorem bindE {m : R α} {f : α → R ρ} {a : α} (h : m = .ok a) (k : Ok (f a) P) : Ok (m.bind f) P := by
  rw [h, R.bind_ok]; exact k
theorem lets {a : α} {f : α → R ρ} (k : Ok (f a) P) : Ok ((R.ok a).bind f) P := k
theorem name {a : α} {f : α → R ρ} (k : ∀ y, y = a → Ok (f y) P) : Ok ((R.ok a).bind f) P := k a rfl
theorem need {p : Prop} [Decidable p] {m : R ρ} (h : p) (k : Ok m P) : Ok (R.need p m) P := by rw [R.need_pos h]; exact k
theorem ite {c : Prop} [Decidable c] {a b : R ρ} (h1 : c → Ok a P) (h2 : ¬ c → Ok b P) : Ok (if c then a else b) P := by
  by_cases h : c
  · rw [if_pos h]; exact h1 h
  · rw [if_neg h]; exact h2 h
theorem ifT {c : Prop} [Decidable c] {a b : R ρ} (h : c) (k : Ok a P) : Ok (if c then a else b) P := by rw [if_pos h]; exact k
theorem ifF {c : Prop} [Decidable c] {a b : R ρ} (h : ¬ c) (k : Ok b P) : Ok (if c then a else b) P := by rw [if_neg h]; exact k
theorem mono {Q : ρ → Prop} {m : R ρ} (h : Ok m Q) (k : ∀ a, Q a → P a) : Ok m P := by
  obtain ⟨a, e, q⟩ := h
  exact ⟨a, e, k a q⟩
theorem eq {m : R ρ} {v : ρ} (h : Ok m (· = v)) : m = .ok v := by
  obtain ⟨a, e, q⟩ := h
  rw [e, q]
theorem idx {xs : List α} {i : Int} {f : α → R ρ} (h0 : 0 ≤ i) (h1 : i < xs.length) (k : ∀ x, x ∈ xs → xs[i.toNat]? = some x → Ok (f x) P) : Ok ((idxR xs i).bind f) P := by
  obtain ⟨x, e, m, g⟩ := idxR_mem h0 h1
  rw [e, R.bind_ok]; exact k x m g
theorem ix {xs : List α} {i : Int} {f : Nat → R ρ} (h0 : 0 ≤ i) (h1 : i < xs.length) (k : Ok (f i.toNat) P) : Ok ((ixR xs i).bind f) P := by
  rw [ixR_ok h0 h1, R.bind_ok]; exact k
theorem forI {f : σ → α → R σ} {xs : List α} {s : σ} {rest : σ → R ρ} (I : List α → σ → Prop) (h0 : I [] s) (hs : ∀ p x q s, xs = p ++ x :: q → I p s → Ok (f s x) (I (p ++ [x]))) (k : ∀ s, I xs s → Ok (rest s) P) : Ok ((forR f xs s).bind rest) P :=
  bind (forR_inv I h0 hs) k
theorem forFI {τ : Type} {f : σ → α → R (Fl σ τ)} {xs : List α} {s : σ} {rest : Fl σ τ → R ρ} (I : List α → σ → Prop) (h0 : I [] s) (hs : ∀ p x q s, xs = p ++ x :: q → I p s → Ok (f s x) (fun r => ∃ s', r = .go s' ∧ I (p ++ [x]) s')) (k : ∀ s, I xs s → Ok (rest (.go s)) P) : Ok ((forF f xs s).bind rest) P := by
  obtain ⟨s', e, h⟩ := forF_inv (f := f) (xs := xs) I [] h0 fun p x q s hx hI => by
    obtain ⟨r, e, s', rfl, h⟩ := hs p x q s (by simpa using hx) hI
    exact ⟨s', e, h⟩
  exact bindE e (k s' (by simpa using h))
/-- a comprehension whose items all have Q -/
theorem comp {f : Unit → α → R (Unit × Option β)} {xs : List α} {rest : Unit × List β → R ρ} (Q : β → Prop) (h : ∀ x, x ∈ xs → Ok (f () x) (fun r => ∃ y, r.2 = some y ∧ Q y)) (k : ∀ ys, ys.length = xs.length → (∀ y, y ∈ ys → Q y) → Ok (rest ((), ys)) P) : Ok ((compR f xs ()).bind rest) P := by
  obtain ⟨ys, e, l, q⟩ := compR_all (f := f) (xs := xs) Q fun x hx => by
    obtain ⟨r, e, y, e2, hy⟩ := h x hx
    exact ⟨y, by rw [e, ← e2], hy⟩
  exact bindE e (k ys l q)
/-- .. whose items are told -/
theorem compM {f : Unit → α → R (Unit × Option β)} {xs : List α} {rest : Unit × List β → R ρ} (g : α → β) (h : ∀ x, x ∈ xs → Ok (f () x) (fun r => r.2 = some (g x))) (k : Ok (rest ((), xs.map g)) P) : Ok ((compR f xs ()).bind rest) P := by
  refine bindE (compR_map (g := g) fun x hx => ?_) k
  obtain ⟨r, e, e2⟩ := h x hx
  rw [e, ← e2]
theorem compF {f : Unit → α → R (Unit × Option β)} {xs : List α} {rest : Unit × List β → R ρ} (g : α → Option β) (h : ∀ x, x ∈ xs → Ok (f () x) (fun r => r.2 = g x)) (k : Ok (rest ((), xs.filterMap g)) P) : Ok ((compR f xs ()).bind rest) P := by
  refine bindE (compR_filterMap (g := g) fun x hx => ?_) k
  obtain ⟨r, e, e2⟩ := h x hx
  rw [e, ← e2]
end Ok
theorem pre_lt {α : Type} {xs p q : List α} {x : α} (e : xs = p ++ x :: q) : p.length < xs.length := by
  rw [e, List.length_append, List.length_cons]; omega
theorem lt_line {n m : Nat} (h : n ≤ m) (hm : m < 16777216) : n < sizeLine := Nat.lt_of_le_of_lt h hm
theorem le_line {n : Nat} (h : n ≤ 16777216) : n ≤ sizeLine := h
end Ml
namespace Ml
open PySem PySem.Spec PyProof.Rows L2
variable {G : Gx}
/-- a text, n times -/
def repS (a : Str) (n : Nat) : Str := ⟨(List.replicate n a.cps).foldl (· ++ ·) #[]⟩
theorem rep_tl (a : Str) (n : Nat) : (repS a n).cps.toList = (List.replicate n a.cps.toList).flatten := by
  have g : ∀ (n : Nat) (z : Array Nat), ((List.replicate n a.cps).foldl (· ++ ·) z).toList = z.toList ++ (List.replicate n a.cps.toList).flatten := by
    intro n
    induction n with
    | zero => intro z; simp
    | succ n ih => intro z; simp [List.replicate_succ, ih]
  show ((List.replicate n a.cps).foldl (· ++ ·) #[]).toList = _
  rw [g]; simp
theorem rep_len (a : Str) (n : Nat) : (repS a n).length = a.length * n := by
  rw [len_tl, rep_tl, len_tl]; simp [Nat.mul_comm]
def rRepS : R2 := fun x y H Q => ∃ (a : Str) (n : Int), x = .str a ∧ y = .int n ∧ -(2 ^ 62) ≤ n ∧ a.length * n.toNat ≤ sizeLine ∧ n < 2 ^ 62 ∧ Q (.str (repS a n.toNat)) H
theorem op_repS {X : Cx} : OpR X (binaryOp .Mult) rRepS := by
  intro pins s σ H x y v u Q I rx ry h
  obtain ⟨a, n, rfl, rfl, h1, h2, h3, q⟩ := h
  obtain ⟨t, rfl⟩ := rx
  obtain ⟨t2, rfl⟩ := ry
  refine PySem.P.mul_str (by rw [decide_eq_false (by omega), decide_eq_false (by omega)]; rfl) (fun z1 z2 => ?_) (fun z1 z2 => ?_) ?_
  · have hn : 0 < n := by omega
    intro z
    have h4 : (a.length : Int) * n ≤ 2 ^ 63 - 1 := by
      have e : ((a.length * n.toNat : Nat) : Int) = (a.length : Int) * n := by
        rw [Int.natCast_mul, Int.toNat_of_nonneg (by omega)]
      have := sizeLine_eq
      omega
    have := (Int.le_ediv_iff_mul_le hn).mpr h4
    omega
  · exact decide_eq_false (Nat.not_lt.mpr h2)
  · by_cases z : n < 1
    · rw [if_pos z]
      have e : n.toNat = 0 := by omega
      rw [e] at q
      exact ⟨by decide, ⟨.str Str.empty, H, I.tok _, ⟨_, rfl⟩, q⟩⟩
    · rw [if_neg z]
      by_cases c : (n == 1 || a.length == 0) = true
      · rw [if_pos c]
        have e : repS a n.toNat = a := by
          apply str_ext
          rw [rep_tl]
          rw [Bool.or_eq_true] at c
          rcases c with c | c
          · have : n = 1 := by simpa using c
            subst this; simp
          · have : a.length = 0 := by simpa using c
            have : a.cps.toList = [] := List.eq_nil_of_length_eq_zero (by rw [← len_tl]; exact this)
            rw [this]; simp
        rw [e] at q
        exact ⟨.str a, H, I, ⟨_, rfl⟩, q⟩
      · rw [if_neg c]
        exact ⟨by show (repS a n.toNat).length ≤ sizeLine; rw [rep_len]; exact h2, ⟨.str (repS a n.toNat), H, I.tok _, ⟨_, rfl⟩, q⟩⟩
theorem ev_repS {σ : L2.St} {H : Hp} {ta tb : TE} {a : Str} {n : Int} (ha : Ev ta σ H (.str a)) (hb : Ev tb σ H (.int n)) (h : a.length * n.toNat ≤ sizeLine ∧ -(2 ^ 62) ≤ n ∧ n < 2 ^ 62) : Ev (tOp rRepS ta tb) σ H (.str (repS a n.toNat)) :=
  ev_op ha hb fun Q q => ⟨a, n, rfl, rfl, h.2.1, h.1, h.2.2, q⟩
end Ml
namespace PySem.W
open PySem PySem.Spec PySem.Calls PyProof.Rows
end PySem.W
namespace Ml
open PySem PySem.Spec PyProof.Rows L2
variable {G : Gx}
inductive StV where
  | i (n : Int) | s (x : Script)
def stIm (G : Gx) (H : Hp) (v : V) : StV → Prop
  | .i n => v = .int n
  | .s s => Im.im G H v s
theorem stIm_st {H H' : Hp} {v : V} {x : StV} (h : stIm G H v x) (st : Stab G H H') : stIm G H' v x := by
  cases x with
  | i n => exact h
  | s s =>
    have h : Im.im G H v s := h
    exact (Im.st h st : Im.im G H' v s)
instance stvI : Im G StV := ⟨stIm G, fun h s => stIm_st h s⟩
end Ml
namespace L2
open PySem PySem.Spec PyProof.Rows
end L2
namespace Ml
open PySem PySem.Spec PyProof.Rows L2
end Ml
namespace Ml
open PySem PySem.Spec PyProof.Rows L2
variable {G : Gx} {κ β : Type} [Kx κ] [DecidableEq κ] [Im G β] {H : Hp} {L L' : List (Asn G)} {σ : L2.St} {Q : VK} {td ty tx : TE} {k : κ} {a : Addr} {xs : List (κ × β)} {i : Nat}
/-- d[k], k there -/
theorem ev_dget {v : V} {y : β} (hS : Sep H L) (e : L[i]? = some (dictA a xs)) (hd : Ev td σ H (.ref a)) (hy : Ev ty σ H (kV (Kx.key k))) (g : DGet H a (kV (Kx.key k)) (some v)) : Ev (tDGet td ty) σ H v :=
  fun Q q => hd _ (hy _ ⟨a, v, rfl, g, q⟩)
theorem dget_some {y : β} (hS : Sep H L) (e : L[i]? = some (dictA a xs)) (h : dget xs k = some y) : ∃ v, DGet H a (kV (Kx.key k)) (some v) ∧ Im.im G H v y := by
  obtain ⟨r, g, h1, _⟩ := dget_at hS e (k := k) h
  obtain ⟨v, rfl, m⟩ := h1 y rfl
  exact ⟨v, g, m⟩
/-- what d[k] wants: that k is there -/
def dgetR (xs : List (κ × β)) (k : κ) : R β := match dget xs k with
  | some y => .ok y
  | none => .bad
theorem wp_dget {ρ : Type} {q : ρ → Prop} {e : Exc → Prop} {f : β → R ρ} (h : R.wp ((dgetR xs k).bind f) q e) : ∃ y, dget xs k = some y ∧ R.wp (f y) q e := by
  unfold dgetR at h
  cases c : dget xs k with
  | none => rw [c] at h; exact h.elim
  | some y => rw [c] at h; exact ⟨y, rfl, h⟩
/-- d[k] = v -/
theorem k_setD {v : V} {y : β} {P : Hp → Prop} (hS : Sep H L) (e : L[i]? = some (dictA a xs)) (hv : Im.im G H v y) (hl : xs.length < sizeLine) (e2 : L.set i (dictA a (dput xs k y)) = L') (q : ∀ H', Sep H' L' → P H') : rSetD (.ref a) (kV (Kx.key k)) v H P := by
  obtain ⟨ps, h, m⟩ := hS.dict e
  refine ⟨a, _, rfl, .inl ⟨ps, Kx.key k, h, rfl, by rw [m.len]; exact hl, rfl⟩, q _ ?_⟩
  subst e2
  exact hS.putD e (m.put hv)
end Ml
namespace Ml
open PySem PySem.Spec PyProof.Rows L2
variable {G : Gx} {β : Type} {H : Hp} {M : List (Asn G)}
def elemsE (E : Addr → β → Asn G) (l : List (Addr × β)) : List (Asn G) := l.map fun q => E q.1 q.2
theorem erase_map {α γ : Type} (f : α → γ) : ∀ (l : List α) (j : Nat), (l.map f).eraseIdx j = (l.eraseIdx j).map f
  | [], j => by simp
  | x :: l, 0 => rfl
  | x :: l, j + 1 => by simp only [List.map_cons, List.eraseIdx_cons_succ]; rw [erase_map f l j]
theorem perm_out {α : Type} : ∀ {l : List α} {j : Nat} {x : α}, l[j]? = some x → (x :: l.eraseIdx j).Perm l
  | [], j, x, h => by cases h
  | y :: l, 0, x, h => by
    have : y = x := by simpa using h
    subst this; exact .refl _
  | y :: l, j + 1, x, h => by
    have h2 : l[j]? = some x := by simpa using h
    exact (List.Perm.swap y x _).trans ((perm_out h2).cons y)
end Ml
namespace Ml
open PySem PySem.Spec PyProof.Rows L2
variable {G : Gx} {κ β : Type} [Kx κ] [DecidableEq κ] {H : Hp} {M : List (Asn G)}
def refsD (kvs : List (κ × β)) (ps : List Addr) : List (Key × V) := List.zipWith (fun kv p => (Kx.key kv.1, V.ref p)) kvs ps
def dictE (E : Addr → β → Asn G) (a : Addr) (kvs : List (κ × β)) : Asn G := exA fun (ps : List Addr) => andA (ps.length = kvs.length ∧ (kvs.map (·.1)).Nodup) (star (cell a (.dK (refsD kvs ps)) :: elemsE E (ps.zip (kvs.map (·.2)))))
theorem refs_val {kvs : List (κ × β)} {ps : List Addr} {j : Nat} {k : κ} {y : β} {p : Addr} (hl : ps.length = kvs.length) (hn : (kvs.map (·.1)).Nodup) (hj : kvs[j]? = some (k, y)) (hp : ps[j]? = some p) : valV (refsD kvs ps) (Kx.key k) = some (.ref p) := by
  induction kvs generalizing ps j with
  | nil => cases hj
  | cons kv kvs ih =>
    cases ps with
    | nil => cases hl
    | cons q ps =>
      cases j with
      | zero =>
        have h1 : kv = (k, y) := by simpa using hj
        have h2 : q = p := by simpa using hp
        subst h1 h2
        show valV ((Kx.key k, V.ref q) :: refsD kvs ps) (Kx.key k) = _
        unfold valV
        simp
      | succ j =>
        have hj' : kvs[j]? = some (k, y) := by simpa using hj
        have hp' : ps[j]? = some p := by simpa using hp
        rw [List.map_cons, List.nodup_cons] at hn
        have hk : ¬ kv.1 = k := fun e => hn.1 (List.mem_map.mpr ⟨(k, y), List.mem_of_getElem? hj', e.symm⟩)
        have := ih (ps := ps) (j := j) (by simpa using hl) hn.2 hj' hp'
        show valV ((Kx.key kv.1, V.ref q) :: refsD kvs ps) (Kx.key k) = _
        unfold valV at this ⊢
        have hk2 : ¬ Kx.key kv.1 = Kx.key k := fun e => hk (Kx.inj e)
        simpa [hk2] using this
theorem zip_hole {ps : List Addr} {xs : List β} {j : Nat} {z : β} (hl : ps.length = xs.length) : (ps.zip (xs.set j z)).eraseIdx j = (ps.zip xs).eraseIdx j := by
  induction ps generalizing xs j with
  | nil => simp
  | cons q ps ih =>
    cases xs with
    | nil => cases hl
    | cons x xs =>
      cases j with
      | zero => rfl
      | succ j =>
        simp only [List.set_cons_succ, List.zip_cons_cons, List.eraseIdx_cons_succ]
        rw [ih (by simpa using hl)]
theorem put_at {kvs : List (κ × β)} {j : Nat} {k : κ} {y z : β} (hn : (kvs.map (·.1)).Nodup) (hj : kvs[j]? = some (k, y)) : dput kvs k z = kvs.set j (k, z) := by
  have hany : (kvs.any fun kv => decide (kv.1 = k)) = true := List.any_eq_true.mpr ⟨(k, y), List.mem_of_getElem? hj, by simp⟩
  unfold dput
  rw [if_pos hany]
  clear hany
  induction kvs generalizing j with
  | nil => cases hj
  | cons kv kvs ih =>
    rw [List.map_cons, List.nodup_cons] at hn
    cases j with
    | zero =>
      have h1 : kv = (k, y) := by simpa using hj
      subst h1
      have : kvs.map (fun kv => if kv.1 = k then (kv.1, z) else kv) = kvs := by
        have : ∀ q, q ∈ kvs → (if q.1 = k then (q.1, z) else q) = q := fun q hq => by
          rw [if_neg]
          intro e
          exact hn.1 (List.mem_map.mpr ⟨q, hq, e⟩)
        conv => rhs; rw [← List.map_id kvs]
        exact List.map_congr_left this
      simp [this]
    | succ j =>
      have hj' : kvs[j]? = some (k, y) := by simpa using hj
      have hk : ¬ kv.1 = k := fun e => hn.1 (List.mem_map.mpr ⟨(k, y), List.mem_of_getElem? hj', e.symm⟩)
      rw [List.map_cons, if_neg hk, List.set_cons_succ, ih hn.2 hj']
end Ml
namespace Ml
open PySem PySem.Spec PyProof.Rows L2
variable {G : Gx} {κ β : Type} [Kx κ] [DecidableEq κ] {H : Hp} {M : List (Asn G)}
theorem refs_new {y : β} {kvs : List (κ × β)} {ps : List Addr} {k : κ} {p : Addr} (hl : ps.length = kvs.length) (hk : ¬ k ∈ kvs.map (·.1)) : putK (refsD kvs ps) (Kx.key k) (.ref p) = refsD (kvs ++ [(k, y)]) (ps ++ [p]) := by
  have h1 : (refsD kvs ps).any (fun kv => decide (kv.1 = Kx.key k)) = false := by
    rw [Bool.eq_false_iff]
    intro z
    obtain ⟨q, hq, e⟩ := List.any_eq_true.mp z
    have e := of_decide_eq_true e
    unfold refsD at hq
    induction kvs generalizing ps with
    | nil => simp at hq
    | cons kv kvs ih =>
      cases ps with
      | nil => cases hl
      | cons r ps =>
        rw [List.zipWith_cons_cons] at hq
        rcases List.mem_cons.mp hq with rfl | hq
        · exact hk (by rw [List.map_cons]; exact List.mem_cons.mpr (.inl (Kx.inj e).symm))
        · exact ih (ps := ps) (by simpa using hl) (fun m => hk (by rw [List.map_cons]; exact List.mem_cons_of_mem _ m)) (by
            refine List.any_eq_true.mpr ⟨q, hq, by simpa using e⟩) hq
  unfold putK
  rw [h1]
  unfold refsD
  rw [List.zipWith_append hl.symm]
  rfl
theorem refs_len {kvs : List (κ × β)} {ps : List Addr} (hl : ps.length = kvs.length) : (refsD kvs ps).length = kvs.length := by
  unfold refsD
  rw [List.length_zipWith]; omega
end Ml
namespace PySem.SeqAt
open AutoSeq1 (wpAny_loadPart')
open MeetsSeq MeetsSeq2 MeetsSeq3
section
variable {prog : Program} {w : World} {A : Around} {s : Shared} {E : Value → Shared → Prop}
def DictAt (s : Shared) (d : Addr) : Prop := ∃ dd es ep sl, s.heap.get? d = some ⟨.type "dict", dd, .dict es ep, sl⟩
theorem DictAt.ty {d : Addr} (h : DictAt s d) : s.TypeIs (.ref d) "dict" := by obtain ⟨dd, es, ep, sl, h⟩ := h; exact ⟨_, h, rfl⟩
end
end PySem.SeqAt
namespace L2
open PySem PySem.Spec PyProof.Rows
end L2
namespace Ml
open PySem PySem.Spec PyProof.Rows L2
variable {G : Gx} {H : Hp} {L : List (Asn G)} {Q : VK}
theorem R.need_rev {α : Type} {p : Prop} {inst : Decidable p} {k : R α} {q : α → Prop} {e : Exc → Prop} {Z : Prop} (f : p → k.wp q e → Z) (h : (@R.need α p inst k).wp q e) : Z := f (R.wp_need h).1 (R.wp_need h).2
end Ml
namespace Ml
open PySem PySem.Spec PyProof.Rows
def leT (a b : Str) : Bool := !decide (b.cps.toList < a.cps.toList)
theorem leT_iff {a b : Str} : leT a b = true ↔ a.cps.toList ≤ b.cps.toList := by
  unfold leT
  rw [Bool.not_eq_true', decide_eq_false_iff_not]
  exact List.not_lt
theorem leT_tr (a b c : Str) (x : leT a b = true) (y : leT b c = true) : leT a c = true := leT_iff.mpr (List.le_trans (leT_iff.mp x) (leT_iff.mp y))
theorem leT_tot (a b : Str) : (leT a b || leT b a) = true := by
  rw [Bool.or_eq_true]
  exact (List.le_total a.cps.toList b.cps.toList).imp leT_iff.mpr leT_iff.mpr
theorem leT_anti {a b : Str} (x : leT a b = true) (y : leT b a = true) : a = b := by
  have e := List.le_antisymm (leT_iff.mp x) (leT_iff.mp y)
  obtain ⟨⟨xs⟩⟩ := a
  obtain ⟨⟨ys⟩⟩ := b
  cases e
  rfl
def sortT (xs : List Str) : List Str := xs.mergeSort leT
theorem sortT_perm (xs : List Str) : (sortT xs).Perm xs := List.mergeSort_perm xs leT
theorem sortT_up (xs : List Str) : (sortT xs).Pairwise (fun a b => leT a b = true) := List.pairwise_mergeSort leT_tr leT_tot xs
theorem up_one : ∀ {xs ys : List Str}, xs.Pairwise (fun a b => leT a b = true) → ys.Pairwise (fun a b => leT a b = true) → xs.Perm ys → xs = ys
  | [], ys, _, _, p => p.nil_eq
  | x :: r, [], _, _, p => absurd p.length_eq (by simp)
  | x :: r, y :: t, ux, uy, p => by
    have ex : x = y := by
      by_cases z : x = y
      · exact z
      · have mx : x ∈ t := (List.mem_cons.mp (p.mem_iff.mp List.mem_cons_self)).resolve_left z
        have my : y ∈ r := (List.mem_cons.mp (p.mem_iff.mpr List.mem_cons_self)).resolve_left (fun q => z q.symm)
        exact leT_anti (List.rel_of_pairwise_cons ux my) (List.rel_of_pairwise_cons uy mx)
    subst ex
    rw [up_one (List.pairwise_cons.mp ux).2 (List.pairwise_cons.mp uy).2 (p.cons_inv)]
theorem rising_leT : ∀ {p : Str} {xs : List Str}, risingS p xs = true → (p :: xs).Pairwise (fun a b => leT a b = true)
  | p, [], _ => List.pairwise_singleton _ _
  | p, x :: r, h => by
    have h' : (!ltCps x.cps.toList p.cps.toList && risingS x r) = true := h
    rw [Bool.and_eq_true, ltCps_eq] at h'
    have t := rising_leT h'.2
    have px : leT p x = true := h'.1
    refine List.pairwise_cons.mpr ⟨fun y hy => ?_, t⟩
    rcases List.mem_cons.mp hy with e | e
    · rw [e]; exact px
    · exact leT_tr _ _ _ px (List.rel_of_pairwise_cons t e)
theorem sorted_leT : ∀ {xs : List Str}, sortedS xs = true → xs.Pairwise (fun a b => leT a b = true)
  | [], _ => List.Pairwise.nil
  | _ :: _, h => rising_leT h
theorem sortT_of {xs ys : List Str} (p : ys.Perm xs) (h : ys.Pairwise (fun a b => leT a b = true)) : ys = sortT xs := up_one h (sortT_up xs) (p.trans (sortT_perm xs).symm)
theorem sortT_congr {xs ys : List Str} (p : xs.Perm ys) : sortT xs = sortT ys := sortT_of ((sortT_perm xs).trans p) (sortT_up xs)
def onceL : List Str → List Str
  | [] => []
  | x :: r => if x ∈ r then onceL r else x :: onceL r
theorem mem_onceL {x : Str} : ∀ {xs : List Str}, x ∈ onceL xs ↔ x ∈ xs
  | [] => Iff.rfl
  | y :: r => by
    unfold onceL
    split
    · rename_i c
      rw [mem_onceL, List.mem_cons]
      exact ⟨.inr, fun h => h.elim (fun e => e ▸ c) id⟩
    · rw [List.mem_cons, List.mem_cons, mem_onceL]
theorem nodup_onceL : ∀ {xs : List Str}, (onceL xs).Nodup
  | [] => List.nodup_nil
  | y :: r => by
    unfold onceL
    split
    · exact nodup_onceL
    · rename_i c
      exact List.nodup_cons.mpr ⟨fun h => c (mem_onceL.mp h), nodup_onceL⟩
theorem perm_of_len : ∀ {xs ys : List Str}, xs.Nodup → (∀ x, x ∈ xs → x ∈ ys) → ys.length ≤ xs.length → ys.Perm xs
  | [], ys, _, _, l => by
    have e : ys = [] := List.length_eq_zero_iff.mp (Nat.le_zero.mp l)
    rw [e]
  | x :: r, ys, d, m, l => by
    obtain ⟨d1, d2⟩ := List.nodup_cons.mp d
    have hx := m x List.mem_cons_self
    have pe := List.perm_cons_erase hx
    refine pe.trans (List.Perm.cons x (perm_of_len d2 (fun y hy => ?_) ?_))
    · rcases List.mem_cons.mp (pe.mem_iff.mp (m y (List.mem_cons_of_mem _ hy))) with e | e
      · rw [e] at hy; exact absurd hy d1
      · exact e
    · have q := pe.length_eq
      simp only [List.length_cons] at q l
      omega
theorem nodup_len : ∀ {xs ys : List Str}, xs.Nodup → (∀ x, x ∈ xs → x ∈ ys) → xs.length ≤ ys.length
  | [], _, _, _ => Nat.zero_le _
  | x :: r, ys, d, m => by
    obtain ⟨d1, d2⟩ := List.nodup_cons.mp d
    have pe := List.perm_cons_erase (m x List.mem_cons_self)
    have q := pe.length_eq
    have t : r.length ≤ (ys.erase x).length := nodup_len d2 fun y hy => by
      rcases List.mem_cons.mp (pe.mem_iff.mp (m y (List.mem_cons_of_mem _ hy))) with e | e
      · rw [e] at hy; exact absurd hy d1
      · exact e
    simp only [List.length_cons] at q ⊢
    omega
theorem perm_same {xs ys : List Str} (d : xs.Nodup) (e : ys.Nodup) (m : ∀ x, x ∈ xs ↔ x ∈ ys) : xs.Perm ys := perm_of_len e (fun x h => (m x).mpr h) (nodup_len d fun x h => (m x).mp h)
/-- sorted(set(xs)) -/
def ssetT (xs : List Str) : List Str := sortT (onceL xs)
theorem mem_ssetT {x : Str} {xs : List Str} : x ∈ ssetT xs ↔ x ∈ xs := (sortT_perm _).mem_iff.trans mem_onceL
theorem ssetT_nodup (xs : List Str) : (ssetT xs).Nodup := (sortT_perm _).nodup_iff.mpr nodup_onceL
theorem ssetT_up (xs : List Str) : (ssetT xs).Pairwise (fun a b => leT a b = true) := sortT_up _
theorem ssetT_is {xs ys : List Str} (d : ys.Nodup) (u : ys.Pairwise (fun a b => leT a b = true)) (m : ∀ x, x ∈ ys ↔ x ∈ xs) : ys = ssetT xs :=
  up_one u (ssetT_up xs) (perm_same d (ssetT_nodup xs) fun x => (m x).trans mem_ssetT.symm)
end Ml
namespace L2
open PySem PySem.Spec PyProof.Rows PySem.Froz Ml
def OrdOk (w : World) (D : SD) : Prop := Ris D.2.2.place.toList ∧ (w.params.followText "set-order" = true ∨ D.2.2.led = true)
theorem ord_tail {w : World} {ep : Nat} {es : Array (Int × Value)} {t : SetTable} {b : Bool} (r : Ris t.place.toList) (l : w.params.followText "set-order" = true ∨ t.led = true) : OrdOk w (tailTx ep es t b) := by
  unfold tailTx
  split
  · exact ⟨relayAll_ris t es _, l.imp id fun z => by rw [relayAll_led]; exact z⟩
  · exact ⟨r, l⟩
theorem ord_add {w : World} {D : SD} {h : Int} {v : Value} (o : OrdOk w D) : OrdOk w (addTx h v D) := by
  obtain ⟨es, ep, t⟩ := D
  have r := layNew_ris t es h v o.1
  have l : w.params.followText "set-order" = true ∨ (layNew t es h v).2.1.led = true := o.2.imp id fun z => by rw [layNew_led]; exact z
  unfold addTx
  dsimp only
  split
  · exact ord_tail r l
  · exact ord_tail r l
structure SX (P : Program) (w : World) (D : SD) (l : List Str) : Prop where
  ok : TxOk P w D l
  nd : l.Nodup
  od : OrdOk w D
section
variable {P : Program} {w : World} {A : Around} {E : Value → Shared → Prop} {s : Shared}
theorem add_had {a : Addr} {T : String} {D : SD} {l : List Str} {k : Str} {u : Tok} {Q : Bool → Shared → Prop} (ho : s.heap.get? a = some (sObj T D)) (F : TxOk P w D l) (hk : k ∈ l) (hb : l.length < scanBound)
    (h : Q false s) : wpAny (model P w) A (setAddHashed a (.str k u) (hashStr w k)) Q E s := by
  obtain ⟨es, ep, t⟩ := D
  have few : es.size < scanBound := by rw [show es.size = l.length from F.sz]; exact hb
  unfold setAddHashed setAddHashedIn
  refine wpAny_holding (wpAny_bind (wpAny_setState_of ho rfl F.fit ?_))
  dsimp only
  rw [byScan_of rfl few F.el]
  simp only [↓reduceIte]
  unfold setAddByScan
  refine wpAny_bind (wpAny_bind (wpAny_rule (wpAny_bind (wpAny_setScan_of (knd := strKind P w) (k := k) (is_str k u) ho rfl F.fit F.el ?_))))
  cases hr : List.findIdx? (fun e => (strKind P w).is k e.2) es.toList with
  | none =>
    obtain ⟨e, he, z⟩ := (F.mem k).mp hk
    have c := List.findIdx?_eq_none_iff.mp hr e he
    rw [z] at c
    cases c
  | some j =>
    dsimp only
    exact wpAny_pure (wpAny_pure h)
/-- one text more, had or new -/
theorem add_any {a : Addr} {T : String} {D : SD} {l : List Str} {k : Str} {u : Tok} {Q : Bool → Shared → Prop} (ho : s.heap.get? a = some (sObj T D)) (F : SX P w D l) (hb : l.length + 1 < scanBound)
    (h : ∀ b h' D' l', (∀ x, x ∈ l' ↔ x ∈ l ∨ x = k) → l'.length ≤ l.length + 1 → SX P w D' l' → h'.get? a = some (sObj T D') → (∀ c o, c ≠ a → s.heap.get? c = some o → h'.get? c = some o) → Q b { s with heap := h' }) :
    wpAny (model P w) A (setAddHashed a (.str k u) (hashStr w k)) Q E s := by
  by_cases c : k ∈ l
  · exact add_had ho F.ok c (Nat.lt_of_succ_lt hb) (h false s.heap D l (fun x => ⟨.inl, fun z => z.elim id fun e => e ▸ c⟩) (Nat.le_succ _) F ho fun _ _ _ e => e)
  · refine add_x ho F.ok c hb (h true _ _ (k :: l) (fun x => List.mem_cons.trans Or.comm) (Nat.le_refl _) ⟨add_ok u F.ok, List.nodup_cons.mpr ⟨c, F.nd⟩, ord_add F.od⟩ (get_upd _ ho rfl) fun d o hd e => ?_)
    exact (PySem.Heap.get?_update_of_ne _ (Ne.symm hd) e)
theorem set_fill {I : Addr} {fp wr : List Addr} {GG : Array GenState → Array GenState → Prop} {n : Nat} {Pv : Nat → Value → Prop} {St : Nat → Shared → Prop} {R : Result → Shared → Prop}
    (W : WalksS P w A.in1 I fp wr GG n Pv St) (S : Addr) (out : S ∉ fp) (xs : List Str) (hn : n = xs.length) (few : xs.length + 1 < scanBound) (val : ∀ i v, Pv i v → ∃ x t, xs[i]? = some x ∧ v = .str x t) :
    ∀ (k i : Nat) (s : Shared), n - i = k → i ≤ n → St i s → (∃ D l, l.length ≤ i ∧ (∀ x, x ∈ l ↔ x ∈ xs.take i) ∧ SX P w D l ∧ s.heap.get? S = some (sObj "set" D)) →
      (∀ s' D l, Moved (S :: wr) GG s s' → (∀ x, x ∈ l ↔ x ∈ xs) → l.length ≤ n → SX P w D l → s'.heap.get? S = some (sObj "set" D) → R (.ok (.ret .none)) s') →
      codeAny (model P w) A (.builtin "set.update.loop" ⟨[.ref S, .ref I], []⟩) R s := by
  have nw : S ∉ wr := fun h => out (W.sub _ h)
  have sub : ∀ b ∈ wr, b ∈ S :: wr := fun b hb => List.mem_cons_of_mem _ hb
  intro k
  induction k with
  | zero =>
    intro i s hk hi st ⟨D, l, hl, hm, F, ho⟩ fin
    have hin : i = n := by omega
    subst hin
    rw [List.take_of_length_le (by omega)] at hm
    refine codeAny_builtin PyProof.Rows.F.entry_set_update_loop ?_
    rw [Around.under_plainId PyProof.Rows.F.plain_set_update_loop _]
    show wpAny _ A.in1 (pyNext (.ref I) >>= _) _ _ s
    refine wpAny_bind (W.done s _ _ st fun s' mv => ?_)
    exact wpAny_pure (fin s' D l (mv.mono sub) hm hl F (mv.heap S _ nw ho))
  | succ k ih =>
    intro i s hk hi st ⟨D, l, hl, hm, F, ho⟩ fin
    have lt : i < n := by omega
    refine codeAny_builtin PyProof.Rows.F.entry_set_update_loop ?_
    rw [Around.under_plainId PyProof.Rows.F.plain_set_update_loop _]
    show wpAny _ A.in1 (pyNext (.ref I) >>= _) _ _ s
    refine wpAny_bind (W.item i s _ _ lt st fun v s' pv st' mv => ?_)
    obtain ⟨z, t, hz, rfl⟩ := val i v pv
    show wpAny _ A.in1 (holding [Value.str z t] (setAdd S (.str z t)) >>= _) _ _ s'
    refine wpAny_bind (wpAny_holding ?_)
    unfold setAdd
    refine wpAny_holding ?_
    refine wpAny_bind ((strKind P w).pyHash (k := z) (is_str z t) ?_)
    refine add_any (s := { s' with toks := s'.toks + 1 }) (mv.heap S _ nw ho) F (by omega) fun b h' D' l' hm' hl' F' ho' same => ?_
    have hm2 : ∀ x, x ∈ l' ↔ x ∈ xs.take (i + 1) := fun x => by
      rw [hm' x, hm x, List.take_add_one, hz]
      simp [List.mem_append]
    refine wpAny_pure ⟨plainId_quiet PyProof.Rows.F.plain_set_update_loop _, ih (i + 1) _ (by omega) lt (W.frame _ s' _ _ st' (Nat.le_succ _) fun b hb o e => ?_) ⟨D', l', by omega, hm2, F', ho'⟩ fun s'' D2 l2 mv2 h1 h2 h3 h4 => ?_⟩
    · exact same b o (fun q => out (q ▸ hb)) e
    · exact fin s'' D2 l2 (Moved.trans W.gtrans ((mv.mono sub).then_heap (Nat.le_succ _) fun b o hb e => same b o (fun q => hb (by rw [q]; exact List.mem_cons_self)) e) mv2) h1 h2 h3 h4
theorem sx_new {led : Bool} (hl : w.params.followText "set-order" = true ∨ led = true) : SX P w (#[], 0, .fresh 0 0 led) [] := ⟨TxOk.nil (by rfl), List.nodup_nil, List.Pairwise.nil, hl⟩
def newSet (w : World) : Obj := { cls := .type "set", dict := none, data := .set #[] 0 (.fresh 0 0 (!w.params.followText "set-order")) }
set_option maxRecDepth 100000 in
theorem set_of_list {l : Addr} {items : Array Value} (xs : List Str) {Q : Value → Shared → Prop} (calm : A.handled = none) (hl : s.heap.IsList l items) (hit : StrsAre items.toList xs) (few : xs.length + 1 < scanBound)
    (fin : ∀ (h' : Heap) (tk : Nat) (D : SD) (m : List Str), SX P w D m → (∀ x, x ∈ m ↔ x ∈ xs) → m.length ≤ xs.length → h'.get? s.heap.objs.size = some (sObj "set" D) → (∀ b o, s.heap.get? b = some o → h'.get? b = some o) → Q (.ref s.heap.objs.size) { s with heap := h', toks := tk }) :
    wpAny (model P w) A (call (.type "set") [.ref l]) Q E s := by
  have isz : items.size = xs.length := by rw [← StrsAre.len_eq hit, Array.length_toList]
  obtain ⟨hd, tl, m_⟩ := PySem.F.called_set.mro
  have m1 := PySem.F.called_set.made
  have m2 := PySem.F.called_set.sub
  refine wpAny_call (codeAny_of_tree ?_)
  show wpAny _ _ (callAny (.type "set") _) _ _ _
  refine wpAny_pure ⟨Code.quiet_builtin _ (by decide +kernel), codeAny_builtin PySem.F.entry_type_call ?_⟩
  rw [Around.under_plain (weight_type_call_type "set" [.ref l] []) rfl]
  have n1 := PySem.F.called_set.notType
  have n2 := PySem.F.called_set.canCreate
  have n3 := PySem.F.typeCall_set_1 (.ref l)
  repeat (any_goals (first | assumption | wp_step))

  refine codeAny_mono (code_set_led1 (.ref l) (E := E) (Q₁ := fun x s₁ => x = .ref s.heap.objs.size ∧ s₁ = { s with heap := s.heap.push (newSet w) }) ⟨rfl, rfl⟩) fun r s₁ hr => ?_
  cases r with
  | error e => exact hr
  | ok fl =>
    cases fl with
    | ret obj =>
      obtain ⟨rfl, rfl⟩ := hr
      have gS : (s.heap.push (newSet w)).get? s.heap.objs.size = some (newSet w) := Heap.get?_push_size _ rfl
      have tS : Shared.TypeIs { s with heap := s.heap.push (newSet w) } (.ref s.heap.objs.size) "set" := ⟨_, gS, rfl⟩
      have i1 := PySem.F.called_set.init.lookup
      have i2 := PySem.F.called_set.init.bind (.ref s.heap.objs.size)
      repeat (any_goals (first | assumption | wp_step))

      refine codeAny_mono (codeAny_call_builtin (R := wants (fun r s₂ => r = .none ∧ ∃ h' tk D m, s₂ = { s with heap := h', toks := tk } ∧ SX P w D m ∧ (∀ x, x ∈ m ↔ x ∈ xs) ∧ m.length ≤ xs.length ∧
          h'.get? s.heap.objs.size = some (sObj "set" D) ∧ (∀ b o, s.heap.get? b = some o → h'.get? b = some o)) E) PySem.F.called_set.init.plain PySem.F.entry_set_init (check_set_init_1 tS ?_)) fun r₂ s₂ hr₂ => ?_
      · obtain ⟨ol, ho, hc, nl, hd⟩ := hl
        obtain ⟨cl_, dc_, dt_, sl_⟩ := ol
        simp only at hc hd
        subst hc; subst hd
        have ho' : (s.heap.push (newSet w)).get? l = some { cls := .type "list", dict := dc_, data := .seq items nl, slots := sl_ } := Heap.get?_push_of_some _ ho
        have s1 := PySem.F.sub_list_set
        have s2 := PySem.F.sub_list_frozenset
        have s3 : (Value.type "list" == Value.type "dict") = false := by decide
        have il : (s.heap.push (newSet w)).IsList l items := ⟨_, ho', rfl, nl, rfl⟩
        unfold Builtin.«set.__init__» noKeywords Builtin.Frozenset.updateFrom
        generalize hPI : pyIter = PI
        wp_walk
        subst hPI

        refine wpAny_pyIter_list il ?_
        refine wpAny_bind (wpAny_runValue ?_)
        have lS : l < s.heap.objs.size := Heap.lt_size ho
        have c3 : A.in1.in1.in1.handled = none := by simp [calm]
        have nI : l ≠ (s.heap.push (newSet w)).objs.size := by
          rw [Heap.size_push]; exact Nat.ne_of_lt (Nat.lt_succ_of_lt lS)
        have nS : s.heap.objs.size ∉ [(s.heap.push (newSet w)).objs.size, l] := by
          rw [Heap.size_push]; simp only [List.mem_cons, List.mem_singleton, List.not_mem_nil, or_false, not_or]
          exact ⟨Nat.ne_of_lt (Nat.lt_succ_self _), Nat.ne_of_gt lS⟩
        have val : ∀ (i : Nat) (v : Value), items[i]? = some v → ∃ x t, xs[i]? = some x ∧ v = .str x t := fun i v hv => by
          have hi : i < xs.length := by rw [← isz]; exact (Array.getElem?_eq_some_iff.mp hv).1
          obtain ⟨t, e⟩ := SS.strs_at hit i v (by rw [Array.getElem?_toList]; exact hv)
          refine ⟨xs[i], t, List.getElem?_eq_getElem hi, ?_⟩
          rw [e, List.getD_eq_getElem?_getD, List.getElem?_eq_getElem hi] <;> rfl
        refine set_fill ((Walks.list c3 _ l nI items).toS) s.heap.objs.size nS xs isz few val (items.size - 0) 0 _ (by omega) (Nat.zero_le _) ⟨⟨_, Heap.get?_push_size _ rfl, rfl, rfl⟩, (il.push _)⟩ ?at0 ?end0
        case at0 =>
          have g0 : ((s.heap.push (newSet w)).push { cls := .type "list_iterator", data := .fields #[.ref l, .int 0 0] }).get? s.heap.objs.size = some (newSet w) := Heap.get?_push_of_some _ gS
          refine ⟨(#[], 0, .fresh 0 0 (!w.params.followText "set-order")), [], Nat.le_refl 0, fun x => by simp, sx_new ?_, g0⟩
          cases w.params.followText "set-order"
          · exact .inr rfl
          · exact .inl rfl
        case end0 =>
          intro s' D m mv hm hlen F hS
          obtain ⟨h', g', d', tk', os'⟩ := s'
          have eg : g' = s.gens := mv.gens
          have ed : d' = s.drawn := mv.drawn
          have eo : os' = s.os := mv.os
          subst eg; subst ed; subst eo
          show wpAny _ _ _ _ _ _
          refine wpAny_pure ?_
          show wpAny _ _ (ret Value.none) _ _ _
          refine wpAny_pure ⟨rfl, h', tk', D, m, rfl, F, hm, by rw [← isz]; exact hlen, hS, fun b o e => ?_⟩
          have b0 : b < s.heap.objs.size := Heap.lt_size e
          have b2 : b ≠ (s.heap.push (newSet w)).objs.size := by
            rw [Heap.size_push]; exact Nat.ne_of_lt (Nat.lt_succ_of_lt b0)
          exact mv.heap b o (by simp only [List.mem_cons, List.mem_singleton, List.not_mem_nil, or_false, not_or]; exact ⟨Nat.ne_of_lt b0, b2⟩) (Heap.get?_push_of_some _ (Heap.get?_push_of_some _ e))
      · cases r₂ with
        | error e => exact hr₂
        | ok fl₂ =>
          cases fl₂ with
          | ret r =>
            obtain ⟨rfl, h', tk, D, m, rfl, F, hm, hlen, hS, hk⟩ := hr₂
            repeat (any_goals (first | assumption | wp_step))
            exact fin _ _ D m F hm hlen hS hk
          | _ => exact hr₂.elim
    | _ => exact hr.elim
set_option maxRecDepth 100000 in
theorem set_of_tuple {l : Addr} {items : Array Value} (xs : List Str) {Q : Value → Shared → Prop} (calm : A.handled = none) (hl : s.heap.IsTuple l items) (hit : StrsAre items.toList xs) (few : xs.length + 1 < scanBound)
    (fin : ∀ (h' : Heap) (tk : Nat) (D : SD) (m : List Str), SX P w D m → (∀ x, x ∈ m ↔ x ∈ xs) → m.length ≤ xs.length → h'.get? s.heap.objs.size = some (sObj "set" D) → (∀ b o, s.heap.get? b = some o → h'.get? b = some o) → Q (.ref s.heap.objs.size) { s with heap := h', toks := tk }) :
    wpAny (model P w) A (call (.type "set") [.ref l]) Q E s := by
  have isz : items.size = xs.length := by rw [← StrsAre.len_eq hit, Array.length_toList]
  obtain ⟨hd, tl, m_⟩ := PySem.F.called_set.mro
  have m1 := PySem.F.called_set.made
  have m2 := PySem.F.called_set.sub
  refine wpAny_call (codeAny_of_tree ?_)
  show wpAny _ _ (callAny (.type "set") _) _ _ _
  refine wpAny_pure ⟨Code.quiet_builtin _ (by decide +kernel), codeAny_builtin PySem.F.entry_type_call ?_⟩
  rw [Around.under_plain (weight_type_call_type "set" [.ref l] []) rfl]
  have n1 := PySem.F.called_set.notType
  have n2 := PySem.F.called_set.canCreate
  have n3 := PySem.F.typeCall_set_1 (.ref l)
  repeat (any_goals (first | assumption | wp_step))

  refine codeAny_mono (code_set_led1 (.ref l) (E := E) (Q₁ := fun x s₁ => x = .ref s.heap.objs.size ∧ s₁ = { s with heap := s.heap.push (newSet w) }) ⟨rfl, rfl⟩) fun r s₁ hr => ?_
  cases r with
  | error e => exact hr
  | ok fl =>
    cases fl with
    | ret obj =>
      obtain ⟨rfl, rfl⟩ := hr
      have gS : (s.heap.push (newSet w)).get? s.heap.objs.size = some (newSet w) := Heap.get?_push_size _ rfl
      have tS : Shared.TypeIs { s with heap := s.heap.push (newSet w) } (.ref s.heap.objs.size) "set" := ⟨_, gS, rfl⟩
      have i1 := PySem.F.called_set.init.lookup
      have i2 := PySem.F.called_set.init.bind (.ref s.heap.objs.size)
      repeat (any_goals (first | assumption | wp_step))

      refine codeAny_mono (codeAny_call_builtin (R := wants (fun r s₂ => r = .none ∧ ∃ h' tk D m, s₂ = { s with heap := h', toks := tk } ∧ SX P w D m ∧ (∀ x, x ∈ m ↔ x ∈ xs) ∧ m.length ≤ xs.length ∧
          h'.get? s.heap.objs.size = some (sObj "set" D) ∧ (∀ b o, s.heap.get? b = some o → h'.get? b = some o)) E) PySem.F.called_set.init.plain PySem.F.entry_set_init (check_set_init_1 tS ?_)) fun r₂ s₂ hr₂ => ?_
      · obtain ⟨ol, ho, hc, nl, hd⟩ := hl
        obtain ⟨cl_, dc_, dt_, sl_⟩ := ol
        simp only at hc hd
        subst hc; subst hd
        have ho' : (s.heap.push (newSet w)).get? l = some { cls := .type "tuple", dict := dc_, data := .seq items nl, slots := sl_ } := Heap.get?_push_of_some _ ho
        have s1 := PySem.F.sub_tuple_set
        have s2 := PySem.F.sub_tuple_frozenset
        have s3 : (Value.type "tuple" == Value.type "dict") = false := by decide
        have il : (s.heap.push (newSet w)).IsTuple l items := ⟨_, ho', rfl, nl, rfl⟩
        unfold Builtin.«set.__init__» noKeywords Builtin.Frozenset.updateFrom
        generalize hPI : pyIter = PI
        wp_walk
        subst hPI

        refine wpAny_pyIter_tuple il ?_
        refine wpAny_bind (wpAny_runValue ?_)
        have lS : l < s.heap.objs.size := Heap.lt_size ho
        have c3 : A.in1.in1.in1.handled = none := by simp [calm]
        have nI : l ≠ (s.heap.push (newSet w)).objs.size := by
          rw [Heap.size_push]; exact Nat.ne_of_lt (Nat.lt_succ_of_lt lS)
        have nS : s.heap.objs.size ∉ [(s.heap.push (newSet w)).objs.size, l] := by
          rw [Heap.size_push]; simp only [List.mem_cons, List.mem_singleton, List.not_mem_nil, or_false, not_or]
          exact ⟨Nat.ne_of_lt (Nat.lt_succ_self _), Nat.ne_of_gt lS⟩
        have val : ∀ (i : Nat) (v : Value), items[i]? = some v → ∃ x t, xs[i]? = some x ∧ v = .str x t := fun i v hv => by
          have hi : i < xs.length := by rw [← isz]; exact (Array.getElem?_eq_some_iff.mp hv).1
          obtain ⟨t, e⟩ := SS.strs_at hit i v (by rw [Array.getElem?_toList]; exact hv)
          refine ⟨xs[i], t, List.getElem?_eq_getElem hi, ?_⟩
          rw [e, List.getD_eq_getElem?_getD, List.getElem?_eq_getElem hi] <;> rfl
        refine set_fill ((Walks.tuple c3 _ l nI items).toS) s.heap.objs.size nS xs isz few val (items.size - 0) 0 _ (by omega) (Nat.zero_le _) ⟨⟨_, Heap.get?_push_size _ rfl, rfl, rfl⟩, (il.push _)⟩ ?at0 ?end0
        case at0 =>
          have g0 : ((s.heap.push (newSet w)).push { cls := .type "tuple_iterator", data := .fields #[.ref l, .int 0 0] }).get? s.heap.objs.size = some (newSet w) := Heap.get?_push_of_some _ gS
          refine ⟨(#[], 0, .fresh 0 0 (!w.params.followText "set-order")), [], Nat.le_refl 0, fun x => by simp, sx_new ?_, g0⟩
          cases w.params.followText "set-order"
          · exact .inr rfl
          · exact .inl rfl
        case end0 =>
          intro s' D m mv hm hlen F hS
          obtain ⟨h', g', d', tk', os'⟩ := s'
          have eg : g' = s.gens := mv.gens
          have ed : d' = s.drawn := mv.drawn
          have eo : os' = s.os := mv.os
          subst eg; subst ed; subst eo
          show wpAny _ _ _ _ _ _
          refine wpAny_pure ?_
          show wpAny _ _ (ret Value.none) _ _ _
          refine wpAny_pure ⟨rfl, h', tk', D, m, rfl, F, hm, by rw [← isz]; exact hlen, hS, fun b o e => ?_⟩
          have b0 : b < s.heap.objs.size := Heap.lt_size e
          have b2 : b ≠ (s.heap.push (newSet w)).objs.size := by
            rw [Heap.size_push]; exact Nat.ne_of_lt (Nat.lt_succ_of_lt b0)
          exact mv.heap b o (by simp only [List.mem_cons, List.mem_singleton, List.not_mem_nil, or_false, not_or]; exact ⟨Nat.ne_of_lt b0, b2⟩) (Heap.get?_push_of_some _ (Heap.get?_push_of_some _ e))
      · cases r₂ with
        | error e => exact hr₂
        | ok fl₂ =>
          cases fl₂ with
          | ret r =>
            obtain ⟨rfl, h', tk, D, m, rfl, F, hm, hlen, hS, hk⟩ := hr₂
            repeat (any_goals (first | assumption | wp_step))
            exact fin _ _ D m F hm hlen hS hk
          | _ => exact hr₂.elim
    | _ => exact hr.elim
theorem elems_strs {l : List (Int × Value)} (g : ElemsOf (strKind P w) l) : ∀ v ∈ l.map (·.2), ∃ k t, v = Value.str k t := fun v hv => by
  obtain ⟨e, he, rfl⟩ := List.mem_map.mp hv
  obtain ⟨⟨k, h1, _⟩, _⟩ := g e he
  obtain ⟨t, ev⟩ := Value.isStrOf_shape (x := k) (v := e.2) h1
  exact ⟨k, t, ev⟩
theorem strs_all : ∀ {vs : List Value}, (∀ v ∈ vs, ∃ k t, v = Value.str k t) → ∃ ks, StrsAre vs ks
  | [], _ => ⟨[], .nil⟩
  | v :: r, h => by
    obtain ⟨k, t, rfl⟩ := h v List.mem_cons_self
    obtain ⟨ks, hk⟩ := strs_all (vs := r) fun u hu => h u (List.mem_cons_of_mem _ hu)
    exact ⟨k :: ks, .cons k t hk⟩
theorem mem_strs {k : Str} : ∀ {vs : List Value} {ks : List Str}, StrsAre vs ks → (k ∈ ks ↔ ∃ t, Value.str k t ∈ vs)
  | _, _, .nil => ⟨fun h => (by cases h), fun ⟨_, h⟩ => (by cases h)⟩
  | _, _, .cons x t h => by
    rw [List.mem_cons, mem_strs h]
    constructor
    · rintro (e | ⟨u, e⟩)
      · exact ⟨t, by rw [e]; exact List.mem_cons_self⟩
      · exact ⟨u, List.mem_cons_of_mem _ e⟩
    · rintro ⟨u, e⟩
      rcases List.mem_cons.mp e with e | e
      · injection e with e1 e2
        exact .inl e1
      · exact .inr ⟨u, e⟩
/-- sorted of a set of fewer than 64 texts -/
theorem sorted_of_set {a : Addr} {D : SD} {l : List Str} {Q : Value → Shared → Prop} (ho : s.heap.get? a = some (sObj "set" D)) (F : SX P w D l) (calm : A.handled = none) (few : l.length < 64)
    (fin : ∀ s' p (out : Array Value) (c : Nat), (∀ b o, s.heap.get? b = some o → s'.heap.get? b = some o) → s'.gens = s.gens → s'.os = s.os → s.heap.objs.size ≤ p →
      s'.heap.get? p = some (seqObj "list" out c) → StrsAre out.toList (sortT l) → Q (.ref p) s') :
    wpAny (model P w) A (call (.builtin "sorted") [.ref a]) Q E s := by
  obtain ⟨es, ep, t⟩ := D
  have sz : es.size = l.length := F.ok.sz
  refine Calls.call_function_entry kind_sorted plain_sorted entry_sorted (args_sorted1 _) ?_
  unfold Builtin.«sorted»
  refine wpAny_bind (m := checkCount "sorted" 1 1 _) (wpAny_pure ?_)
  refine wpAny_bind (collect_set (A := A.in1) calm ⟨_, ho, rfl, rfl⟩ F.ok.fit (by rw [sz]; unfold scanBound; omega) F.od.1 F.od.2 fun s1 vs k1 hz g1 o1 pm => ?_)
  have vl : vs.length = l.length := by rw [pm.length_eq, List.length_map, Array.length_toList]; exact sz
  obtain ⟨ks, hS⟩ := strs_all (vs := vs) fun v hv => elems_strs F.ok.el v (pm.mem_iff.mp hv)
  have kl : ks.length = l.length := by rw [← StrsAre.len_eq hS]; exact vl
  have kp : ks.Perm l := by
    refine perm_of_len F.nd (fun x hx => ?_) (Nat.le_of_eq kl)
    obtain ⟨e, he, z⟩ := (F.ok.mem x).mp hx
    obtain ⟨t', ev⟩ := Value.isStrOf_shape (x := x) (v := e.2) z
    exact (mem_strs hS).mpr ⟨t', pm.mem_iff.mpr (List.mem_map.mpr ⟨e, he, ev⟩)⟩
  refine wpAny_bind (wpAny_newList ?_ (by rw [vl, sizeLine_eq]; omega))
  have oL : (s1.heap.push (seqObj "list" vs.toArray 0)).get? s1.heap.objs.size = some (seqObj "list" vs.toArray 0) := Heap.get?_push_size _ rfl
  refine wpAny_bind (wpAny_holding (wpAny_call_entry slot_list_sort ⟨_, oL, rfl⟩ entry_list_sort
    (list_sort_treeK strKind_oneLt oL hS.keysOf (fun v₁ v₂ rest e => keyKind_strs (by rw [← e]; exact hS)) (by rw [vl]; exact few) fun st' hp hs => ⟨_, rfl, ?_⟩) (args_list_sort _)))
  obtain ⟨ys, g2, g3, g4⟩ := sorted_out_str hS hp hs
  have ey : ys = sortT l := sortT_of (g3.trans kp) (sorted_leT g4)
  rw [ey] at g2
  obtain ⟨c, hc⟩ := sortedHeap_at (vs := vs) (out := (arrOf st').map (·.2)) oL
  refine wpAny_pure ⟨_, rfl, fin _ s1.heap.objs.size _ c (fun b u e => ?_) g1 o1 hz hc g2⟩
  have q := k1 b u e
  have lt := Heap.lt_size q
  show (sortedHeap (s1.heap.push (seqObj "list" vs.toArray 0)) s1.heap.objs.size vs _).get? b = some u
  rw [sortedHeap_old (Nat.ne_of_lt lt) (by rw [size_push']; exact Nat.lt_succ_of_lt lt)]
  exact Heap.get?_push_of_some _ q
end
/-- sorted(set(a)), a a list or a tuple of fewer than 64 texts -/
def rSortSet (K : PySem.W.Frag) : V → Hp → VK → Prop := fun x H Q => ∃ l, ∃ xs : List Str, x = .ref l ∧ (SqL K H l (xs.map V.str) ∨ SqT K H l (xs.map V.str)) ∧ xs.length < 64 ∧ ∀ p, H p = none → Q (.ref p) (upd H p (.lst ((ssetT xs).map V.str)))
def tSortSet (K : PySem.W.Frag) (ta : TE) : TE := fun σ H Q => ta σ H fun x H1 => rSortSet K x H1 Q
section
variable {X : Cx}
theorem pe_sortSet {a : Expr} {ta : TE} {p p2 q pos : Pos} (calm : X.calm = true) (hg : Gl X "sorted") (hm : X.mg "sorted" = none) (hg2 : Gl X "set") (hm2 : X.mg "set" = none) (ha : PE X a ta)
    (na : starEach [a] X.env = (false, eval a X.env) :: starEach [] X.env := by rfl) : PE X (.Call (.Name "sorted" p) [.Call (.Name "set" p2) [a] [] q] [] pos) (tSortSet X.K ta) := by
  have bs : bootBuiltins "set" = some (.type "set") := by decide +kernel
  have bo : bootBuiltins "sorted" = some (.builtin "sorted") := by decide +kernel
  refine ⟨fun pins s σ H Q I h => ?_⟩
  refine Call_ (ld_blt I hg hm bo ?_)
  refine PyProof.Rows.callWith_builtin1 (PyProof.Rows.args_cons ?_ rfl) rfl rfl
  refine Call_ (ld_blt I hg2 hm2 bs ?_)
  refine PyProof.Rows.callWith_type1 (PyProof.Rows.args_cons (thn (ha.run pins s σ H _ I h) fun v s1 ⟨x, H1, I1, r1, q1⟩ => PyProof.Rows.args_nil ?_) na) na rfl
  obtain ⟨l, xs, rfl, hq, few, q1⟩ := q1
  cases r1
  have fin : ∀ (h' : Heap) (tk : Nat) (D : SD) (m : List Str), SX X.prog X.w D m → (∀ x, x ∈ m ↔ x ∈ xs) → m.length ≤ xs.length → h'.get? s1.heap.objs.size = some (sObj "set" D) →
      (∀ b o, s1.heap.get? b = some o → h'.get? b = some o) →
      wpAny (model X.prog X.w) X.A (spliced (backTo pos (starEach [] X.env))) (fun vs s₂ => wpAny (model X.prog X.w) X.A (call (.builtin "sorted") (Value.ref s1.heap.objs.size :: vs)) (EP X pins σ Q) X.xe s₂) X.xe { s1 with heap := h', toks := tk } := fun h' tk D m F mem ml hS same => by
    refine PyProof.Rows.args_nil ?_
    have I2 : Inv X pins σ H1 { s1 with heap := h', toks := tk } := I1.kept same
    refine sorted_of_set (s := { s1 with heap := h', toks := tk }) hS F (I1.ok.hd calm) (by omega) fun s' p out c k g o hz hp hs => ?_
    have em : sortT m = ssetT xs := sortT_congr (perm_same F.nd nodup_onceL fun x => (mem x).trans mem_onceL.symm)
    rw [em] at hs
    have fresh : H1 p = none := I2.hok.fresh hz
    have len : ((ssetT xs).map V.str).length ≤ sizeLine := by
      have z : (ssetT xs).length = m.length := by rw [← em]; exact (sortT_perm m).length_eq
      rw [List.length_map, z, sizeLine_eq]
      omega
    have J : Inv X pins σ (upd H1 p (.lst ((ssetT xs).map V.str))) { ({ s1 with heap := h', toks := tk } : Shared) with heap := s'.heap, gens := s'.gens, drawn := s'.drawn, toks := s'.toks } :=
      I2.call (ch := []) (Un.laid k hz fresh) (I2.hok.laid k hz ⟨len, out.toList, c, vals_of_strs hs, hp⟩) (by rw [g]; exact I2.bare) (fun _ z => nomatch z)
    have e : s' = { ({ s1 with heap := h', toks := tk } : Shared) with heap := s'.heap, gens := s'.gens, drawn := s'.drawn, toks := s'.toks } := by
      cases s'
      cases s1
      cases o
      rfl
    rw [e]
    exact ⟨.ref p, _, J, rfl, q1 p fresh⟩
  rcases hq with hq | hq
  · obtain ⟨its, r, pl, hz⟩ := I1.list hq
    exact set_of_list xs (I1.ok.hd calm) pl.isList (by simpa using strsAre_of r) (by unfold scanBound; omega) fin
  · obtain ⟨its, r, pl, hz⟩ := I1.tuple hq
    exact set_of_tuple xs (I1.ok.hd calm) pl (by simpa using strsAre_of r) (by unfold scanBound; omega) fin
end
end L2
namespace L2
open PySem PySem.Spec PyProof.Rows Ml
section
variable {X : Cx}
theorem pe_sortSetK {a : Expr} {ta : TE} {p p2 q pos : Pos} (K : PySem.W.Frag) (calm : X.calm = true) (hg : Gl X "sorted") (hm : X.mg "sorted" = none) (hg2 : Gl X "set") (hm2 : X.mg "set" = none) (ha : PE X a ta) (hK : X.K = K := by rfl)
    (na : starEach [a] X.env = (false, eval a X.env) :: starEach [] X.env := by rfl) : PE X (.Call (.Name "sorted" p) [.Call (.Name "set" p2) [a] [] q] [] pos) (tSortSet K ta) := by
  subst hK
  exact pe_sortSet calm hg hm hg2 hm2 ha na
theorem sortedSK (K : PySem.W.Frag) (hK : X.K = K := by rfl) : CallR X (.builtin "sorted") (rSortedS K) := by subst hK; exact cr_sortedS
end
end L2
namespace Ml
open PySem PySem.Spec PyProof.Rows L2
variable {G : Gx} {σ : L2.St} {H : Hp} {L : List (Asn G)} {Q : VK} {te : TE} {D : Ends}
def sortSetK (K : PySem.W.Frag) (Q : VK) : VK := fun x H1 => rSortSet K x H1 Q
theorem c_sortSet {K : PySem.W.Frag} (h : te σ H (sortSetK K Q)) : tSortSet K te σ H Q := h
theorem k_sortSet {a : Addr} {xs : List Str} (hS : Sep H L) (hq : SqL G.K H a (xs.map (Fv.enc G)) ∨ SqT G.K H a (xs.map (Fv.enc G))) (few : xs.length < 64) (k : ∀ p H', Sep H' (lstA p (ssetT xs) :: L) → Q (.ref p) H') : sortSetK G.K Q (.ref a) H :=
  ⟨a, xs, rfl, hq, few, fun p hp => k p _ (hS.newL hp (imL_strs _))⟩
theorem imL_ofStr : ∀ {vs : List V} {ss : List Str}, imL (G := G) H vs (ss.map Any.str) → vs = ss.map V.str
  | [], [], _ => rfl
  | v :: vs, s :: ss, h => by rw [any_str.mp h.1, imL_ofStr h.2]; rfl
theorem strs_at {v : V} {x : Any} {ss : List Str} (h : Im.im G H v x) (e : x = .lst (ss.map Any.str) ∨ x = .tup (ss.map Any.str)) : ∃ a, v = .ref a ∧ (SqL G.K H a (ss.map (Fv.enc G)) ∨ SqT G.K H a (ss.map (Fv.enc G))) := by
  rcases e with e | e
  · subst e
    obtain ⟨a, vs, rfl, ⟨o, ho⟩, m⟩ := any_lsts.mp h
    rw [imL_ofStr m] at ho
    exact ⟨a, rfl, .inl (.inl (.inr ⟨o, ho⟩))⟩
  · subst e
    obtain ⟨a, vs, rfl, ho, m⟩ := any_tup.mp h
    rw [imL_ofStr m] at ho
    exact ⟨a, rfl, .inr (.inl (.inl ho))⟩
theorem k_sorted {a : Addr} {xs : List Str} (hS : Sep H L) (hq : SqL G.K H a (xs.map (Fv.enc G))) (few : xs.length < 64) (k : ∀ p H', Sep H' (lstA p (sortT xs) :: L) → Q (.ref p) H') : rSortedS G.K [.ref a] H Q :=
  ⟨a, xs, rfl, hq, few, fun ys p pm up hp => by rw [sortT_of pm (sorted_leT up)]; exact k p _ (hS.newL hp (imL_strs _))⟩
theorem imL.rev {α : Type} [Im G α] : ∀ {vs : List V} {xs : List α}, imL (G := G) H vs xs → imL (G := G) H vs.reverse xs.reverse
  | [], [], _ => True.intro
  | v :: vs, x :: xs, h => by
    rw [List.reverse_cons, List.reverse_cons]
    exact (imL.rev h.2).app (ws := [v]) (ys := [x]) ⟨h.1, True.intro⟩
theorem Sep.rdL {α : Type} [Im G α] {i : Nat} {a : Addr} {xs : List α} (hS : Sep H L) (e : L[i]? = some (lstA a xs)) : ∃ vs, Rd H a (.lst vs) ∧ imL (G := G) H vs xs := by
  obtain ⟨vs, h, m⟩ := hS.lst e
  exact ⟨vs, .inl h, m⟩
end Ml
namespace L2
open PySem PySem.Spec PyProof.Rows PySem.W
end L2
namespace Ml
open PySem PySem.Spec PyProof.Rows L2
variable {G : Gx} {σ : L2.St} {H H' : Hp} {L L' : List (Asn G)} {Q : VK} {te td ty : TE} {D : Ends}
structure Kt where
  l : List Str
  deriving DecidableEq
def Kt.ks (k : Kt) : List Key := k.l.map Sum.inr
theorem inr_inj : ∀ {xs ys : List Str}, xs.map (Sum.inr : Str → Key) = ys.map Sum.inr → xs = ys
  | [], [], _ => rfl
  | [], _ :: _, h => by cases h
  | _ :: _, [], h => by cases h
  | x :: xs, y :: ys, h => by
    simp only [List.map_cons, List.cons.injEq] at h
    rw [Sum.inr.inj h.1, inr_inj h.2]
theorem Kt.inj {a b : Kt} (h : a.ks = b.ks) : a = b := by
  obtain ⟨xs⟩ := a
  obtain ⟨ys⟩ := b
  have : xs = ys := inr_inj h
  rw [this]
instance imKt : Im G Kt := ⟨fun H v x => ∃ a, v = .ref a ∧ H a = some (.tup (x.l.map V.str)), fun ⟨a, e, h⟩ s => ⟨a, e, s.1 a _ h rfl⟩⟩
instance : IsRef G Kt := ⟨fun h => by obtain ⟨a, e, _⟩ := h; exact ⟨a, e⟩⟩
instance : Lay Kt := ⟨fun x => layAllB x.l⟩
theorem dpStrs {K : PySem.W.Frag} : ∀ xs : List Str, DpAll K H (xs.map V.str) (xs.map PyData.str)
  | [] => .nil
  | x :: r => .cons (.str x) (dpStrs r)
theorem depStrs : ∀ xs : List Str, PyData.depthAll (xs.map PyData.str) = 0
  | [] => rfl
  | x :: r => by
    show max (PyData.depth (.str x)) (PyData.depthAll (r.map PyData.str)) = 0
    rw [depStrs r]; rfl
def pdKt (k : Kt) : PyData := .tuple (k.l.map PyData.str)
theorem canStrs : ∀ xs : List Str, layAllB xs = true → PyData.canLayAll0 (xs.map PyData.str) = true
  | [], _ => rfl
  | x :: r, h => by
    have h : (Lay.lay x && layAllB r) = true := h
    rw [Bool.and_eq_true] at h
    show ((PyData.str x).canLay0 && PyData.canLayAll0 (r.map PyData.str)) = true
    rw [canStrs r h.2, show (PyData.str x).canLay0 = true from h.1]; rfl
theorem eqvStrs : ∀ xs ys : List Str, PyData.eqvAll (xs.map PyData.str) (ys.map PyData.str) = decide (xs = ys)
  | [], [] => rfl
  | [], _ :: _ => rfl
  | _ :: _, [] => rfl
  | x :: xs, y :: ys => by
    show (PyData.eqv (.str x) (.str y) && PyData.eqvAll (xs.map PyData.str) (ys.map PyData.str)) = _
    rw [eqvStrs xs ys, show PyData.eqv (.str x) (.str y) = decide (x = y) from str_beq x y]
    simp
instance pdKtI : Pd G Kt where
  pd := pdKt
  dep := 1
  dp := fun {H v x} h => by
    obtain ⟨a, rfl, g⟩ := h
    exact .tup (SqT.of g) (dpStrs x.l)
  lay_ok := fun x h => canStrs x.l h
  dep_ok := fun x => by
    show PyData.depthAll (x.l.map PyData.str) + 1 ≤ 1
    rw [depStrs]
    exact Nat.le_refl _
  eqv := fun x y => by
    show PyData.eqvAll (x.l.map PyData.str) (y.l.map PyData.str) = _
    rw [eqvStrs]
    obtain ⟨a⟩ := x; obtain ⟨b⟩ := y
    simp
end Ml
namespace Ml
open PySem PySem.Spec PyProof.Rows L2
variable {G : Gx}
section
variable {β : Type} [Im G β]
def imDT (H : Hp) : List (List Key × V) → List (Kt × β) → Prop
  | [], [] => True
  | p :: ps, q :: qs => (p.1 = q.1.ks ∧ Im.im G H p.2 q.2 ∧ ∃ b, H b = some (.tup (q.1.ks.map kV))) ∧ imDT H ps qs
  | _, _ => False
variable {H H' : Hp}
theorem imDT.st : ∀ {ps : List (List Key × V)} {qs : List (Kt × β)}, imDT (G := G) H ps qs → Stab G H H' → imDT (G := G) H' ps qs
  | [], [], _, _ => True.intro
  | _ :: _, _ :: _, h, s => ⟨⟨h.1.1, Im.st h.1.2.1 s, by obtain ⟨b, e⟩ := h.1.2.2; exact ⟨b, s.1 b _ e rfl⟩⟩, imDT.st h.2 s⟩
  | [], _ :: _, h, _ => h
  | _ :: _, [], h, _ => h
theorem imDT.len : ∀ {ps : List (List Key × V)} {qs : List (Kt × β)}, imDT (G := G) H ps qs → ps.length = qs.length
  | [], [], _ => rfl
  | _ :: _, _ :: _, h => by rw [List.length_cons, List.length_cons, imDT.len h.2]
  | [], _ :: _, h => h.elim
  | _ :: _, [], h => h.elim
theorem kt_dec (a b : Kt) : decide (a.ks = b.ks) = decide (a = b) := by
  by_cases h : a = b
  · subst h; simp
  · have : ¬ a.ks = b.ks := fun e => h (Kt.inj e)
    simp [h, this]
theorem imDT.val : ∀ {ps : List (List Key × V)} {qs : List (Kt × β)} (k : Kt), imDT (G := G) H ps qs → (∀ y, dget qs k = some y → ∃ v, valV ps k.ks = some v ∧ Im.im G H v y) ∧ (dget qs k = none → valV ps k.ks = none)
  | [], [], _, _ => ⟨fun y e => (by cases (show (none : Option β) = some y from e)), fun _ => rfl⟩
  | p :: ps, q :: qs, k, ⟨⟨e1, e2, _⟩, h⟩ => by
    have ih := imDT.val k h
    by_cases c : q.1 = k
    · have c1 : p.1 = k.ks := by rw [e1, c]
      have d : dget (q :: qs) k = some q.2 := by simp [dget, List.find?_cons, c]
      rw [d, valV_pos c1]
      exact ⟨fun y e => ⟨p.2, rfl, by cases e; exact e2⟩, fun e => by cases e⟩
    · have c1 : ¬ p.1 = k.ks := fun z => c (Kt.inj (e1.symm.trans z))
      have d : dget (q :: qs) k = dget qs k := by simp [dget, List.find?_cons, c]
      rw [d, valV_neg c1]
      exact ih
  | [], _ :: _, _, h => h.elim
  | _ :: _, [], _, h => h.elim
theorem imDT.any : ∀ {ps : List (List Key × V)} {qs : List (Kt × β)} (k : Kt), imDT (G := G) H ps qs → (ps.any fun kv => decide (kv.1 = k.ks)) = qs.any fun kv => decide (kv.1 = k)
  | [], [], _, _ => rfl
  | p :: ps, q :: qs, k, ⟨⟨e1, _⟩, h⟩ => by
    rw [List.any_cons, List.any_cons, imDT.any k h, e1, kt_dec]
  | [], _ :: _, _, h => h.elim
  | _ :: _, [], _, h => h.elim
theorem imDT.app : ∀ {ps rs : List (List Key × V)} {qs ts : List (Kt × β)}, imDT (G := G) H ps qs → imDT (G := G) H rs ts → imDT (G := G) H (ps ++ rs) (qs ++ ts)
  | [], _, [], _, _, h => h
  | _ :: _, _, _ :: _, _, h, k => ⟨h.1, imDT.app h.2 k⟩
  | [], _, _ :: _, _, h, _ => h.elim
  | _ :: _, _, [], _, h, _ => h.elim
theorem imDT.rep : ∀ {ps : List (List Key × V)} {qs : List (Kt × β)} {k : Kt} {v : V} {y : β}, imDT (G := G) H ps qs → Im.im G H v y →
    imDT (G := G) H (ps.map fun kv => if kv.1 = k.ks then (kv.1, v) else kv) (qs.map fun kv => if kv.1 = k then (kv.1, y) else kv)
  | [], [], _, _, _, _, _ => True.intro
  | p :: ps, q :: qs, k, v, y, ⟨⟨e1, e2, e3⟩, h⟩, hv => by
    refine ⟨?_, imDT.rep h hv⟩
    dsimp only
    by_cases c : q.1 = k
    · have c1 : p.1 = k.ks := by rw [e1, c]
      rw [if_pos c, if_pos c1]; exact ⟨e1, hv, e3⟩
    · have c1 : ¬ p.1 = k.ks := fun z => c (Kt.inj (e1.symm.trans z))
      rw [if_neg c, if_neg c1]; exact ⟨e1, e2, e3⟩
  | [], _ :: _, _, _, _, h, _ => h.elim
  | _ :: _, [], _, _, _, h, _ => h.elim
theorem imDT.put {ps : List (List Key × V)} {qs : List (Kt × β)} {k : Kt} {v : V} {y : β} (h : imDT (G := G) H ps qs) (hv : Im.im G H v y) (hb : ∃ b, H b = some (.tup (k.ks.map kV))) : imDT (G := G) H (putK ps k.ks v) (dput qs k y) := by
  unfold putK dput
  rw [h.any k]
  split
  · exact h.rep hv
  · exact h.app (rs := [(k.ks, v)]) (ts := [(k, y)]) ⟨⟨rfl, hv, hb⟩, True.intro⟩
theorem imDT.at : ∀ {ps : List (List Key × V)} {qs : List (Kt × β)} {j : Nat} {k : List Key} {v : V} {x : Kt}, imDT (G := G) H ps qs → ps[j]? = some (k, v) → (qs.map (·.1))[j]? = some x → k = x.ks
  | p :: _, q :: _, 0, k, v, x, h, e1, e2 => by
    have e1 : p = (k, v) := by simpa using e1
    have e2 : q.1 = x := by simpa using e2
    have := h.1.1
    rw [e1, e2] at this
    exact this
  | _ :: ps, _ :: qs, j + 1, k, v, x, h, e1, e2 => imDT.at (ps := ps) (qs := qs) (j := j) h.2 (by simpa using e1) (by simpa using e2)
  | [], _, _, _, _, _, _, e1, _ => by simp at e1
  | _ :: _, [], _, _, _, _, h, _, _ => h.elim
variable {L L' : List (Asn G)} {σ : L2.St} {Q : VK} {te td ty tx : TE} {k : Kt} {a b : Addr} {xs : List (Kt × β)} {i : Nat}
def dgetK2 (x : V) (Q : VK) : VK := fun y H2 => ∃ a v, x = .ref a ∧ DGet H2 a y (some v) ∧ Q v H2
def dgetK (ty : TE) (σ : L2.St) (Q : VK) : VK := fun x H1 => ty σ H1 (dgetK2 x Q)
theorem c_dget (h : td σ H (dgetK ty σ Q)) : tDGet td ty σ H Q := h
theorem k_dget1 {x : V} (h : ty σ H (dgetK2 x Q)) : dgetK ty σ Q x H := h
end
end Ml
namespace Ml
open PySem PySem.Spec PyProof.Rows L2
end Ml
namespace L2
open PySem PySem.Spec PyProof.Rows
end L2
namespace Ml
open PySem PySem.Spec PyProof.Rows L2
variable {G : Gx}
section
variable {κ β : Type} [Kx κ] [DecidableEq κ] {H : Hp} {M L : List (Asn G)} {σ : L2.St} {Q : VK} {td ty : TE} {k : κ} {a : Addr} {kvs : List (κ × β)} {E : Addr → β → Asn G}
theorem dget_idx {κ β : Type} [DecidableEq κ] {k : κ} {kvs : List (κ × β)} {y : β} (h : dget kvs k = some y) : ∃ j : Nat, kvs[j]? = some (k, y) := by
  unfold dget at h
  obtain ⟨p, hp, e⟩ := Option.map_eq_some_iff.mp h
  have h1 := List.find?_some hp
  have h1 : p.1 = k := of_decide_eq_true h1
  obtain ⟨j, hj⟩ := List.getElem?_of_mem (List.mem_of_find?_eq_some hp)
  refine ⟨j, ?_⟩
  rw [hj, ← h1, ← e]
/-- the cell of a dict of own things -/
theorem cellE (h : Sep H (dictE E a kvs :: M)) : ∃ ps : List Addr, (ps.length = kvs.length ∧ (kvs.map (·.1)).Nodup) ∧ H a = some (.dK (refsD kvs ps)) ∧ Sep H ((cell a (.dK (refsD kvs ps)) :: elemsE E (ps.zip (kvs.map (·.2)))) ++ M) := by
  obtain ⟨ps, h⟩ := Sep.ex h
  obtain ⟨hl, h⟩ := Sep.and h
  have h := Sep.star1 h
  exact ⟨ps, hl, h.getCell (i := 0) rfl, h⟩
def setE (kvs : List (κ × β)) (k : κ) (z : β) : List (κ × β) := if dhas kvs k = true then kvs else kvs ++ [(k, z)]
theorem dhas_no {κ β : Type} [DecidableEq κ] {k : κ} {kvs : List (κ × β)} (h : dget kvs k = none) : ¬ k ∈ kvs.map (·.1) := fun m => by
  obtain ⟨p, hp, e⟩ := List.mem_map.mp m
  unfold dget at h
  have h := Option.map_eq_none_iff.mp h
  have := List.find?_eq_none.mp h p hp
  exact this (decide_eq_true e)
end
end Ml
namespace L2
open PySem PySem.Spec PyProof.Rows
def Dsp (P : Program) (w : World) (K : PySem.W.Frag) (mg : Str → Option Value) (base : Heap) (CX : CXT) (k : Nat) (fam : Nat → Bool) (cl : Nat → Addr) (m : Str) (ps : List Str) (sp : Nat → Sp) : Prop :=
  ∀ i, fam i = true → ∃ f fd, Cls K (cl i) ∧ Meth K (cl i) m f ∧ Binds K fd ps [] ∧ FnOk P w K mg base CX k f fd ps (sp i)
theorem Dsp.mono {P : Program} {w : World} {K : PySem.W.Frag} {mg : Str → Option Value} {base : Heap} {CX : CXT} {j k : Nat} {fam : Nat → Bool} {cl : Nat → Addr} {m : Str} {ps : List Str} {sp : Nat → Sp} (D : Dsp P w K mg base CX j fam cl m ps sp) (h : j ≤ k) : Dsp P w K mg base CX k fam cl m ps sp := fun i hi => by
  obtain ⟨f, fd, a, b, c, F⟩ := D i hi
  exact ⟨f, fd, a, b, c, F.mono h⟩
end L2
namespace L2
open PySem PySem.Spec PyProof.Rows
end L2
namespace Ml
open PySem PySem.Spec PyProof.Rows L2
end Ml
namespace Ml
open PySem PySem.Spec PyProof.Rows L2
variable {G : Gx} {σ : L2.St} {H : Hp} {L L' : List (Asn G)} {Q : VK} {te : TE} {D : Ends}
theorem R.wp_ifY {α : Type} {c : Prop} [Decidable c] {a b : R α} {q : α → Prop} {e : Exc → Prop} (h : R.wp (if c then a else b) q e) (x : c) : R.wp a q e := (R.wp_if h).1 x
theorem R.wp_ifN {α : Type} {c : Prop} [Decidable c] {a b : R α} {q : α → Prop} {e : Exc → Prop} (h : R.wp (if c then a else b) q e) (x : ¬ c) : R.wp b q e := (R.wp_if h).2 x
end Ml
namespace Ml
open PySem PySem.Spec PyProof.Rows L2
end Ml
namespace Ml
open PySem PySem.Spec PyProof.Rows L2
end Ml
namespace Ml
open PySem L2
end Ml
namespace Ml
open PySem PySem.Spec PyProof.Rows L2
end Ml
namespace L2
open PySem PySem.Spec PyProof.Rows
end L2
namespace Ml
open PySem PySem.Spec PyProof.Rows L2
end Ml
namespace Ml
open PySem L2
section
variable {G : Gx} {H : Hp} {σ σ' : L2.St} {tt : TT} {te : TE} {vs : List Nat} {Q : VK} {α β τ ρ : Type} {g : TG}
/-- a comprehension over any target -/
theorem lc_sepG [Im G β] {J : It} {im : Hp → V → α → Prop} {xs : List α} {f : τ → α → R (τ × Option β)} {rest : τ × List β → R ρ} {q : ρ → Prop} {e : Exc → Prop} {s : τ} (M : τ → List (Asn G))
    (hS : Sep H (M s)) (w : ∀ (Dr : Addr) (s : τ) (ys : List β), Wk J (fun (_ : St) H => Sep H (lstA Dr ys :: M s)) im xs) (hl : xs.length ≤ sizeLine) (hm : R.wp ((compR f xs s).bind rest) q e)
    (turn : ∀ (Dr : Addr) (s : τ) (ys : List β) (x : α) (v : V) (H : Hp) (q : τ × Option β → Prop) (Nx : Hp → Prop), Sep H (lstA Dr ys :: M s) → im H v x → R.wp (f s x) q e →
      (∀ s' y u H', q (s', some y) → Im.im G H' u y → Sep H' (lstA Dr ys :: M s') → ∃ acc, H' Dr = some (.lst acc) ∧ acc.length < sizeLine ∧ Nx (upd H' Dr (.lst (acc ++ [u])))) → (∀ s' H', q (s', none) → Sep H' (lstA Dr ys :: M s') → Nx H') →
      g v (wipe σ vs) H fun σ2 H2 => wipe σ2 vs = wipe σ vs ∧ tt σ2 H2 fun b H3 => if b = true then te σ2 H3 fun y H4 => ∃ acc, H4 Dr = some (.lst acc) ∧ acc.length < sizeLine ∧ Nx (upd H4 Dr (.lst (acc ++ [y]))) else Nx H3)
    (done : ∀ (Dr : Addr) (t : τ × List β) H, R.wp (rest t) q e → Sep H (lstA Dr t.2 :: M t.1) → Q (.ref Dr) H) :
    lcK g tt te vs σ Q J H := fun Dr hD =>
  lc_walk (G := G) (I := fun Dr s ys H => Sep H (lstA Dr ys :: M s)) (im := im) (xs := xs) (f := f) (k := fun t => R.wp (rest t) q e) (e := e) (s := s) (w Dr)
    (hS.newL (vs := []) (xs := ([] : List β)) hD True.intro) (R.wp_bind hm) hl
    (fun s ys x v H q Nx hI hv hw _ k1 k2 => turn Dr s ys x v H q Nx hI hv hw k1 k2)
    (fun s ys y u H hI hu => lc_app hI hu)
    (fun s ys H hk hI => done Dr (s, ys) H hk hI)
theorem c_gLT {P : Bool → Hp → Prop} (hw : wipe σ' vs = wipe σ vs) (h : tt σ' H P) : wipe σ' vs = wipe σ vs ∧ tt σ' H P := ⟨hw, h⟩
end
end Ml
namespace L2
open PySem PySem.Spec PyProof.Rows
end L2
namespace Ml
open PySem L2
end Ml
namespace L2
open PySem PySem.Spec PyProof.Rows
end L2
namespace Ml
open PySem L2
end Ml
namespace Ml
open PySem L2
end Ml
namespace L2
open PySem PySem.Spec PyProof.Rows
end L2
namespace Ml
open PySem L2
end Ml
namespace Ml
open PySem L2
variable {σ : L2.St} {H : Hp} {ta : TE}
theorem ev_isNn (ha : Ev ta σ H .non) : Ev (tIsN ta) σ H (.bl true) := fun Q q => ha _ q
end Ml
namespace Ml
open PySem PySem.Spec PyProof.Rows L2
end Ml
namespace Ml
open PySem PySem.Spec PyProof.Rows L2
/-- a tuple, its values told -/
structure TupV where
  vs : List V
section
variable {G : Gx} {α β : Type} {H : Hp} {L M : List (Asn G)} {Q : VK} {p : Addr}
instance imTupV : Im G TupV := ⟨fun H v x => ∃ a, v = .ref a ∧ H a = some (.tup x.vs), fun ⟨a, e, h⟩ s => ⟨a, e, s.1 a _ h rfl⟩⟩
variable [Im G α] [Im G β]
end
end Ml
namespace Ml
open PySem PySem.Spec PyProof.Rows L2
end Ml
namespace Ml
open PySem L2
end Ml
namespace Ml
open PySem PySem.Spec PyProof.Rows L2
variable {G : Gx}
section
variable {κ β : Type} [DecidableEq κ] [Kx κ] [Im G β] {H : Hp} {L L' : List (Asn G)} {σ : L2.St} {Q : VK} {te td ty tx : TE} {k : κ} {a : Addr} {xs : List (κ × β)} {i : Nat}
def get2K (ty tx : TE) (σ : L2.St) (Q : VK) : VK := fun x H1 => ∃ a, x = .ref a ∧ IsD H1 a ∧ ty σ H1 fun y H2 => tx σ H2 fun z H3 => ∃ o, DGet H3 a y o ∧ Q (o.getD z) H3
def get2K2 (a : Addr) (tx : TE) (σ : L2.St) (Q : VK) : VK := fun y H2 => tx σ H2 fun z H3 => ∃ o, DGet H3 a y o ∧ Q (o.getD z) H3
def get2K3 (a : Addr) (y : V) (Q : VK) : VK := fun z H3 => ∃ o, DGet H3 a y o ∧ Q (o.getD z) H3
theorem c_dget2 (h : td σ H (get2K ty tx σ Q)) : tDGet2 td ty tx σ H Q := h
theorem k_get2a (d : IsD H a) (h : ty σ H (get2K2 a tx σ Q)) : get2K ty tx σ Q (.ref a) H := ⟨a, rfl, d, h⟩
theorem k_get2b {y : V} (h : tx σ H (get2K3 a y Q)) : get2K2 a tx σ Q y H := h
def pop1K (ty : TE) (σ : L2.St) (Q : VK) : VK := fun x H1 => ∃ a, x = .ref a ∧ IsD H1 a ∧ ty σ H1 fun y H2 => ∃ kvs k v, H2 a = some (.dK kvs) ∧ y = kV k ∧ valV kvs k = some v ∧ Q v (upd H2 a (.dK (dropK kvs k)))
def pop1K2 (a : Addr) (Q : VK) : VK := fun y H2 => ∃ kvs k v, H2 a = some (.dK kvs) ∧ y = kV k ∧ valV kvs k = some v ∧ Q v (upd H2 a (.dK (dropK kvs k)))
theorem c_dpop1 (h : td σ H (pop1K ty σ Q)) : tDPop1 td ty σ H Q := h
theorem k_pop1a (d : IsD H a) (h : ty σ H (pop1K2 a Q)) : pop1K ty σ Q (.ref a) H := ⟨a, rfl, d, h⟩
theorem k_pop1A {y : β} (hS : Sep H L) (e : L[i]? = some (dictA a xs)) (h : dget xs k = some y) (e2 : L.set i (dictA a (ddrop xs k)) = L') (q : ∀ v H', Sep H' (imA v y :: L') → Q v H') : pop1K2 a Q (kV (Kx.key k)) H := by
  obtain ⟨ps, hp, m⟩ := hS.dict e
  obtain ⟨v, hv, hm⟩ := (m.val k).1 y h
  refine ⟨ps, Kx.key k, v, hp, rfl, hv, q v _ ?_⟩
  subst e2
  have h1 := (hS.addIm hm).putD (i := i + 1) (a := a) (xs := xs) (ys := ddrop xs k) (ps := dropK ps (Kx.key k)) (by simpa using e) (m.drop k)
  simpa using h1
theorem ddrop_no (h : dget xs k = none) : ddrop xs k = xs := by
  unfold dget at h
  unfold ddrop
  refine List.filter_eq_self.mpr fun p hp => ?_
  rw [Option.map_eq_none_iff] at h
  have := List.find?_eq_none.mp h p hp
  simpa using this
def setdK (ty tx : TE) (σ : L2.St) (Q : VK) : VK := fun x H1 => ∃ a, x = .ref a ∧ IsD H1 a ∧ ty σ H1 fun y H2 => tx σ H2 fun z H3 => ∃ (kvs : List (Key × V)) (k : Key), H3 a = some (.dK kvs) ∧ y = kV k ∧ kvs.length < sizeLine ∧
  (∀ v, valV kvs k = some v → Q v H3) ∧ (valV kvs k = none → Q z (upd H3 a (.dK (putK kvs k z))))
def setdK2 (a : Addr) (tx : TE) (σ : L2.St) (Q : VK) : VK := fun y H2 => tx σ H2 fun z H3 => ∃ (kvs : List (Key × V)) (k : Key), H3 a = some (.dK kvs) ∧ y = kV k ∧ kvs.length < sizeLine ∧
  (∀ v, valV kvs k = some v → Q v H3) ∧ (valV kvs k = none → Q z (upd H3 a (.dK (putK kvs k z))))
def setdK3 (a : Addr) (y : V) (Q : VK) : VK := fun z H3 => ∃ (kvs : List (Key × V)) (k : Key), H3 a = some (.dK kvs) ∧ y = kV k ∧ kvs.length < sizeLine ∧
  (∀ v, valV kvs k = some v → Q v H3) ∧ (valV kvs k = none → Q z (upd H3 a (.dK (putK kvs k z))))
theorem c_dsetd (h : td σ H (setdK ty tx σ Q)) : tDSetd td ty tx σ H Q := h
theorem k_setda (d : IsD H a) (h : ty σ H (setdK2 a tx σ Q)) : setdK ty tx σ Q (.ref a) H := ⟨a, rfl, d, h⟩
theorem k_setdb {y : V} (h : tx σ H (setdK3 a y Q)) : setdK2 a tx σ Q y H := h
end
section
variable {κ β : Type} [DecidableEq κ] [Kx κ] {H : Hp} {M : List (Asn G)} {σ : L2.St} {Q : VK} {te td ty tx : TE} {k : κ} {a : Addr} {kvs : List (κ × β)} {E : Addr → β → Asn G}
/-- the dict's own cell (locked or not), and all it holds -/
def dictX (u : HO → HO) (E : Addr → β → Asn G) (a : Addr) (ps : List Addr) (kvs : List (κ × β)) : Asn G := star (cell a (u (.dK (refsD kvs ps))) :: elemsE E (ps.zip (kvs.map (·.2))))
def dictXH (u : HO → HO) (E : Addr → β → Asn G) (a : Addr) (ps : List Addr) (kvs : List (κ × β)) (j : Nat) : Asn G := star (cell a (u (.dK (refsD kvs ps))) :: elemsE E ((ps.zip (kvs.map (·.2))).eraseIdx j))
theorem refs_get {ps : List Addr} {j : Nat} {y : β} (hl : ps.length = kvs.length) (hn : (kvs.map (·.1)).Nodup) (hj : kvs[j]? = some (k, y)) : ∃ p, ps[j]? = some p ∧ valV (refsD kvs ps) (Kx.key k) = some (.ref p) := by
  have hlt : j < kvs.length := (List.getElem?_eq_some_iff.mp hj).1
  have hp : ps[j]? = some ps[j] := List.getElem?_eq_getElem (by omega)
  exact ⟨ps[j], hp, refs_val hl hn hj hp⟩
theorem refs_none {ps : List Addr} (hl : ps.length = kvs.length) (h : dget kvs k = none) : valV (refsD kvs ps) (Kx.key k) = none := by
  induction kvs generalizing ps with
  | nil => cases ps <;> rfl
  | cons kv r ih =>
    cases ps with
    | nil => rfl
    | cons p ps =>
      have hk : ¬ kv.1 = k := fun e => by
        unfold dget at h
        rw [List.find?_cons_of_pos (by simpa using e)] at h
        cases h
      have h2 : dget r k = none := by
        unfold dget at h ⊢
        rw [List.find?_cons_of_neg (by simpa using hk)] at h
        exact h
      have hk2 : ¬ Kx.key kv.1 = Kx.key k := fun e => hk (Kx.inj e)
      show valV ((Kx.key kv.1, V.ref p) :: refsD r ps) (Kx.key k) = none
      rw [valV_neg hk2]
      exact ih (by simpa using hl) h2
theorem dictE_X (h : Sep H (dictE E a kvs :: M)) : ∃ ps, (ps.length = kvs.length ∧ (kvs.map (·.1)).Nodup) ∧ Sep H (dictX id E a ps kvs :: M) := by
  obtain ⟨ps, h⟩ := Sep.ex h
  obtain ⟨hl, h⟩ := Sep.and h
  exact ⟨ps, hl, h⟩
theorem dictX_E {ps : List Addr} (hl : ps.length = kvs.length ∧ (kvs.map (·.1)).Nodup) (h : Sep H (dictX id E a ps kvs :: M)) : Sep H (dictE E a kvs :: M) := Sep.exI ps (Sep.andI hl h)
theorem dictX_cell {u : HO → HO} {ps : List Addr} (h : Sep H (dictX u E a ps kvs :: M)) : H a = some (u (.dK (refsD kvs ps))) := (Sep.star1 h).getCell (i := 0) rfl
theorem dictE_cell (h : Sep H (dictE E a kvs :: M)) : ∃ ps, (ps.length = kvs.length ∧ (kvs.map (·.1)).Nodup) ∧ H a = some (.dK (refsD kvs ps)) := by
  obtain ⟨ps, hl, h⟩ := dictE_X h
  exact ⟨ps, hl, dictX_cell h⟩
theorem isD_E (h : Sep H (dictE E a kvs :: M)) : IsD H a := by
  obtain ⟨ps, _, hc⟩ := dictE_cell h
  exact .inl ⟨_, .inl hc⟩
theorem outX {u : HO → HO} {ps : List Addr} {j : Nat} {y : β} {p : Addr} (h : Sep H (dictX u E a ps kvs :: M)) (hj : kvs[j]? = some (k, y)) (hp : ps[j]? = some p) : Sep H (E p y :: dictXH u E a ps kvs j :: M) := by
  have h := Sep.star1 h
  have hz : (ps.zip (kvs.map (·.2)))[j]? = some (p, y) := by
    rw [List.getElem?_zip_eq_some]; exact ⟨hp, by rw [List.getElem?_map, hj]; rfl⟩
  have hz2 : (elemsE E (ps.zip (kvs.map (·.2))))[j]? = some (E p y) := by unfold elemsE; rw [List.getElem?_map, hz]; rfl
  have e : (elemsE E (ps.zip (kvs.map (·.2)))).eraseIdx j = elemsE E ((ps.zip (kvs.map (·.2))).eraseIdx j) := by unfold elemsE; rw [erase_map]
  have P := perm_out hz2
  rw [e] at P
  have h2 : Sep H (E p y :: ((cell a (u (.dK (refsD kvs ps))) :: elemsE E ((ps.zip (kvs.map (·.2))).eraseIdx j)) ++ M)) := by
    refine h.perm ?_
    have := (P.symm.cons (cell (G := G) a (u (.dK (refsD kvs ps))))).append_right M
    exact this.trans (by exact List.Perm.swap _ _ _)
  have h3 : Sep H ((cell a (u (.dK (refsD kvs ps))) :: elemsE E ((ps.zip (kvs.map (·.2))).eraseIdx j)) ++ (E p y :: M)) := h2.perm (List.perm_middle.symm)
  exact (Sep.unstar1 h3).perm (List.Perm.swap _ _ _)
theorem set_keys {j : Nat} {y z : β} (hj : kvs[j]? = some (k, y)) : (kvs.set j (k, z)).map (·.1) = kvs.map (·.1) := by
  have hlt : j < kvs.length := (List.getElem?_eq_some_iff.mp hj).1
  have hget : kvs[j] = (k, y) := by rw [List.getElem?_eq_getElem hlt] at hj; exact Option.some.inj hj
  rw [List.map_set]
  have : (kvs.map (·.1))[j]'(by simpa using hlt) = k := by rw [List.getElem_map, hget]
  rw [← this]
  exact List.set_getElem_self _
theorem refs_same : ∀ {l l' : List (κ × β)} {qs : List Addr}, l.map (·.1) = l'.map (·.1) → refsD l qs = refsD l' qs
  | [], [], _, _ => rfl
  | x :: l, y :: l', [], _ => rfl
  | x :: l, y :: l', q :: qs, h => by
    rw [List.map_cons, List.map_cons] at h
    injection h with h1 h2
    show (Kx.key x.1, V.ref q) :: refsD l qs = (Kx.key y.1, V.ref q) :: refsD l' qs
    rw [h1, refs_same h2]
  | [], _ :: _, _, h => by simp at h
  | _ :: _, [], _, h => by simp at h
theorem inX {u : HO → HO} {ps : List Addr} {j : Nat} {y z : β} {p : Addr} (hl : ps.length = kvs.length ∧ (kvs.map (·.1)).Nodup) (hj : kvs[j]? = some (k, y)) (hp : ps[j]? = some p) (h : Sep H (E p z :: dictXH u E a ps kvs j :: M)) : Sep H (dictX u E a ps (dput kvs k z) :: M) := by
  rw [put_at hl.2 hj]
  have hlt : j < kvs.length := (List.getElem?_eq_some_iff.mp hj).1
  have er : refsD (kvs.set j (k, z)) ps = refsD kvs ps := refs_same (set_keys hj)
  have ez : (kvs.set j (k, z)).map (·.2) = (kvs.map (·.2)).set j z := by rw [List.map_set]
  have h2 : Sep H (dictXH u E a ps kvs j :: (E p z :: M)) := h.perm (List.Perm.swap _ _ _)
  have h3 := Sep.star1 h2
  have hz : (ps.zip ((kvs.set j (k, z)).map (·.2)))[j]? = some (p, z) := by
    rw [ez, List.getElem?_zip_eq_some]
    exact ⟨hp, by rw [List.getElem?_set_self (by simpa using hlt)]⟩
  have hz2 : (elemsE E (ps.zip ((kvs.set j (k, z)).map (·.2))))[j]? = some (E p z) := by unfold elemsE; rw [List.getElem?_map, hz]; rfl
  have e : (elemsE E (ps.zip ((kvs.set j (k, z)).map (·.2)))).eraseIdx j = elemsE E ((ps.zip (kvs.map (·.2))).eraseIdx j) := by
    unfold elemsE
    rw [erase_map, ez, zip_hole (by rw [List.length_map]; exact hl.1)]
  have P := perm_out hz2
  rw [e] at P
  unfold dictX
  rw [er]
  refine Sep.unstar1 (h3.perm ?_)
  have q1 : ((cell a (u (.dK (refsD kvs ps))) :: elemsE E ((ps.zip (kvs.map (·.2))).eraseIdx j)) ++ (E p z :: M)).Perm (E p z :: ((cell a (u (.dK (refsD kvs ps))) :: elemsE E ((ps.zip (kvs.map (·.2))).eraseIdx j)) ++ M)) := List.perm_middle
  refine q1.trans ?_
  have := (P.cons (cell (G := G) a (u (.dK (refsD kvs ps))))).append_right M
  exact (List.Perm.swap _ _ _).trans this
theorem keys_put {j : Nat} {y z : β} (hn : (kvs.map (·.1)).Nodup) (hj : kvs[j]? = some (k, y)) : (dput kvs k z).map (·.1) = kvs.map (·.1) := by rw [put_at hn hj, set_keys hj]
/-- d[k], an own thing: taken out -/
theorem k_dgetE (h : Sep H (dictE E a kvs :: M)) {y : β} (hk : dget kvs k = some y) (q : ∀ ps p j, (ps.length = kvs.length ∧ (kvs.map (·.1)).Nodup) → kvs[j]? = some (k, y) → ps[j]? = some p → Sep H (E p y :: dictXH id E a ps kvs j :: M) → Q (.ref p) H) : dgetK2 (.ref a) Q (kV (Kx.key k)) H := by
  obtain ⟨ps, hl, h⟩ := dictE_X h
  obtain ⟨j, hj⟩ := dget_idx hk
  obtain ⟨p, hp, e⟩ := refs_get hl.1 hl.2 hj
  exact ⟨a, .ref p, rfl, .inl ⟨_, Kx.key k, .inl (dictX_cell h), rfl, e.symm⟩, q ps p j hl hj hp (outX h hj hp)⟩
theorem unfocDE {ps : List Addr} {j : Nat} {y z : β} {p : Addr} (hl : ps.length = kvs.length ∧ (kvs.map (·.1)).Nodup) (hj : kvs[j]? = some (k, y)) (hp : ps[j]? = some p) (h : Sep H (E p z :: dictXH id E a ps kvs j :: M)) : Sep H (dictE E a (dput kvs k z) :: M) :=
  dictX_E ⟨by rw [hl.1, ← List.length_map (·.1), ← keys_put (z := z) hl.2 hj, List.length_map], by rw [keys_put hl.2 hj]; exact hl.2⟩ (inX hl hj hp h)
theorem put_same {j : Nat} {y : β} (hn : (kvs.map (·.1)).Nodup) (hj : kvs[j]? = some (k, y)) : dput kvs k y = kvs := by
  rw [put_at hn hj]
  obtain ⟨h1, h2⟩ := List.getElem?_eq_some_iff.mp hj
  rw [← h2]; exact List.set_getElem_self h1
theorem unfocDE0 {ps : List Addr} {j : Nat} {y : β} {p : Addr} (hl : ps.length = kvs.length ∧ (kvs.map (·.1)).Nodup) (hj : kvs[j]? = some (k, y)) (hp : ps[j]? = some p) (h : Sep H (E p y :: dictXH id E a ps kvs j :: M)) : Sep H (dictE E a kvs :: M) := by
  have := unfocDE hl hj hp h
  rw [put_same hl.2 hj] at this; exact this
theorem drop_map {γ : Type} (f : κ × β → γ) : ∀ {l : List (κ × β)} {j : Nat} {y : β}, (l.map (·.1)).Nodup → l[j]? = some (k, y) → ddrop l k = l.eraseIdx j
  | [], _, _, _, h => by simp at h
  | x :: r, 0, y, hn, h => by
    have e : x = (k, y) := by simpa using h
    rw [List.map_cons, List.nodup_cons] at hn
    unfold ddrop
    rw [List.filter_cons_of_neg (by simp [e])]
    refine List.filter_eq_self.mpr fun z hz => ?_
    have : z.1 ≠ k := fun ez => hn.1 (by rw [e]; exact List.mem_map.mpr ⟨z, hz, ez⟩)
    simpa using this
  | x :: r, j + 1, y, hn, h => by
    have h2 : r[j]? = some (k, y) := by simpa using h
    rw [List.map_cons, List.nodup_cons] at hn
    have ne : x.1 ≠ k := fun z => hn.1 (by rw [z]; exact List.mem_map.mpr ⟨(k, y), List.mem_of_getElem? h2, rfl⟩)
    have ih := drop_map f hn.2 h2
    unfold ddrop at ih ⊢
    rw [List.filter_cons_of_pos (by simpa using ne), ih]
    rfl
theorem dropK_refs : ∀ {l : List (κ × β)} {qs : List Addr} {j : Nat} {y : β}, qs.length = l.length → (l.map (·.1)).Nodup → l[j]? = some (k, y) → dropK (refsD l qs) (Kx.key k) = refsD (l.eraseIdx j) (qs.eraseIdx j)
  | [], _, _, _, _, _, h => by simp at h
  | x :: r, [], _, _, hl, _, _ => by simp at hl
  | x :: r, q :: qs, 0, y, hl, hn, h => by
    have e : x = (k, y) := by simpa using h
    rw [List.map_cons, List.nodup_cons] at hn
    show dropK ((Kx.key x.1, V.ref q) :: refsD r qs) (Kx.key k) = refsD r qs
    unfold dropK
    rw [List.filter_cons_of_neg (by simp [e])]
    refine List.filter_eq_self.mpr fun z hz => ?_
    have : z.1 ∈ r.map (fun kv => Kx.key kv.1) := by
      have : ∀ {l : List (κ × β)} {qs : List Addr} {z : Key × V}, z ∈ refsD l qs → z.1 ∈ l.map (fun kv => Kx.key kv.1) := by
        intro l
        induction l with
        | nil => intro qs z hz; cases qs <;> cases hz
        | cons a l ih =>
          intro qs z hz
          cases qs with
          | nil => cases hz
          | cons b qs =>
            rcases List.mem_cons.mp (show z ∈ (Kx.key a.1, V.ref b) :: refsD l qs from hz) with rfl | hz
            · simp
            · rw [List.map_cons]; exact List.mem_cons_of_mem _ (ih hz)
      exact this hz
    obtain ⟨w, hw, ew⟩ := List.mem_map.mp this
    have : z.1 ≠ Kx.key k := fun ez => hn.1 (by rw [e]; exact List.mem_map.mpr ⟨w, hw, Kx.inj (ew.trans ez)⟩)
    simpa using this
  | x :: r, q :: qs, j + 1, y, hl, hn, h => by
    have h2 : r[j]? = some (k, y) := by simpa using h
    rw [List.map_cons, List.nodup_cons] at hn
    have ne : x.1 ≠ k := fun z => hn.1 (by rw [z]; exact List.mem_map.mpr ⟨(k, y), List.mem_of_getElem? h2, rfl⟩)
    have ne2 : ¬ Kx.key x.1 = Kx.key k := fun z => ne (Kx.inj z)
    have ih := dropK_refs (l := r) (qs := qs) (by simpa using hl) hn.2 h2
    show dropK ((Kx.key x.1, V.ref q) :: refsD r qs) (Kx.key k) = (Kx.key x.1, V.ref q) :: refsD (r.eraseIdx j) (qs.eraseIdx j)
    unfold dropK at ih ⊢
    rw [List.filter_cons_of_pos (by simpa using ne2), ih]
theorem zip_erase {α γ : Type} : ∀ {l : List α} {m : List γ} {j : Nat}, l.length = m.length → (l.zip m).eraseIdx j = (l.eraseIdx j).zip (m.eraseIdx j)
  | [], [], _, _ => rfl
  | x :: l, y :: m, 0, _ => rfl
  | x :: l, y :: m, j + 1, h => by
    show (x, y) :: (l.zip m).eraseIdx j = (x, y) :: (l.eraseIdx j).zip (m.eraseIdx j)
    rw [zip_erase (by simpa using h)]
  | [], _ :: _, _, h => by simp at h
  | _ :: _, [], _, h => by simp at h
/-- d.pop(k), an own thing -/
theorem k_pop1E (h : Sep H (dictE E a kvs :: M)) {y : β} (hk : dget kvs k = some y) (q : ∀ p H', Sep H' (E p y :: dictE E a (ddrop kvs k) :: M) → Q (.ref p) H') : pop1K2 a Q (kV (Kx.key k)) H := by
  obtain ⟨ps, hl, h⟩ := dictE_X h
  obtain ⟨j, hj⟩ := dget_idx hk
  obtain ⟨p, hp, e⟩ := refs_get hl.1 hl.2 hj
  refine ⟨refsD kvs ps, Kx.key k, .ref p, dictX_cell h, rfl, e, q p _ ?_⟩
  have h2 : Sep H (dictXH id E a ps kvs j :: E p y :: M) := (outX h hj hp).perm (List.Perm.swap _ _ _)
  have h3 := Sep.star1 h2
  have h4 := h3.put (i := 0) (a := a) (o := .dK (refsD kvs ps)) (o' := .dK (dropK (refsD kvs ps) (Kx.key k))) rfl rfl rfl
  have ed : ddrop kvs k = kvs.eraseIdx j := drop_map (fun z => z) hl.2 hj
  have lj : j < kvs.length := (List.getElem?_eq_some_iff.mp hj).1
  have er := dropK_refs hl.1 hl.2 hj
  rw [er] at h4 ⊢
  rw [ed]
  refine Sep.perm (Sep.exI (ps.eraseIdx j) (Sep.andI ⟨by rw [List.length_eraseIdx, List.length_eraseIdx, hl.1], ?_⟩ (Sep.unstar1 ?_)) : Sep _ (dictE E a (kvs.eraseIdx j) :: E p y :: M)) (List.Perm.swap _ _ _)
  · rw [← erase_map]
    exact hl.2.sublist (List.eraseIdx_sublist ..)
  · have ez : (ps.eraseIdx j).zip ((kvs.eraseIdx j).map (·.2)) = (ps.zip (kvs.map (·.2))).eraseIdx j := by
      rw [← erase_map, zip_erase (by rw [List.length_map]; exact hl.1)]
    rw [ez]
    exact h4
theorem newE0 {p : Addr} (hp : H p = none) (hS : Sep H M) : Sep (upd H p (.dK [])) (dictE E p ([] : List (κ × β)) :: M) :=
  Sep.exI [] (Sep.andI ⟨rfl, List.nodup_nil⟩ (Sep.unstar1 (L := [cell p (.dK [])]) (hS.new (o := .dK []) hp rfl)))
theorem k_dnewE (hS : Sep H M) (q : ∀ p H', Sep H' (dictE E p ([] : List (κ × β)) :: M) → Q (.ref p) H') : tDNewK σ H Q := fun p hp => q p _ (newE0 hp hS)
end
section
variable {β : Type} {H : Hp} {L : List (Asn G)} {Q : VK} {a : Addr} {i : Nat}
def rSortD : List V → Hp → VK → Prop := fun xs H Q => ∃ (a : Addr) (kvs : List (Key × V)) (ks : List Str), xs = [.ref a] ∧ Rd H a (.dK kvs) ∧ kvs.map (·.1) = ks.map Sum.inr ∧ ks.length < 64 ∧
    ∀ ys p, ys.Perm ks → sortedS ys = true → H p = none → Q (.ref p) (upd H p (.lst (ys.map V.str)))
theorem cr_sortD {X : Cx} (hc : X.calm = true) : CallR X (.builtin "sorted") rSortD := call_sortedD hc
theorem refs_keysS : ∀ {kvs : List (Str × β)} {ps : List Addr}, ps.length = kvs.length → (refsD kvs ps).map (·.1) = (kvs.map (·.1)).map Sum.inr
  | [], ps, _ => by cases ps <;> rfl
  | x :: r, p :: ps, h => by
    show Sum.inr x.1 :: (refsD r ps).map (·.1) = Sum.inr x.1 :: (r.map (·.1)).map Sum.inr
    rw [refs_keysS (by simpa using h)]
  | _ :: _, [], h => by simp at h
theorem k_sortRd {ks : List (Key × V)} {ss : List Str} (hS : Sep H L) (hc : Rd H a (.dK ks)) (e : ks.map (·.1) = ss.map Sum.inr) (h : ss.length < 64) (k : ∀ p H', Sep H' (lstA p (sortT ss) :: L) → Q (.ref p) H') : rSortD [.ref a] H Q :=
  ⟨a, ks, ss, rfl, hc, e, h, fun ys p pm srt hp => k p _ (hS.newL hp (imL.flat.mpr (by rw [sortT_of pm (sorted_leT srt)]; rfl)))⟩
theorem k_sortDA [Im G β] {xs : List (Str × β)} (hS : Sep H L) (e : L[i]? = some (dictA a xs)) (h : xs.length < 64) (k : ∀ p H', Sep H' (lstA p (sortT (xs.map (·.1))) :: L) → Q (.ref p) H') : rSortD [.ref a] H Q := by
  obtain ⟨ps, hc, m⟩ := hS.dict e
  exact k_sortRd hS (.inl hc) (by rw [m.keys, List.map_map]; rfl) (by rw [List.length_map]; exact h) k
end
section
variable {β : Type} [Im G β] {H : Hp} {L L' : List (Asn G)} {Q : VK} {a b : Addr} {i : Nat} {xs : List (Kt × β)} {k : Kt}
theorem imDT.drop : ∀ {ps : List (List Key × V)} {qs : List (Kt × β)} (k : Kt), imDT (G := G) H ps qs → imDT (G := G) H (dropK ps k.ks) (ddrop qs k)
  | [], [], _, _ => True.intro
  | p :: ps, q :: qs, k, ⟨⟨e1, e2⟩, h⟩ => by
    have ih := imDT.drop k h
    unfold dropK ddrop at ih ⊢
    rw [List.filter_cons, List.filter_cons]
    by_cases c : q.1 = k
    · have c1 : p.1 = k.ks := by rw [e1, c]
      simp only [c, c1, ne_eq, not_true_eq_false, decide_false, Bool.false_eq_true, if_false]
      exact ih
    · have c1 : ¬ p.1 = k.ks := fun z => c (Kt.inj (e1.symm.trans z))
      simp only [c, c1, ne_eq, not_false_eq_true, decide_true, if_true]
      exact ⟨⟨e1, e2⟩, ih⟩
  | [], _ :: _, _, h => h.elim
  | _ :: _, [], _, h => h.elim
end
end Ml
namespace Ml
open PySem PySem.W PySem.Calls PyProof.Rows PyProof.V PySem.Spec
end Ml
namespace Ml
open PySem PySem.Spec PyProof.Rows L2 L2.DX
end Ml
namespace Ml
open PySem PySem.Spec PyProof.Rows L2
variable {G : Gx}
section
variable {κ β : Type} [DecidableEq κ] [Kx κ] {H : Hp} {L : List (Asn G)} {σ : L2.St} {Q : VK} {td ty : TE} {k : κ} {a : Addr} {i : Nat} {kvs : List (κ × β)} {E : Addr → β → Asn G}
theorem sat_front {A : Asn G} (h : Sep H L) (e : L[i]? = some A) : ∃ M, Sep H (A :: M) := ⟨_, h.perm (pull_perm e)⟩
theorem Sep.cellE (h : Sep H L) (e : L[i]? = some (dictE E a kvs)) : ∃ ps : List Addr, (ps.length = kvs.length ∧ (kvs.map (·.1)).Nodup) ∧ H a = some (.dK (refsD kvs ps)) := by
  obtain ⟨M, h⟩ := sat_front h e
  exact dictE_cell h
theorem isD_Ei (h : Sep H L) (e : L[i]? = some (dictE E a kvs)) : IsD H a := by
  obtain ⟨M, h⟩ := sat_front h e
  exact isD_E h
theorem wp_dgetX {ρ β : Type} {kvs : List (κ × β)} {q : ρ → Prop} {e : Exc → Prop} {f : β → R ρ} (h : R.wp ((dgetR kvs k).bind f) q e) : ∃ y, dget kvs k = some y ∧ R.wp (f y) q e := by
  unfold dgetR at h
  cases c : dget kvs k with
  | none => rw [c] at h; exact h.elim
  | some y => rw [c] at h; exact ⟨y, rfl, h⟩
end
section
variable {β : Type} {H : Hp} {L : List (Asn G)} {a : Addr} {i : Nat} {kvs : List (Str × β)} {E : Addr → β → Asn G} {Q : VK}
theorem k_sortDEi (hS : Sep H L) (e : L[i]? = some (dictE E a kvs)) (h : kvs.length < 64) (k : ∀ p H', Sep H' (lstA p (sortT (kvs.map (·.1))) :: L) → Q (.ref p) H') : rSortD [.ref a] H Q := by
  obtain ⟨ps, hl, hc⟩ := hS.cellE e
  exact k_sortRd hS (.inl hc) (refs_keysS hl.1) (by rw [List.length_map]; exact h) k
end
end Ml
namespace Ml
open PySem PySem.Spec PyProof.Rows L2
end Ml
namespace Ml
open PySem PySem.Spec PyProof.Rows L2
end Ml
namespace Ml
open PySem PySem.Spec PyProof.Rows L2
variable {G : Gx}
theorem m1 {X : Cx} {o : Expr} {m : Str} {apos : Pos} {e : Expr} {cpos : Pos} (base : attributeBase o m X.env (eval o X.env) = eval o X.env := by rfl)
  (few : ((backTo cpos (starEach [e] X.env)).all (fun x => !x.1) && (backToKw cpos (keywordEach [] X.env)).all (fun x => x.1.isSome)
    && decide (([e] : List Expr).length + ([] : List Keyword).length + (if ([] : List Keyword).isEmpty then 0 else 1) < 30)) = true := by rfl)
  (line : (apos.endLine == cpos.line) = true := by rfl) (trees : backTo cpos (starEach [e] X.env) = [(false, eval e X.env)] := by rfl) : M1 X o m apos e cpos := ⟨base, few, line, trees⟩
end Ml
namespace Ml
open PySem PySem.Spec PyProof.Rows L2
end Ml
namespace Ml
open PySem PySem.Spec PyProof.Rows L2
end Ml
namespace Ml
open PySem PySem.Spec PyProof.Rows L2
variable {G : Gx} {H : Hp}
def isNK (Q : VK) : VK := fun x H1 => Q (.bl (decide (x = .non))) H1
theorem c_isN {ta : TE} {σ : L2.St} {Q : VK} (h : ta σ H (isNK Q)) : tIsN ta σ H Q := h
theorem k_isNn {Q : VK} (h : Q (.bl true) H) : isNK Q .non H := h
end Ml
namespace Ml
open PySem PySem.Spec PyProof.Rows L2
structure Opq where
variable {G : Gx} {H : Hp}
instance imOpq : Im G Opq := ⟨fun _ _ _ => True, fun _ _ => trivial⟩
end Ml
namespace L2
open PySem PySem.Spec PyProof.Rows Ml
end L2
namespace Ml
open PySem PySem.Spec PyProof.Rows L2
end Ml
namespace Ml
open PySem PySem.Spec PyProof.Rows L2
end Ml
namespace Ml
open PySem PySem.Spec PyProof.Rows L2
end Ml
namespace Ml
open PySem PySem.Spec PyProof.Rows L2
end Ml
namespace Ml
open PySem PySem.Spec PyProof.Rows L2
section
variable {G : Gx} {κ β : Type} [DecidableEq κ] [Kx κ] {H : Hp} {M : List (Asn G)} {a : Addr} {kvs : List (κ × β)} {k : κ} {E : Addr → β → Asn G} {Q : VK}
theorem newX_sep {ps : List Addr} {p : Addr} {y : β} (hl : ps.length = kvs.length ∧ (kvs.map (·.1)).Nodup) (hk : ¬ k ∈ kvs.map (·.1)) (h : Sep H ((cell a (.dK (refsD kvs ps)) :: elemsE E (ps.zip (kvs.map (·.2)))) ++ (E p y :: M))) :
    ((ps ++ [p]).length = (kvs ++ [(k, y)]).length ∧ ((kvs ++ [(k, y)]).map (·.1)).Nodup) ∧ Sep (upd H a (.dK (putK (refsD kvs ps) (Kx.key k) (.ref p)))) (dictX id E a (ps ++ [p]) (kvs ++ [(k, y)]) :: M) := by
  have h2 := h.put (i := 0) (a := a) (o := .dK (refsD kvs ps)) (o' := .dK (putK (refsD kvs ps) (Kx.key k) (.ref p))) rfl rfl rfl
  refine ⟨⟨by rw [List.length_append, List.length_append, hl.1]; rfl, ?_⟩, Sep.unstar1 ?_⟩
  · rw [List.map_append, List.nodup_append]
    refine ⟨hl.2, by simp, fun x hx z hz => ?_⟩
    rw [List.map_singleton, List.mem_singleton] at hz
    intro e
    have hz : z = k := hz
    exact hk (by rw [← hz, ← e]; exact hx)
  · have e1 : elemsE E ((ps ++ [p]).zip ((kvs ++ [(k, y)]).map (·.2))) = elemsE E (ps.zip (kvs.map (·.2))) ++ [E p y] := by
      unfold elemsE
      rw [List.map_append, List.zip_append (by rw [List.length_map]; exact hl.1), List.map_append]
      rfl
    rw [e1, ← refs_new (y := y) hl.1 hk]
    have : ((cell a (.dK (putK (refsD kvs ps) (Kx.key k) (.ref p))) :: elemsE E (ps.zip (kvs.map (·.2)))) ++ (E p y :: M)) = ((cell a (.dK (putK (refsD kvs ps) (Kx.key k) (.ref p))) :: (elemsE E (ps.zip (kvs.map (·.2))) ++ [E p y])) ++ M) := by simp
    show Sep _ ((cell a (.dK (putK (refsD kvs ps) (Kx.key k) (.ref p))) :: (elemsE E (ps.zip (kvs.map (·.2))) ++ [E p y])) ++ M)
    rw [← this]
    exact h2
theorem k_setdE3 {p0 : Addr} {z : β} (h : Sep H (dictE E a kvs :: E p0 z :: M)) (hz : kvs.length < sizeLine)
    (q : ∀ ps p j H', (ps.length = (setE kvs k z).length ∧ ((setE kvs k z).map (·.1)).Nodup) → (setE kvs k z)[j]? = some (k, (dget kvs k).getD z) → ps[j]? = some p → Sep H' (E p ((dget kvs k).getD z) :: dictXH id E a ps (setE kvs k z) j :: M) → Q (.ref p) H') :
    setdK3 a (kV (Kx.key k)) Q (.ref p0) H := by
  obtain ⟨ps, hl, h⟩ := dictE_X h
  refine ⟨refsD kvs ps, Kx.key k, dictX_cell h, rfl, by rw [refs_len hl.1]; exact hz, fun v hv => ?_, fun hv => ?_⟩
  · cases e : dget kvs k with
    | none => rw [refs_none hl.1 e] at hv; cases hv
    | some y =>
      obtain ⟨j, hj⟩ := dget_idx e
      have eE : setE kvs k z = kvs := by unfold setE dhas; rw [e]; rfl
      obtain ⟨p, hp, e2⟩ := refs_get hl.1 hl.2 hj
      rw [e2] at hv
      cases hv
      rw [e, eE] at q
      exact q ps p j H hl hj hp (outX (Sep.tail (h.perm (List.Perm.swap _ _ _))) hj hp)
  · cases e : dget kvs k with
    | some y =>
      exfalso
      obtain ⟨j, hj⟩ := dget_idx e
      obtain ⟨p, hp, e2⟩ := refs_get hl.1 hl.2 hj
      rw [e2] at hv; cases hv
    | none =>
      have eE : setE kvs k z = kvs ++ [(k, z)] := by unfold setE dhas; rw [e]; rfl
      obtain ⟨hl2, h2⟩ := newX_sep (k := k) hl (dhas_no e) (Sep.star1 h)
      have hj : (kvs ++ [(k, z)])[kvs.length]? = some (k, z) := by simp
      have hp : (ps ++ [p0])[kvs.length]? = some p0 := by rw [← hl.1]; simp
      rw [e, eE] at q
      exact q (ps ++ [p0]) p0 kvs.length _ hl2 hj hp (outX h2 hj hp)
end
end Ml
namespace Ml
open PySem PySem.Spec PyProof.Rows L2
end Ml
namespace Ml
open PySem PySem.Spec PyProof.Rows L2
end Ml
namespace Ml
open PySem PySem.Spec PyProof.Rows L2
end Ml
namespace L2
open PySem PySem.Spec PyProof.Rows
end L2
namespace Ml
open PySem PySem.Spec PyProof.Rows L2
end Ml
namespace Ml
open PySem PySem.Spec PyProof.Rows L2
theorem lenD_at {G : Gx} {κ β : Type} [DecidableEq κ] [Kx κ] [Im G β] {H : Hp} {L : List (Asn G)} {i : Nat} {a : Addr} {xs : List (κ × β)} (hS : Sep H L) (e : L[i]? = some (dictA a xs)) : ∃ ps : List (Key × V), H a = some (.dK ps) ∧ ps.length = xs.length := by
  obtain ⟨ps, hp, m⟩ := hS.dict e
  exact ⟨ps, hp, m.len⟩
end Ml
namespace Ml
open PySem PySem.Spec PyProof.Rows L2
section
variable {G : Gx} {κ β : Type} [DecidableEq κ] [Kx κ] {H : Hp} {M : List (Asn G)} {a : Addr} {kvs : List (κ × β)} {k : κ} {E : Addr → β → Asn G} {Q : VK}
theorem k_get2E {p0 : Addr} {z : β} (h : Sep H (dictE E a kvs :: E p0 z :: M))
    (q : ∀ p (R : Asn G), (∀ H' M', Sep H' (E p ((dget kvs k).getD z) :: R :: M') → Sep H' (dictE E a kvs :: M')) → Sep H (E p ((dget kvs k).getD z) :: R :: M) → Q (.ref p) H) : get2K3 a (kV (Kx.key k)) Q (.ref p0) H := by
  obtain ⟨ps, hl, hx⟩ := dictE_X h
  have hc := dictX_cell hx
  cases e : dget kvs k with
  | none =>
    refine ⟨none, .inl ⟨_, Kx.key k, .inl hc, rfl, (refs_none hl.1 e).symm⟩, ?_⟩
    rw [e] at q
    exact q p0 (dictE E a kvs) (fun H' M' hs => Sep.tail hs) (h.perm (List.Perm.swap _ _ _))
  | some y =>
    obtain ⟨j, hj⟩ := dget_idx e
    obtain ⟨p, hp, e2⟩ := refs_get hl.1 hl.2 hj
    refine ⟨some (.ref p), .inl ⟨_, Kx.key k, .inl hc, rfl, e2.symm⟩, ?_⟩
    rw [e] at q
    have h1 : Sep H (E p y :: (dictXH id E a ps kvs j :: E p0 z :: M)) := outX hx hj hp
    refine q p (star [dictXH id E a ps kvs j, E p0 z]) (fun H' M' hs => ?_) ?_
    · have h2 : Sep H' (star [dictXH id E a ps kvs j, E p0 z] :: (E p y :: M')) := hs.perm (List.Perm.swap _ _ _)
      have h3 := Sep.star1 h2
      have h4 : Sep H' (E p y :: dictXH id E a ps kvs j :: (E p0 z :: M')) := h3.perm (by
        show (dictXH id E a ps kvs j :: E p0 z :: E p y :: M').Perm _
        exact ((List.Perm.swap _ _ _).cons _).trans (List.Perm.swap _ _ _))
      exact Sep.tail ((unfocDE0 hl hj hp h4).perm (List.Perm.swap _ _ _))
    · have h5 : Sep H ([dictXH id E a ps kvs j, E p0 z] ++ (E p y :: M)) := h1.perm (by
        show (E p y :: dictXH id E a ps kvs j :: E p0 z :: M).Perm (dictXH id E a ps kvs j :: E p0 z :: E p y :: M)
        exact (List.Perm.swap _ _ _).trans ((List.Perm.swap _ _ _).cons _))
      exact (Sep.unstar1 h5).perm (List.Perm.swap _ _ _)
end
end Ml
namespace Ml
open PySem PySem.Spec PyProof.Rows L2
end Ml
namespace L2
open PySem PySem.Spec PyProof.Rows
/-- a def's promise where no repr is under way -/
structure FnG (P : Program) (w : World) (K : PySem.W.Frag) (mg : Str → Option Value) (base : Heap) (CX : CXT) (k : Nat) (f : Addr) (fd : FuncData) (ps : List Str) (sp : Sp) : Prop where
  len : ∀ vs H Q E, sp vs H Q E → vs.length = ps.length
  run : ∀ (A : Around) (outer : List Env) (s : Shared) (H : Hp) (args : Args) (us : List Value) (vs : List V) (Q : VK) (E : XK), A.guards = some [] → Room k A → Env0 P w K mg base A outer s H → BindsTo s fd args (ps.zip us) → Vals vs us → sp vs H Q E →
    codeAny (model P w) A (.call (.ref f) args) (CR CX outer P w H s Q E) s
theorem FnG.imp {P : Program} {w : World} {K : PySem.W.Frag} {mg : Str → Option Value} {base : Heap} {CX : CXT} {k : Nat} {f : Addr} {fd : FuncData} {ps : List Str} {sp sp' : Sp} (F : FnG P w K mg base CX k f fd ps sp)
    (h : ∀ vs H Q E, sp' vs H Q E → sp vs H Q E) : FnG P w K mg base CX k f fd ps sp' :=
  ⟨fun vs H Q E q => F.len vs H Q E (h _ _ _ _ q), fun A outer s H args us vs Q E hg hr he hb hv hs => F.run A outer s H args us vs Q E hg hr he hb hv (h _ _ _ _ hs)⟩
theorem Fun.okG {P : Program} {w : World} {K : PySem.W.Frag} {mg : Str → Option Value} {base : Heap} {x qual : Str} {st : Stmt} {f : Addr} {fd : FuncData} {N ps : List Str} {k : Nat} {sp : Sp} (F : Fun K x qual st f fd) (S : FnScope N ps (defScope st)) (len : ∀ vs H Q E, sp vs H Q E → vs.length = ps.length)
    (hbody : ∀ (cdv : Value) (A : Around) (outer : List Env) (s : Shared) (H : Hp) (vs : List V) (Q : VK) (E : XK), A.guards = some [] → Room k (A.deeper (envOfC qual (defScope st) s.heap.objs.size f cdv)) → sp vs H Q E →
      ∃ t, PSs (cxOf CX0 P w K mg base N qual (defScope st) f cdv A outer s H E).nox (defBody st) t ∧ t { nx := fun _ H' => Q .non H', rt := Q } (start N vs) H) : FnG P w K mg base CX0 (k + 1) f fd ps sp := by
  obtain ⟨oc, od, kV, doc, pm, an, cdv, ct, osl, rfl, lk, hcd⟩ := F.ex
  refine ⟨len, fun A outer s H args us vs Q E hg hr e0 hb r hsp => ?_⟩
  have hl := len _ _ _ _ hsp
  have KX : K.In s.heap := e0.mod.kin.keeps fun b o e => (e0.bs b o e).1
  have lim : s.heap.NoLimit := e0.mod.nolimit.keeps fun b o e => (e0.bs b o e).1
  have hkind : ∀ y ∈ ps.zip us, (defScope st).names.lookup y.1 = some .local ∨ ((defScope st).names.lookup y.1 = some .cell ∧ ((cellsFrom (s.heap.objs.size + 1) (defScope st).names []).lookup y.1).isSome = true) := fun ⟨n, v⟩ hy => by
    rcases S.par n (List.of_mem_zip hy).1 with q | q
    · exact .inl q
    · exact .inr ⟨q, PySem.W.cellsFrom_some _ _ _ (.inl q)⟩
  refine codeAny_call_function hr.depth (KX _ _ lk) rfl S.co S.gen rfl (PySem.W.codeRec_of KX hcd) (hb _ _ _ _ ?_)
  refine wpAny_newFunctionEnv_cells S.kind hkind fun env he s1 x => ?_
  subst he
  refine ⟨lim.keeps x.toInCall.keep, codeAny_func ?_⟩
  obtain ⟨t, ht, hq⟩ := hbody cdv A outer s H vs Q E hg (hr.deeper _) hsp
  have I : Inv (cxOf CX0 P w K mg base N qual (defScope st) f cdv A outer s H E) [] (start N vs) H s1 := inv_start S hr.hd e0 hl r x
  refine wpAny_mono (ht.nox.run [] s1 (start N vs) H _ I hq) (fun fl s' hs => ?_) fun e s' hs => hs
  cases fl with
  | ret u =>
    obtain ⟨v, σ', H', J, rv, q⟩ := hs
    exact ⟨v, H', J.os, J.bare, J.base, J.hok, rv, q⟩
  | next =>
    obtain ⟨σ', H', J, q⟩ := hs
    exact ⟨V.non, H', J.os, J.bare, J.base, J.hok, rfl, q⟩
  | brk => obtain ⟨_, _, _, q⟩ := hs; exact False.elim q
  | cont => obtain ⟨_, _, _, q⟩ := hs; exact False.elim q
section
variable {X : Cx} {k : Nat} {f : Addr} {fd : FuncData} {ps : List Str} {CX : CXT} {sp : Sp} {dvs : List V} {ds : List Value} {E : XK} {x : Str} {p pos : Pos} {e : Expr} {es : List Expr} {t : TA}
theorem run_fnG {pins : List (Addr × Obj)} {σ : St} {H : Hp} {s : Shared} {Q : VK} {us : List Value} {vs : List V} (F : FnG X.prog X.w X.K X.mg X.base CX k f fd ps sp) (hgd : X.A.guards = some []) (hr : Room k X.A) (hb : Binds X.K fd ps ds) (hd : Vals dvs ds) (hx : Passes CX X E)
    (I : Inv X pins σ H s) (r : Vals vs us) (h : sp (vs ++ dvs) H Q E) : wpAny (model X.prog X.w) X.A (call (.ref f) us) (EP X pins σ Q) X.xe s := by
  have r2 : Vals (vs ++ dvs) (us ++ ds) := r.append hd
  refine wpAny_call (codeAny_mono (F.run X.A X.stack s H ⟨us, []⟩ (us ++ ds) (vs ++ dvs) Q E hgd hr I.env0 (hb s us I.kIn (by rw [← r2.length]; exact F.len _ _ _ _ h)) r2 h) fun r s' hq => ?_)
  match r, hq with
  | .error e, hq => exact hx pins σ H s e s' I hq
  | .ok (.ret u), hq => exact I.after hq
theorem pe_callGd (F : FnG X.prog X.w X.K X.mg X.base CX k f fd ps sp) (hgd : X.A.guards = some []) (hr : Room k X.A) (hg : Gl X x) (hm : X.mg x = some (.ref f)) (hk : PySem.W.keepIn X.K (.ref f) = true) (hb : Binds X.K fd ps ds) (hd : Vals dvs ds) (hx : Passes CX X E)
    (ha : PA X (e :: es) t) (hdb : (x == ("__debug__" : Str)) = false := by decide) (he : starEach (e :: es) X.env = (false, eval e X.env) :: starEach es X.env := by rfl) (hpl : (backTo pos (starEach es X.env)).any (·.1) = false := by rfl) :
    PE X (.Call (.Name x p) (e :: es) [] pos) (tCall sp dvs E t) := by
  refine ⟨fun pins s σ H Q I h => ?_⟩
  refine wpAny_Call_Name_kw (ld_glob I hg hm ?_ hdb)
  exact PySem.W.callWith_K (h₀ := X.base) I.ok.mod.kin hk (thn (ha.run pos pins s σ H _ I h) fun us s1 ⟨vs, H1, I1, r, q⟩ => ⟨I1.kIn, run_fnG F hgd hr hb hd hx I1 r q⟩) he hpl
def rRepr (K : PySem.W.Frag) : List V → Hp → VK → Prop := fun vs H Q => ∃ a d, vs = [.ref a] ∧ Dp K H (.ref a) d ∧ d.showable = true ∧ d.hasDict = false ∧ d.depth ≤ 40 ∧ d.shown.length ≤ sizeLine ∧ Q (.str d.shown) H
theorem call_reprD (K : PySem.W.Frag) (hg : X.A.guards = some []) (hu : X.A.units + 64 < cLine) (hK : X.K = K := by rfl) : CallR X (.builtin "repr") (rRepr K) := by
  subst hK
  intro pins s σ H xs us Q I r h
  obtain ⟨a, d, rfl, hd, sh, nd, dp, z, q⟩ := h
  cases r with
  | cons r1 r2 =>
    cases r2
    cases r1
    obtain ⟨as, rd⟩ := Dp.reads I d _ _ hd rfl
    exact repr_of_reads' rd sh (fun c => by rw [nd] at c; cases c) hg (by omega) (fun _ _ e => e) (fun h' u tk hk => ⟨.str _, H, I.kept (t' := tk) hk, ⟨_, rfl⟩, q⟩) z
end
/-- the heap ahead of the law: nothing is told but the script, or not even it -/
theorem env_law {P : Program} {w : World} {K : PySem.W.Frag} {mg mb : Str → Option Value} {a : Addr} {s : Shared} {H : Hp} {vs : List Value} (KX : K.In s.heap) (hns : s.heap.Ns mainGlobals mg) (hb : s.heap.Ns builtinsNs mb) (hbb : ∀ x : Str, x ≠ "__name__" → mb x = bootBuiltins x) (hlim : s.heap.NoLimit) (hg : s.gens = #[])
    (ha : s.heap.get? a = some { cls := .type "list", data := .seq vs.toArray }) (ok : HOk P w H s.heap) (one : ∀ b, b ≠ a → H b = none) (no : H a ≠ none → K.lookup a = none) :
    K.In (hidT s.heap H) ∧ (hidT s.heap H).Ns mainGlobals mg ∧ Env0 P w K mg (hidT s.heap H) callerA [] s H := by
  have dic : ∀ {b : Addr} {m : Str → Option Value}, s.heap.Ns b m → (hidT s.heap H).Ns b m := fun {b m} q => by
    obtain ⟨o, es, ep, e, d, r⟩ := q
    refine ⟨o, es, ep, hidT_get e (one b fun z => ?_), d, r⟩
    rw [z, ha] at e
    injection e with e
    rw [← e] at d
    have d' : Data.seq vs.toArray _ = Data.dict es ep := d
    cases d'
  have kin : K.In (hidT s.heap H) := fun b o e => hidT_get (KX b o e) (by
    by_cases z : b = a
    · subst z
      cases q : H b with
      | none => rfl
      | some u => rw [no (by rw [q]; simp)] at e; cases e
    · exact one b z)
  obtain ⟨mc, c1, c2⟩ := hlim
  exact ⟨kin, dic hns, rfl, ⟨kin, dic hns, ⟨mb, dic hb, hbb⟩, ⟨mc, dic c1, c2⟩⟩, fun b o e => of_hidT e, Nat.le_of_eq (hidT_size _ _), trivial, fun b q => absurd (show b ∈ ([] : List Addr) from q) (by simp), ok, .of_eq hg⟩
/-- the end of the law, from its end as a def -/
theorem ce_law {P : Program} {w : World} {K : PySem.W.Frag} {H : Hp} {s s' : Shared} {r : Result} {CX : CXT} (only : Only H) (hok : HOk P w H s.heap) (hCX : ∀ e s', CX [] H s (fun _ _ _ => False) e s' → False)
    (h : CR CX [] P w H s (fun v _ => v = .bl true) (fun _ _ _ => False) r s') : r = .ok (.ret (.bool true)) ∧ OldK s.heap s'.heap ∧ s'.os = s.os ∧ AllBare s'.gens := by
  match r, h with
  | .error e, h => exact (hCX e s' h).elim
  | .ok (.ret u), h =>
    obtain ⟨v, H', os, bare, un, hok', rv, q⟩ := h
    have q : v = .bl true := q
    subst q
    have ru : u = Value.bool true := rv
    subst ru
    refine ⟨rfl, OldK.of_keep fun b o e => ?_, os, bare⟩
    rcases only b with z | ⟨ob, xs, z⟩
    · exact un.keep b o e z (fun c => absurd (show b ∈ ([] : List Addr) from c) (by simp)) (by simp)
    · have e1 := (hok b _ z).1
      rw [e] at e1
      injection e1 with e1
      rw [e1]
      exact (hok' b _ (un.frzs b ob _ z)).1
theorem law_callG {P : Program} {w : World} {K : PySem.W.Frag} {mg mb : Str → Option Value} {CX : CXT} {k : Nat} {fa a : Addr} {fd : FuncData} {x : Str} {sp : Sp} {s : Shared} {vs : List Value} {ns : List Int}
    (KX : K.In s.heap) (hns : s.heap.Ns mainGlobals mg) (hb : s.heap.Ns builtinsNs mb) (hbb : ∀ x : Str, x ≠ "__name__" → mb x = bootBuiltins x) (hlim : s.heap.NoLimit) (hg : s.gens = #[])
    (ha : s.heap.get? a = some { cls := .type "list", data := .seq vs.toArray }) (hi : IntsAre vs ns) (hl : ns.length ≤ sizeLine) (hr : Room k callerA)
    (F : ∀ base : Heap, K.In base → base.Ns mainGlobals mg → FnG P w K mg base CX k fa fd [x] sp) (hbind : ∀ (s : Shared) (u : Value), BindsTo s fd ⟨[u], []⟩ [(x, u)])
    (hsp : ∀ H : Hp, Only H → SqL K H a (ns.map V.int) → sp [.ref a] H (fun v _ => v = .bl true) fun _ _ _ => False)
    (hCX : ∀ H e s', CX [] H s (fun _ _ _ => False) e s' → False) :
    codeAny (model P w) callerA (.call (.ref fa) ⟨[.ref a], []⟩) (fun r s' => r = .ok (.ret (.bool true)) ∧ OldK s.heap s'.heap ∧ s'.os = s.os ∧ AllBare s'.gens) s := by
  have rv := vals_ints hi
  have core : ∀ H : Hp, Only H → SqL K H a (ns.map V.int) → HOk P w H s.heap → (∀ b, b ≠ a → H b = none) → (H a ≠ none → K.lookup a = none) →
      codeAny (model P w) callerA (.call (.ref fa) ⟨[.ref a], []⟩) (fun r s' => r = .ok (.ret (.bool true)) ∧ OldK s.heap s'.heap ∧ s'.os = s.os ∧ AllBare s'.gens) s := by
    intro H only sq ok one no
    obtain ⟨kin, nsb, e0⟩ := env_law (P := P) (w := w) KX hns hb hbb hlim hg ha ok one no
    exact codeAny_mono ((F _ kin nsb).run callerA [] s H ⟨[.ref a], []⟩ [.ref a] [.ref a] _ _ rfl hr e0 (hbind s (.ref a)) (.cons rfl .nil) (hsp H only sq)) fun r s' h => ce_law (K := K) only ok (fun e s' => hCX H e s') h
  by_cases known : (K.lookup a).isSome = true
  · obtain ⟨o, hk⟩ := Option.isSome_iff_exists.mp known
    have e := KX a o hk
    rw [ha] at e
    injection e with e
    subst e
    exact core (fun _ => none) (fun _ => .inl rfl) (.inr ⟨_, vs.toArray, _, hk, rfl, rfl, rfl, by rw [List.size_toArray, hi.length]; exact hl, by simpa using rv⟩) (fun b u z => nomatch (show (none : Option HO) = some u from z)) (fun _ _ => rfl) fun z => absurd rfl z
  · have hk : K.lookup a = none := by
      cases q : K.lookup a with
      | none => rfl
      | some o => rw [q] at known; exact absurd rfl known
    refine core (fun b => if b = a then some (.frz { cls := .type "list", data := .seq vs.toArray } (.lst (ns.map V.int))) else none) (fun b => ?_) (.inl (.inr ⟨{ cls := .type "list", data := .seq vs.toArray }, if_pos rfl⟩)) (fun b u z => ?_) (fun b z => if_neg z) fun _ => hk
    · by_cases c : b = a
      · exact .inr ⟨_, _, if_pos c⟩
      · exact .inl (if_neg c)
    · by_cases c : b = a
      · subst c
        injection (if_pos rfl).symm.trans z with z
        subst z
        exact ⟨ha, by rw [List.length_map]; exact hl, vs, _, rv, ha⟩
      · cases (if_neg c).symm.trans z
theorem walk_ofG {l : PySem.W.OpenLaw} {n k : Nat} {q : Program} {loose : List Str} {XP : (Str → Option Value) → Heap → Prop} {YP : World → Heap → Prop} {d : DefRec} {CX : CXT} {x : Str}
    (hn : l.most = some n) (hn2 : n ≤ sizeLine) (hdf : d.params.defaults = []) (hr : Room k callerA)
    (F : ∀ (w : World) (mg : Str → Option Value) (fa : Addr) (h : Heap), YP w h → h.Ns mainGlobals mg → mg d.name = some (.ref fa) →
      ∃ (K : PySem.W.Frag) (fd : FuncData) (sp : Sp), K.In h ∧ (∀ (s : Shared) (u : Value), BindsTo s fd ⟨[u], []⟩ [(x, u)]) ∧
        (∀ (H : Hp) (a : Addr) (ns : List Int), ns.length ≤ n → Only H → SqL K H a (ns.map V.int) → sp [.ref a] H (fun v _ => v = .bl true) fun _ _ _ => False) ∧
        ∀ base : Heap, K.In base → base.Ns mainGlobals mg → FnG l.prog w K mg base CX k fa fd [x] sp)
    (hCX : ∀ (H : Hp) (s : Shared) (e : Value) (s' : Shared), CX [] H s (fun _ _ _ => False) e s' → False) :
    PySem.W.WalkO q loose XP YP l.row.toRowW d [] (fun f vs => PySem.call f vs) := by
  refine Att.attach_call hn hdf fun w s₀ s₁ mg mb fa o pm cd doc a vs ns G Y ho hd hcd hmg hobj hints hlen hg => ?_
  obtain ⟨K, fd, sp, KX, hb, hsp, hF⟩ := F w mg fa _ Y G.T.g hmg
  exact law_callG KX G.T.g G.T.b G.T.builtins G.T.nolimit hg hobj hints (Nat.le_trans hlen hn2) hr hF hb (fun H hO hS => hsp H a ns hlen hO hS) fun H e s' => hCX H s₁ e s'
end L2
namespace Ml
open PySem PySem.Spec PyProof.Rows L2
def reprL (xs : List Str) : Str := (PyData.list (xs.map PyData.str)).shown
theorem strs_show : ∀ xs : List Str, PyData.showableAll (xs.map PyData.str) = true ∧ PyData.hasDictAll (xs.map PyData.str) = false ∧ PyData.depthAll (xs.map PyData.str) ≤ 0
  | [] => ⟨rfl, rfl, Nat.le_refl _⟩
  | x :: r => by
    obtain ⟨a, b, c⟩ := strs_show r
    simp only [List.map_cons, PyData.showableAll, PyData.hasDictAll, PyData.depthAll, PyData.showable, PyData.hasDict, PyData.depth, a, b]
    exact ⟨rfl, rfl, by omega⟩
section
variable {G : Gx} {H : Hp} {Q : VK} {v : V}
theorem dp_ref {K : PySem.W.Frag} {ds : List PyData} (h : Dp K H v (.list ds)) : ∃ a, v = .ref a := by
  cases h; exact ⟨_, rfl⟩
theorem r_reprL {xs : List Str} (d : Dp G.K H v (Pd.pd G xs)) (h : (reprL xs).length ≤ sizeLine) (q : Q (.str (reprL xs)) H) : rRepr G.K [v] H Q := by
  have e : Pd.pd G xs = .list (xs.map PyData.str) := rfl
  rw [e] at d
  obtain ⟨a, rfl⟩ := dp_ref d
  obtain ⟨s1, s2, s3⟩ := strs_show xs
  exact ⟨a, _, rfl, d, by rw [PyData.showable]; exact s1, by rw [PyData.hasDict]; exact s2, by rw [PyData.depth]; omega, h, q⟩
end
end Ml
namespace L2
open PySem PySem.Spec PyProof.Rows
section
variable {X : Cx}
def rRemD (K : PySem.W.Frag) : V → List V → Hp → VK → Prop := fun x xs H Q => ∃ (l : Addr) (ys : List V) (y : V) (d : PyData) (ds : List PyData) (j : Nat), x = .ref l ∧ xs = [y] ∧ H l = some (.lst ys) ∧ DpAll K H ys ds ∧ Dp K H y d ∧
  SeqAt.shaped (.list ds) = true ∧ SeqAt.shaped d = true ∧ SeqAt.dataPlace ds d = some j ∧ Q .non (upd H l (.lst (ys.eraseIdx j)))
theorem vals_erase : ∀ {xs : List V} {us : List Value} (j : Nat), Vals xs us → Vals (xs.eraseIdx j) (us.eraseIdx j)
  | [], _, j, r => by cases r; exact .nil
  | x :: xs, _, 0, r => by cases r with | cons a b => exact b
  | x :: xs, _, j + 1, r => by cases r with | cons a b => exact .cons a (vals_erase j b)
theorem mt_removeD (K : PySem.W.Frag) (hu : X.A.units + 65 < cLine) (hK : X.K = K := by rfl) : MtM X "list.remove" (rRemD K) := by
  subst hK
  intro pins s σ H x xs v us Q I rx rxs h
  obtain ⟨l, ys, y, d, ds, j, rfl, rfl, hH, ha, hy, sl, sd, hp, q⟩ := h
  cases rx
  obtain ⟨u, rfl, ru⟩ := rxs.one
  obtain ⟨z, its, n, r, hl, e⟩ := I.lstM hH
  obtain ⟨bs, r1⟩ := Dp.reads I d y u hy ru
  obtain ⟨as, h4⟩ := Dp.readsAll I ds _ its ha r
  have hxs : PyData.canLayAll0 ds = true := SeqAt.canLay_of_shaped sl
  have hroom : X.A.units + 1 + min (PyData.depthAll ds) d.depth < cLine := room_in_shaped sd hu
  have hrl := r.length
  refine PySem.SeqAt.remove_list_data ⟨_, e, rfl, n, rfl⟩ h4 r1 (PyData.plainAll_of_canLay0 _ hxs) (PyData.plain_of_canLay0 _ (SeqAt.canLay_of_shaped sd)) hroom hp (by rw [List.size_toArray]; omega) ?_
  refine ⟨.non, _, I.lset (its' := its.eraseIdx j) (t' := s.toks) hH e ?_ (vals_erase j r) ?_, rfl, q⟩
  · show its.toArray.eraseIdxIfInBounds j = (its.eraseIdx j).toArray
    rw [List.eraseIdxIfInBounds_toArray]
  · have := List.length_eraseIdx_le ys j
    omega
end
end L2
namespace Ml
open PySem PySem.Spec PyProof.Rows L2
section
variable {G : Gx} {α : Type} [Im G α] [DecidableEq α] [Lay α] [Pd G α] {H : Hp} {L L' : List (Asn G)} {i : Nat} {a : Addr} {Q : VK} {v : V}
def remP (xs : List α) (x : α) : List α := xs.eraseIdx (xs.findIdx fun y => decide (y = x))
theorem imL_erase : ∀ {vs : List V} {xs : List α} (j : Nat), imL (G := G) H vs xs → imL (G := G) H (vs.eraseIdx j) (xs.eraseIdx j)
  | [], [], _, _ => True.intro
  | v :: vs, x :: xs, 0, h => h.2
  | v :: vs, x :: xs, j + 1, h => ⟨h.1, imL_erase j h.2⟩
  | [], _ :: _, _, h => h.elim
  | _ :: _, [], _, h => h.elim
theorem place_is {xs : List α} {x : α} (hx : x ∈ xs) : SeqAt.dataPlace (xs.map (Pd.pd G)) (Pd.pd G x) = some (xs.findIdx fun y => decide (y = x)) := by
  unfold SeqAt.dataPlace
  rw [List.findIdx?_map]
  have e : (fun y => PyData.eqv y (Pd.pd G x)) ∘ Pd.pd G = fun y => decide (y = x) := funext fun y => Pd.eqv y x
  rw [e]
  have hl : xs.findIdx (fun y => decide (y = x)) < xs.length := List.findIdx_lt_length_of_exists ⟨x, hx, by simp⟩
  rw [List.findIdx?_eq_some_iff_getElem]
  refine ⟨hl, List.findIdx_getElem (w := hl), fun j hj => ?_⟩
  exact Bool.eq_false_iff.mp (List.not_of_lt_findIdx hj)
theorem k_removeP {xs : List α} {x : α} (hS : Sep H L) (e : L[i]? = some (lstA a xs)) (hv : Dp G.K H v (Pd.pd G x)) (l1 : Lay.lay xs = true) (l2 : Lay.lay x = true) (d : Pd.dep G α ≤ 63) (hx : x ∈ xs) (e2 : L.set i (lstA a (remP xs x)) = L') (q : ∀ H', Sep H' L' → Q .non H') : rRemD G.K (.ref a) [v] H Q := by
  obtain ⟨vs, h, m⟩ := hS.lst e
  refine ⟨a, vs, v, _, _, _, rfl, rfl, h, dpAll m, hv, shapedP (α := List α) (G := G) l1 (Nat.succ_le_succ d), shapedP l2 (by omega), place_is hx, ?_⟩
  subst e2
  exact q _ (hS.putL e (imL_erase _ m))
end
section
variable {G : Gx} {H : Hp} {L : List (Asn G)} {Q : VK} {v : V} {σ : L2.St} {ta : TE}
def kitB2 (T U1 U2 : String) : Option Bool := match kitB T U1 with
  | some true => some true
  | some false => kitB T U2
  | none => none
theorem kit2 {K : PySem.W.Frag} {T U1 U2 : String} {b : Bool} (h : kitB2 T U1 U2 = some b) : PySem.W.kitAny K (.type T) [.type U1, .type U2] = some b := by
  unfold kitB2 at h
  cases c : kitB T U1 with
  | none => rw [c] at h; cases h
  | some b1 =>
    rw [c] at h
    cases b1 with
    | true =>
      have hb : b = true := by simpa using h.symm
      exact kitAny_cons (kit_ty c) (fun z => by cases z) fun _ => hb
    | false =>
      have h : kitB T U2 = some b := h
      refine kitAny_cons (kit_ty c) (fun _ => ?_) fun z => by cases z
      cases b with
      | true => exact kitAny_cons (kit_ty h) (fun z => by cases z) fun _ => rfl
      | false => exact kitAny_cons (kit_ty h) (fun _ => kitAny_nil) fun z => by cases z
theorem k_isiT {T U1 U2 : String} {b : Bool} (hS : Sep H L) (ha : Ev ta σ H v) (ty : ∀ H', Sep H' L → TyX G.K H' v (.type T)) (e : kitB2 T U1 U2 = some b) (q : ∀ H', Sep H' L → Q (.bl b) H') :
    tCB (rIsiT G.K) (tCons ta (tCons (tTup (tCons (tC (.ty U1)) (tCons (tC (.ty U2)) tNil))) tNil)) σ H Q := by
  refine ha _ ?_
  refine ⟨by show 2 ≤ sizeLine; decide, fun p hp => ?_⟩
  have hS2 : Sep (upd H p (.tup [.ty U1, .ty U2])) L := hS.more (same_new hp)
  exact ⟨v, p, [.ty U1, .ty U2], .type T, [.type U1, .type U2], b, rfl, upd_same .., .cons (.ty _) (.cons (.ty _) .nil), ty _ hS2, kit2 e, q _ hS2⟩
end
end Ml
namespace Ml
open PySem PySem.Spec PyProof.Rows L2
theorem isiTK {X : Cx} (K : PySem.W.Frag) (hK : X.K = K := by rfl) : CallR X (.builtin "isinstance") (rIsiT K) := by subst hK; exact call_isiT
end Ml
namespace Ml
open PySem PySem.Spec PyProof.Rows L2
section
variable {G : Gx} {α β γ : Type} {H : Hp} {L L' M : List (Asn G)} {p : Addr} [Im G α] {E : Addr → γ → Asn G} {Q : VK} {i : Nat}
def orE (E : Addr → γ → Asn G) (p : Addr) (x : γ × α) : Asn G := exA fun (w : Addr × V) => star [cell p (.lst [.ref w.1, w.2]), E w.1 x.1, imA w.2 x.2]
theorem or_open {x : γ × α} (hS : Sep H (orE E p x :: M)) : ∃ q v, Sep H (cell p (.lst [.ref q, v]) :: E q x.1 :: imA v x.2 :: M) := by
  obtain ⟨w, h⟩ := Sep.ex hS
  exact ⟨w.1, w.2, Sep.star1 h⟩
theorem or_pack {v : V} {q : Addr} {x : γ} {y : α} (hS : Sep H (cell p (.lst [.ref q, v]) :: E q x :: imA v y :: M)) : Sep H (orE E p (x, y) :: M) := Sep.exI (q, v) (Sep.unstar1 hS)
theorem k_lstC {vs : List V} (hS : Sep H L) (z : vs.length ≤ sizeLine) (k : ∀ p H', Sep H' (cell p (.lst vs) :: L) → Q (.ref p) H') : lstK Q vs H := ⟨z, fun p hp => k p _ (hS.new hp rfl)⟩
theorem sq_cell {vs : List V} (hS : Sep H L) (e : L[i]? = some (cell p (.lst vs))) : SqL G.K H p vs := .inl (.inl (hS.getCell e))
theorem k_reverse [Im G β] {a : Addr} {xs : List β} (hS : Sep H L) (e : L[i]? = some (lstA a xs)) (e2 : L.set i (lstA a xs.reverse) = L') (q : ∀ H', Sep H' L' → Q .non H') : rReverse (.ref a) [] H Q := by
  obtain ⟨vs, h, m⟩ := hS.lst e
  refine ⟨a, vs, rfl, rfl, h, ?_⟩
  subst e2
  exact q _ (hS.putL e m.rev)
end
end Ml
namespace Lw
open PySem PySem.Spec PyProof.Rows L2 Ml
def top (i : Nat) : Stmt := PySem.Challenge.pw_mailroom_k25_words_of_names.main.body.getD i (.Pass ⟨0, 0, 0, 0⟩)
abbrev s_Index___init__ : Stmt := inClass (top 4) 0
abbrev s_Index_sure : Stmt := inClass (top 4) 1
abbrev s_Index_add : Stmt := inClass (top 4) 2
abbrev s_Index_take_out : Stmt := inClass (top 4) 3
abbrev s_Index_having : Stmt := inClass (top 4) 4
abbrev s_Index_words : Stmt := inClass (top 4) 5
abbrev s_Index_all_words : Stmt := inClass (top 4) 6
abbrev s_law_draws : Stmt := top 6
abbrev s_law_name_by : Stmt := top 7
abbrev s_law_pool : Stmt := top 8
abbrev s_law_is_list : Stmt := top 9
abbrev s_law_done : Stmt := top 10
abbrev s_law_looked : Stmt := top 11
abbrev s_law_stands : Stmt := top 12
abbrev s_law : Stmt := top 13
def asM : List Addr := ([3, 24, 37, 98, 2, 6, 23, 36, 97, 53, 60, 67, 74, 81, 88, 95, 109, 116, 121, 126, 131, 136, 143, 148, 15, 22, 28, 35, 47, 49, 50, 54, 56, 57, 61, 63, 64, 68, 70, 71] : List Addr) ++ ([75, 77, 78, 82, 84, 85, 89, 91, 92, 96, 103, 105, 106, 110, 112, 113, 117, 122, 127, 132, 137, 139, 140, 144, 25, 52, 59, 66, 73, 80, 87, 94, 99, 100, 108, 115, 120, 125, 130, 135] : List Addr) ++ ([142, 147] : List Addr)
theorem fxM {l : List Bool} (h : l.all id = true) (i : Nat) {b : Bool} (e : l[i]? = some b) : b = true := List.all_eq_true.mp h b (List.mem_of_getElem? e)
def fb0 (K : PySem.W.Frag) : List Bool := [
  decide (PySem.W.nsIn K mainGlobals "MailError" = some (some (.ref 24))),
  decide (PySem.W.nsIn K mainGlobals "NoName" = some (some (.ref 37))),
  decide (PySem.W.nsIn K mainGlobals "Index" = some (some (.ref 98))),
  decide (PySem.W.findIn K (.ref 98) "__init__" = some (some (.ref 53))),
  decide (PySem.W.isFn K (.ref 53) = true),
  decide (PySem.W.makesIn K 98 = true),
  decide (PySem.W.keepIn K (.ref 98) = true),
  decide (PySem.W.findIn K (.ref 98) "sure" = some (some (.ref 60))),
  decide (PySem.W.isFn K (.ref 60) = true),
  decide (PySem.W.findIn K (.ref 98) "add" = some (some (.ref 67))),
  decide (PySem.W.isFn K (.ref 67) = true),
  decide (PySem.W.findIn K (.ref 98) "take_out" = some (some (.ref 74))),
  decide (PySem.W.isFn K (.ref 74) = true),
  decide (PySem.W.findIn K (.ref 98) "having" = some (some (.ref 81))),
  decide (PySem.W.isFn K (.ref 81) = true),
  decide (PySem.W.findIn K (.ref 98) "words" = some (some (.ref 88))),
  decide (PySem.W.isFn K (.ref 88) = true),
  decide (PySem.W.findIn K (.ref 98) "all_words" = some (some (.ref 95))),
  decide (PySem.W.isFn K (.ref 95) = true),
  decide (PySem.W.nsIn K mainGlobals "_law_draws" = some (some (.ref 109))),
  decide (PySem.W.nsIn K mainGlobals "_law_name_by" = some (some (.ref 116))),
  decide (PySem.W.nsIn K mainGlobals "_law_pool" = some (some (.ref 121))),
  decide (PySem.W.nsIn K mainGlobals "_law_is_list" = some (some (.ref 126))),
  decide (PySem.W.nsIn K mainGlobals "_law_done" = some (some (.ref 131))),
  decide (PySem.W.nsIn K mainGlobals "_law_looked" = some (some (.ref 136))),
  decide (PySem.W.nsIn K mainGlobals "_law_stands" = some (some (.ref 143))),
  decide (PySem.W.nsIn K mainGlobals "law" = some (some (.ref 148))),
  decide (PySem.W.excIn K 37 [.type "ValueError", .type "Exception", .type "BaseException", .type "object"] "ValueError.__new__" = true),
  decide (PySem.W.keepIn K (.ref 37) = true),
  decide (PySem.W.subIn K (.ref 37) (.type "BaseException") = some true),
  decide (PySem.W.typeIn K (.ref 37) = some (.type "type")),
  decide (PySem.W.plainGet K 98 Str.empty = true),
  decide (PySem.W.hasDictIn K 98 = true),
  decide (PySem.W.plainOver K 98 = true),
  decide (PySem.W.findIn K (.ref 98) "__setattr__" = some (some (.builtin "object.__setattr__"))),
  decide (PySem.W.findIn K (.ref 98) "rows_of" = some none),
  decide (PySem.W.findIn K (.ref 98) "holders" = some none),
  decide (PySem.W.nsIn K mainGlobals "all" = some none),
  decide (PySem.W.nsIn K mainGlobals "isinstance" = some none),
  decide (PySem.W.nsIn K mainGlobals "len" = some none)]
def fb1 (K : PySem.W.Frag) : List Bool := [
  decide (PySem.W.nsIn K mainGlobals "list" = some none),
  decide (PySem.W.nsIn K mainGlobals "range" = some none),
  decide (PySem.W.nsIn K mainGlobals "repr" = some none),
  decide (PySem.W.nsIn K mainGlobals "set" = some none),
  decide (PySem.W.nsIn K mainGlobals "sorted" = some none),
  decide (PySem.W.nsIn K mainGlobals "str" = some none)]
def dfn0 : He5.DefA := ⟨fun _ => 53, "__init__", "Index.__init__", defArgs s_Index___init__, defBody s_Index___init__, defScope s_Index___init__, [], []⟩
def dfn1 : He5.DefA := ⟨fun _ => 60, "sure", "Index.sure", defArgs s_Index_sure, defBody s_Index_sure, defScope s_Index_sure, [], []⟩
def dfn2 : He5.DefA := ⟨fun _ => 67, "add", "Index.add", defArgs s_Index_add, defBody s_Index_add, defScope s_Index_add, [], []⟩
def dfn3 : He5.DefA := ⟨fun _ => 74, "take_out", "Index.take_out", defArgs s_Index_take_out, defBody s_Index_take_out, defScope s_Index_take_out, [], []⟩
def dfn4 : He5.DefA := ⟨fun _ => 81, "having", "Index.having", defArgs s_Index_having, defBody s_Index_having, defScope s_Index_having, [], []⟩
def dfn5 : He5.DefA := ⟨fun _ => 88, "words", "Index.words", defArgs s_Index_words, defBody s_Index_words, defScope s_Index_words, [], []⟩
def dfn6 : He5.DefA := ⟨fun _ => 95, "all_words", "Index.all_words", defArgs s_Index_all_words, defBody s_Index_all_words, defScope s_Index_all_words, [], []⟩
def dfn7 : He5.DefA := ⟨fun _ => 109, "_law_draws", "_law_draws", defArgs s_law_draws, defBody s_law_draws, defScope s_law_draws, [], []⟩
def dfn8 : He5.DefA := ⟨fun _ => 116, "_law_name_by", "_law_name_by", defArgs s_law_name_by, defBody s_law_name_by, defScope s_law_name_by, [], []⟩
def dfn9 : He5.DefA := ⟨fun _ => 121, "_law_pool", "_law_pool", defArgs s_law_pool, defBody s_law_pool, defScope s_law_pool, [], []⟩
def dfn10 : He5.DefA := ⟨fun _ => 126, "_law_is_list", "_law_is_list", defArgs s_law_is_list, defBody s_law_is_list, defScope s_law_is_list, [], []⟩
def dfn11 : He5.DefA := ⟨fun _ => 131, "_law_done", "_law_done", defArgs s_law_done, defBody s_law_done, defScope s_law_done, [], []⟩
def dfn12 : He5.DefA := ⟨fun _ => 136, "_law_looked", "_law_looked", defArgs s_law_looked, defBody s_law_looked, defScope s_law_looked, [], []⟩
def dfn13 : He5.DefA := ⟨fun _ => 143, "_law_stands", "_law_stands", defArgs s_law_stands, defBody s_law_stands, defScope s_law_stands, [], []⟩
def dfn14 : He5.DefA := ⟨fun _ => 148, "law", "law", defArgs s_law, defBody s_law, defScope s_law, [], []⟩
def dfns0 : List He5.DefA := [dfn0, dfn1, dfn2, dfn3, dfn4, dfn5, dfn6, dfn7, dfn8, dfn9, dfn10, dfn11, dfn12, dfn13, dfn14]
def factsK (K : PySem.W.Frag) : Bool := (fb0 K).all id && (fb1 K).all id
def obsD (ds : List He5.DefA) (K : PySem.W.Frag) : Bool × List He.FnW := (ds.all fun d => d.ok K, ds.map fun d => He5.fnA K (d.at_ K))
def valD (ds : List He5.DefA) : Bool × List He.FnW := (true, ds.map He5.DefA.val)
abbrev ObT : Type := Bool × (Bool × List He.FnW)
def obsK (K : PySem.W.Frag) : ObT := (factsK K, obsD dfns0 K)
def valK : ObT := (true, valD dfns0)
def hookM : PySem.W.Hook where
  α := ObT
  obs := fun s => obsK (He.frG s.heap.get? asM)
  val := fun _ => valK
  says := fun _ h => ∃ K : PySem.W.Frag, K.In h ∧ obsK K = valK
  of := fun _ _ e => ⟨_, He.frG_in, e⟩
  keeps := fun _ _ _ ⟨K, hK, c⟩ k => ⟨K, PySem.W.Frag.In.keeps hK k, c⟩
def obM (s : PySem.W.SharedT) : ObT := obsK (He.frG (HandSHeadRun.getT s) asM)
theorem obM_eq (s : PySem.W.SharedT) : obM s = hookM.obs s.abs := by
  have e : HandSHeadRun.getT s = s.abs.heap.get? := funext (HandSHeadRun.getT_eq s)
  show obsK (He.frG (HandSHeadRun.getT s) asM) = obsK (He.frG s.abs.heap.get? asM)
  rw [e]
theorem defM {K : PySem.W.Frag} {ds : List He5.DefA} (c : obsD ds K = valD ds) (i : Nat) {d : He5.DefA} (h : ds[i]? = some d) : ∃ fd, FunD K d.name d.qual d.params d.body d.scope (d.dvs K) (d.kws K) (d.at_ K) fd := by
  have c2 : (ds.all fun d => d.ok K) = true := congrArg (fun z : Bool × List He.FnW => z.1) c
  have e : ds.map (fun d => He5.fnA K (d.at_ K)) = ds.map He5.DefA.val := congrArg (fun z : Bool × List He.FnW => z.2) c
  have e2 : (ds.map fun d => He5.fnA K (d.at_ K))[i]? = (ds.map He5.DefA.val)[i]? := by rw [e]
  rw [List.getElem?_map, List.getElem?_map, h] at e2
  exact He5.DefA.funD (Option.some.inj e2) (List.all_eq_true.mp c2 d (List.mem_of_getElem? h))
def namesM : List PySem.Str := (["__name__", "MailError", "NoName", "Index", "_law_draws", "_law_name_by", "_law_pool", "_law_is_list", "_law_done", "_law_looked", "_law_stands"] : List PySem.Str)
abbrev rowM : PySem.W.OpenRow := PySem.W.OpenLaw.row PySem.Challenge.rw_mailroom_k25_words_of_names
open PySem.W PySem.Calls HandSHeadRun in
noncomputable abbrev endM (w : World) (os : OsState) : Option PySem.W.SharedT := HandSHeadRun.endF (HandSHeadRun.stepQ (HandSHeadRun.denQ HandSHeadRun.tabQ) rowM.prog w) 40000 rowM.prog w os
open PySem PySem.W PySem.Calls PyProof.Rows HandSHeadRun in
noncomputable abbrev seenM (w : World) (s : SharedT) := (looksF rowM.prog (boot_heap w.params) s.abs, HandSHeadRun.seenQ (view rowM.prog [13]) namesM (importedModules rowM.prog.main.body) (fun s => xlAt (view rowM.prog [13]) [] s && recOk rowM.toRowW.records s) s.abs)
theorem rc_pair {S α β : Type} {o : Option S} {f : S → α} {g : S → β} {a : α} {b : β} (h : o.map f = some a) (k : o.map g = some b) : o.map (fun s => (f s, g s)) = some (a, b) := by
  cases o with
  | none => cases h
  | some s =>
    cases h; cases k; rfl
theorem rc_top {S α β γ : Type} {o : Option S} {f : S → α × β} {g : S → γ} {a : α} {b : β} {c : γ} (h : o.map f = some (a, b)) (k : o.map g = some c) : o.map (fun s => ((f s).1, (f s).2, g s)) = some (a, b, c) := by
  cases o with
  | none => cases h
  | some s =>
    have h : f s = (a, b) := Option.some.inj h
    have k : g s = c := Option.some.inj k
    show some ((f s).1, (f s).2, g s) = _
    rw [h, k]
theorem run00 (w : World) : ∀ os : OsState, (endM w os).map (fun s => (seenM w s, factsK (He.frG (HandSHeadRun.getT s) asM))) = some ((true, PySem.W.openGood (PySem.W.view rowM.prog [13]) namesM), true) := by
  intro os
  kernel_rfl
theorem rc_l {S α β : Type} {o : Option S} {f : S → α} {g : S → β} {a : α} {b : β} (h : o.map (fun s => (f s, g s)) = some (a, b)) : o.map f = some a ∧ o.map g = some b := by
  cases o with
  | none => cases h
  | some s =>
    have h : (f s, g s) = (a, b) := Option.some.inj h
    exact ⟨congrArg (fun z : α × β => some z.1) h, congrArg (fun z : α × β => some z.2) h⟩
theorem run0 (w : World) (os : OsState) : (endM w os).map (seenM w) = some (true, PySem.W.openGood (PySem.W.view rowM.prog [13]) namesM) := (rc_l (run00 w os)).1
theorem runF (w : World) (os : OsState) : (endM w os).map (fun s => factsK (He.frG (HandSHeadRun.getT s) asM)) = some true := (rc_l (run00 w os)).2
theorem runD0 (w : World) : ∀ os : OsState, (endM w os).map (fun s => obsD dfns0 (He.frG (HandSHeadRun.getT s) asM)) = some (valD dfns0) := by
  intro os
  kernel_rfl
theorem runM (w : World) : HandSHeadRun.RunEq rowM (PySem.W.view rowM.prog [13]) hookM obM 40000 namesM w := by
  intro os
  have hs := run0 w os
  have hF := runF w os
  have h0 := runD0 w os
  revert hs hF h0
  show _ → _ → _ → (endM w os).map (fun s => ((seenM w s).1, (seenM w s).2, obM s)) = some (true, PySem.W.openGood (PySem.W.view rowM.prog [13]) namesM, valK)
  generalize endM w os = o
  intro hs hF h0
  exact rc_top hs (rc_pair hF (h0))
end Lw
namespace Lw
open PySem L2 Ml
structure Index where
  rows_of : (List (Str × (List Str)))
  holders : (List (Str × (List (Str × Bool))))
def m_Index___init__  : R Index :=
R.ok ((⟨([] : (List (Str × (List Str)))), ([] : (List (Str × (List (Str × Bool)))))⟩ : Index))
def m_Index_sure (v_self : Index) (v_name : Str) : R Unit :=
if (!dhas v_self.rows_of v_name) = true then (
R.need ((v_name).length ≤ sizeLine) <|
R.need ((Str.empty ++ v_name).length ≤ sizeLine) <|
R.need (((Str.empty ++ v_name) ++ (" isn't there" : Str)).length ≤ sizeLine) <|
.exc ⟨1, 0⟩) else (
R.ok (()))
def m_Index_add (v_self : Index) (v_name : Str) (v_words : (List Str)) : R Index :=
if (dhas v_self.rows_of v_name) = true then (
R.need ((v_name).length ≤ sizeLine) <|
R.need ((Str.empty ++ v_name).length ≤ sizeLine) <|
R.need (((Str.empty ++ v_name) ++ (" is there" : Str)).length ≤ sizeLine) <|
.exc ⟨1, 0⟩) else (
R.need (v_words.length < 64) <|
R.need (v_self.rows_of.length < sizeLine) <|
(dgetR (dput v_self.rows_of v_name (ssetT v_words)) v_name).bind fun y12 =>
(forR (fun (s18 : (List (Str × (List (Str × Bool))))) (x19 : Str) =>
R.need (s18.length < sizeLine) <|
R.need (((dget s18 x19).getD ([] : (List (Str × Bool)))).length < sizeLine) <|
R.ok (dput (setE s18 x19 ([] : (List (Str × Bool)))) x19 (dput ((dget s18 x19).getD ([] : (List (Str × Bool)))) v_name true))) (y12) (v_self.holders)).bind fun (s18 : (List (Str × (List (Str × Bool))))) =>
R.ok ((⟨dput v_self.rows_of v_name (ssetT v_words), s18⟩ : Index)))
def m_Index_take_out (v_self : Index) (v_name : Str) : R Index :=
(m_Index_sure v_self v_name).bind fun r4 =>
(dgetR v_self.rows_of v_name).bind fun y8 =>
(forR (fun (s12 : (List (Str × (List Str))) × (List (Str × (List (Str × Bool))))) (x13 : Str) =>
(dgetR s12.2 x13).bind fun x16 =>
(dgetR x16 v_name).bind fun y24 =>
(dgetR (dput s12.2 x13 (ddrop x16 v_name)) x13).bind fun x26 =>
(if (decide ((x26.length : Int) = 0)) = true then (
(dgetR (dput s12.2 x13 (ddrop x16 v_name)) x13).bind fun y38 =>
R.ok (ddrop (dput s12.2 x13 (ddrop x16 v_name)) x13)) else (
R.ok (dput s12.2 x13 (ddrop x16 v_name)))).bind fun (s37 : (List (Str × (List (Str × Bool))))) =>
R.ok (s12.1, s37)) (y8) (ddrop v_self.rows_of v_name, v_self.holders)).bind fun (s12 : (List (Str × (List Str))) × (List (Str × (List (Str × Bool))))) =>
R.ok ((⟨s12.1, s12.2⟩ : Index))
def m_Index_having (v_self : Index) (v_word : Str) : R ((List Str)) :=
R.need (((dget v_self.holders v_word).getD ([] : (List (Str × Bool)))).length < 64) <|
R.ok (sortT (((dget v_self.holders v_word).getD ([] : (List (Str × Bool)))).map (·.1)))
def m_Index_words (v_self : Index) (v_name : Str) : R ((List Str)) :=
(m_Index_sure v_self v_name).bind fun r4 =>
(dgetR v_self.rows_of v_name).bind fun y8 =>
R.ok (y8)
def m_Index_all_words (v_self : Index) : R ((List Str)) :=
R.need (v_self.holders.length < 64) <|
R.ok (sortT (v_self.holders.map (·.1)))
def m_law_draws (v_law_script : Script) (v_law_many : Int) : R ((List Int)) :=
R.need (-(2 ^ 62) ≤ v_law_many ∧ v_law_many < 2 ^ 62) <|
(forR (fun (s3 : (List Int) × Int) (x4 : Int) =>
(if (decide (0 < (v_law_script.ns.length : Int))) = true then (
R.need (0 < (v_law_script.ns.length : Int)) <|
(idxR v_law_script.ns (x4 % (v_law_script.ns.length : Int))).bind fun x10 =>
R.ok (x10)) else (
R.ok (0))).bind fun (s8 : Int) =>
(R.ok (((((s3.2 * 48271) + s8) + x4) + 1) % 2147483647 : Int)).bind fun y11 =>
R.need (mulOk (y11) (y11)) <|
R.need (s3.1.length < sizeLine) <|
R.ok (s3.1 ++ [(y11 * y11) % 2147483629], y11)) (rngL 0 (v_law_many).toNat) (([] : (List Int)), 7)).bind fun (s3 : (List Int) × Int) =>
R.ok (s3.1)
def m_law_name_by (v_law_shape : Int) (v_law_k : Int) : R Str :=
if (decide ((v_law_shape % 4) = 0)) = true then (
(idxR (("abcdefghijklmnopqrstuvwxyz0123456789" : Str)).cps.toList (((v_law_shape / 4) + (v_law_k / 20)) % 36)).bind fun c2 =>
R.need ((sg (c2)).length * (1 + (v_law_k % 20) : Int).toNat ≤ sizeLine ∧ -(2 ^ 62) ≤ (1 + (v_law_k % 20) : Int) ∧ (1 + (v_law_k % 20) : Int) < 2 ^ 62) <|
R.ok (repS (sg (c2)) (1 + (v_law_k % 20) : Int).toNat)) else (
(R.ok ((v_law_shape / 4) % 18 : Int)).bind fun y4 =>
R.need (0 < (19 - y4)) <|
R.need (-(2 ^ 62) ≤ ((y4 + 2) + ((v_law_shape / 72) % (19 - y4))) ∧ ((y4 + 2) + ((v_law_shape / 72) % (19 - y4))) < 2 ^ 62) <|
(forR (fun (s7 : Str) (x8 : Int) =>
(if (decide (x8 = y4)) = true then (
(idxR (("abcdefghijklmnopqrstuvwxyz0123456789" : Str)).cps.toList (((v_law_shape / 1368) + (v_law_k / 36)) % 36)).bind fun c12 =>
R.need ((s7).length + (sg (c12)).length ≤ sizeLine) <|
(R.ok (s7 ++ (sg (c12)) : Str)).bind fun y14 =>
R.ok (y14)) else (
(if (decide (x8 = (y4 + 1))) = true then (
(idxR (("abcdefghijklmnopqrstuvwxyz0123456789" : Str)).cps.toList (((v_law_shape / 49248) + v_law_k) % 36)).bind fun c16 =>
R.need ((s7).length + (sg (c16)).length ≤ sizeLine) <|
(R.ok (s7 ++ (sg (c16)) : Str)).bind fun y18 =>
R.ok (y18)) else (
R.need (mulOk (x8) (1 + (v_law_shape % 7))) <|
(idxR (("abcdefghijklmnopqrstuvwxyz0123456789" : Str)).cps.toList (((v_law_shape / 3) + (x8 * (1 + (v_law_shape % 7)))) % 36)).bind fun c20 =>
R.need ((s7).length + (sg (c20)).length ≤ sizeLine) <|
(R.ok (s7 ++ (sg (c20)) : Str)).bind fun y22 =>
R.ok (y22))).bind fun (s15 : Str) =>
R.ok (s15))).bind fun (s11 : Str) =>
R.ok (s11)) (rngL 0 ((y4 + 2) + ((v_law_shape / 72) % (19 - y4))).toNat) (("" : Str))).bind fun (s7 : Str) =>
R.ok (s7))
def m_law_pool (v_law_draws_here : (List Int)) : R ((List Str)) :=
(idxR v_law_draws_here (1)).bind fun x1 =>
(R.ok (2 + (x1 % 9) : Int)).bind fun y2 =>
R.need (-(2 ^ 62) ≤ y2 ∧ y2 < 2 ^ 62) <|
R.need ((rngL 0 (y2).toNat).length ≤ sizeLine) <|
(compR (fun (_ : Unit) (x6 : Int) =>
(idxR v_law_draws_here (0)).bind fun x9 =>
(m_law_name_by x9 x6).bind fun r10 =>
R.ok ((), some (r10))) (rngL 0 (y2).toNat) ()).bind fun (t11 : Unit × List Str) =>
R.ok (t11.2)
def m_law_is_list (v_law_found : (List Str)) (v_law_due : (List Str)) : R Bool :=
R.need (Lay.lay (v_law_found : (List Str)) = true) <|
R.need (Lay.lay (v_law_due : (List Str)) = true) <|
if (!decide ((v_law_found : (List Str)) = v_law_due)) = true then (
R.ok (false)) else (
R.need ((v_law_found).length ≤ sizeLine) <|
(compR (fun (_ : Unit) (x6 : Str) =>
R.ok ((), some (true))) (v_law_found) ()).bind fun (t9 : Unit × List Bool) =>
R.ok (t9.2.all id))
def m_law_done (v_law_index : Index) (v_law_rows : (List (Str × (List Str)))) (v_law_pool_here : (List Str)) (v_law_words : (List Str)) (v_law_draws_here : (List Int)) : R (Bool × Index × (List (Str × (List Str)))) :=
(idxR v_law_draws_here (0)).bind fun x1 =>
R.need (0 < (v_law_pool_here.length : Int)) <|
(idxR v_law_pool_here (x1 % (v_law_pool_here.length : Int))).bind fun x3 =>
R.need ((v_law_rows).length ≤ sizeLine) <|
(compR (fun (_ : Unit) (x6 : (Str × (List Str))) =>
if (decide (x6.1 = x3)) = true then (
R.ok ((), some (x6))) else R.ok ((), none)) (v_law_rows) ()).bind fun (t18 : Unit × List (Str × (List Str))) =>
R.need (Lay.lay (t18.2 : (List (Str × (List Str)))) = true) <|
R.need (Lay.lay (([] : (List (Str × (List Str)))) : (List (Str × (List Str)))) = true) <|
if (!decide ((t18.2 : (List (Str × (List Str)))) = ([] : (List (Str × (List Str)))))) = true then (
(idxR t18.2 (0)).bind fun x23 =>
R.need (Lay.lay (v_law_rows : (List (Str × (List Str)))) = true) <|
R.need (Lay.lay (x23 : (Str × (List Str))) = true) <|
R.need (x23 ∈ v_law_rows) <|
(m_Index_take_out v_law_index x3).bind fun r37 =>
R.ok ((true, r37, remP v_law_rows x23))) else (
(idxR v_law_draws_here (1)).bind fun x39 =>
R.need (-(2 ^ 62) ≤ (x39 % 7) ∧ (x39 % 7) < 2 ^ 62) <|
(forR (fun (s41 : (List Str) × Int) (x42 : Int) =>
R.need (mulOk (s41.2) (s41.2)) <|
(R.ok (((s41.2 * s41.2) % 2147483629) + 7 : Int)).bind fun y46 =>
R.need (0 < (v_law_words.length : Int)) <|
(idxR v_law_words (y46 % (v_law_words.length : Int))).bind fun x48 =>
R.need (s41.1.length < sizeLine) <|
R.ok (s41.1 ++ [x48], y46)) (rngL 0 (x39 % 7).toNat) (([] : (List Str)), x39)).bind fun (s41 : (List Str) × Int) =>
R.need (s41.1.length < 64) <|
R.need (v_law_rows.length < sizeLine) <|
(m_Index_add v_law_index x3 s41.1).bind fun r58 =>
(idxR v_law_words (0)).bind fun x59 =>
R.need (s41.1.length < sizeLine) <|
R.ok ((true, r58, v_law_rows ++ [(x3, ssetT s41.1)])))
def m_law_looked (v_law_index : Index) (v_law_rows : (List (Str × (List Str)))) (v_law_look : Int) (v_law_draw : Int) (v_law_words : (List Str)) : R (((List Str) × (List Str))) :=
if (decide (v_law_look = 0)) = true then (
R.need (0 < (v_law_words.length : Int)) <|
(idxR v_law_words (v_law_draw % (v_law_words.length : Int))).bind fun x3 =>
(m_Index_having v_law_index x3).bind fun r6 =>
R.need ((v_law_rows).length ≤ sizeLine) <|
(compR (fun (_ : Unit) (x10 : (Str × (List Str))) =>
if (decide (x3 ∈ x10.2)) = true then (
R.ok ((), some (x10.1))) else R.ok ((), none)) (v_law_rows) ()).bind fun (t28 : Unit × List Str) =>
R.ok ((r6, t28.2))) else (
(if (decide (v_law_look = 1)) = true then (
R.need (Lay.lay (v_law_rows : (List (Str × (List Str)))) = true) <|
R.need (Lay.lay (([] : (List (Str × (List Str)))) : (List (Str × (List Str)))) = true) <|
R.ok (!decide ((v_law_rows : (List (Str × (List Str)))) = ([] : (List (Str × (List Str))))))) else R.ok false).bind fun b31 =>
if b31 = true then (
R.need (0 < (v_law_rows.length : Int)) <|
(idxR v_law_rows (v_law_draw % (v_law_rows.length : Int))).bind fun x37 =>
(m_Index_words v_law_index x37.1).bind fun r54 =>
R.ok ((r54, x37.2))) else (
(forR (fun (s65 : (List Str)) (x66 : (Str × (List Str))) =>
R.need ((x66.2).length ≤ sizeLine) <|
(compR (fun (_ : Unit) (x81 : Str) =>
if (!decide (x81 ∈ s65)) = true then (
R.ok ((), some (x81))) else R.ok ((), none)) (x66.2) ()).bind fun (t85 : Unit × List Str) =>
R.need (s65.length + t85.2.length ≤ sizeLine) <|
(R.ok (s65 ++ t85.2 : (List Str))).bind fun y88 =>
R.ok (y88)) (v_law_rows) (([] : (List Str)))).bind fun (s65 : (List Str)) =>
(m_Index_all_words v_law_index).bind fun r91 =>
R.ok ((r91, s65))))
def m_law_stands (v_law_index : Index) (v_law_rows : (List (Str × (List Str)))) (v_law_words : (List Str)) (v_law_draw : Int) (v_law_held : (List ((List Str) × Str))) : R (Bool × (List ((List Str) × Str))) :=
(forF (ρ := (Bool × (List ((List Str) × Str)))) (fun (s1 : (List ((List Str) × Str))) (x2 : Int) =>
(m_law_looked v_law_index v_law_rows ((v_law_draw + x2) % 3) (v_law_draw / 3) v_law_words).bind fun r7 =>
R.need (r7.2.length < 64) <|
(m_law_is_list r7.1 (sortT r7.2)).bind fun r15 =>
if (!r15) = true then (
R.ok (.out ((false, s1)))) else (
(if (decide (((v_law_draw / 5) % 2) = 1)) = true then (
R.need (r7.1.length < sizeLine) <|
R.ok ((r7.1 ++ [("zz" : Str)], r7.2))) else (
R.ok (r7))).bind fun (s17 : ((List Str) × (List Str))) =>
R.need ((reprL s17.1).length ≤ sizeLine) <|
R.need (s1.length < sizeLine) <|
R.ok (.go (s1 ++ [(s17.1, reprL s17.1)])))) (rngL 0 4) (v_law_held)).bind (contF (fun (s1 : (List ((List Str) × Str))) =>
R.ok ((true, s1))) (fun o32 => .ok o32))
def m_law (v_law_script : Script) : R Bool :=
(m_law_draws v_law_script 60).bind fun r1 =>
(m_law_pool r1).bind fun r3 =>
(idxR r1 (4)).bind fun x5 =>
R.need (-(2 ^ 62) ≤ (2 + (x5 % 8)) ∧ (2 + (x5 % 8)) < 2 ^ 62) <|
R.need ((rngL 0 (2 + (x5 % 8)).toNat).length ≤ sizeLine) <|
(compR (fun (_ : Unit) (x9 : Int) =>
(idxR r1 (3)).bind fun x12 =>
(m_law_name_by x12 (3 + x9)).bind fun r13 =>
R.ok ((), some (r13))) (rngL 0 (2 + (x5 % 8)).toNat) ()).bind fun (t14 : Unit × List Str) =>
(idxR r1 (3)).bind fun x15 =>
(if (decide ((x15 % 5) = 1)) = true then (
(idxR r3 (0)).bind fun x17 =>
(ixR t14.2 (0)).bind fun j18 =>
R.ok (t14.2.set j18 x17)) else (
R.ok (t14.2))).bind fun (s16 : (List Str)) =>
(m_Index___init__ ).bind fun r21 =>
(m_Index___init__ ).bind fun r24 =>
(idxR r3 (0)).bind fun x27 =>
(idxR s16 (0)).bind fun x28 =>
(m_Index_add r24 x27 ([x28])).bind fun r30 =>
(idxR r1 (2)).bind fun x33 =>
R.need (-(2 ^ 62) ≤ (1 + (x33 % 14)) ∧ (1 + (x33 % 14)) < 2 ^ 62) <|
(forF (ρ := Bool) (fun (s35 : Index × (List (Str × (List Str))) × (List ((List Str) × Str))) (x36 : Int) =>
(m_law_done s35.1 s35.2.1 r3 s16 (cutL r1 (some (5 + (3 * x36))) (some (7 + (3 * x36))))).bind fun r41 =>
if (!r41.1) = true then (
R.ok (.out (false))) else (
(idxR r1 (7 + (3 * x36))).bind fun x43 =>
(m_law_stands r41.2.1 r41.2.2 s16 x43 s35.2.2).bind fun r44 =>
if (!r44.1) = true then (
R.ok (.out (false))) else (
R.ok (.go (r41.2.1, r41.2.2, r44.2))))) (rngL 0 (1 + (x33 % 14)).toNat) (r21, ([] : (List (Str × (List Str)))), ([] : (List ((List Str) × Str))))).bind (contF (fun (s35 : Index × (List (Str × (List Str))) × (List ((List Str) × Str))) =>
(idxR s16 (0)).bind fun x48 =>
(m_Index_having r30 x48).bind fun r49 =>
(idxR r3 (0)).bind fun x51 =>
R.need (Lay.lay (r49 : (List Str)) = true) <|
R.need (Lay.lay ([x51] : (List Str)) = true) <|
(if (!decide ((r49 : (List Str)) = [x51])) = true then R.ok true else (
(m_Index_all_words r30).bind fun r58 =>
(idxR s16 (0)).bind fun x60 =>
R.need (Lay.lay (r58 : (List Str)) = true) <|
R.need (Lay.lay ([x60] : (List Str)) = true) <|
R.ok (!decide ((r58 : (List Str)) = [x60])))).bind fun b55 =>
if b55 = true then (
R.ok (false)) else (
(idxR s16 (1)).bind fun x65 =>
(idxR s16 (0)).bind fun x66 =>
(if (!decide (x65 = x66)) = true then (
(idxR s16 (1)).bind fun x70 =>
(m_Index_having r30 x70).bind fun r71 =>
R.need (Lay.lay (r71 : (List Str)) = true) <|
R.need (Lay.lay (([] : (List Str)) : (List Str)) = true) <|
R.ok (!decide ((r71 : (List Str)) = ([] : (List Str))))) else R.ok false).bind fun b67 =>
if b67 = true then (
R.ok (false)) else (
R.need ((s35.2.2).length ≤ sizeLine) <|
(compR (fun (_ : Unit) (x79 : ((List Str) × Str)) =>
R.need ((reprL x79.1).length ≤ sizeLine) <|
R.ok ((), some (decide ((reprL x79.1) = x79.2)))) (s35.2.2) ()).bind fun (t92 : Unit × List Bool) =>
R.ok (t92.2.all id)))) (fun o93 => .ok o93))
end Lw
namespace Lw
open PySem L2 Ml
theorem alph_len : ("abcdefghijklmnopqrstuvwxyz0123456789" : Str).cps.toList.length = 36 := by decide +kernel
def wsg (c : Nat) : Bool := (97 ≤ c && c ≤ 122) || (48 ≤ c && c ≤ 57)
theorem wsg_lt {c : Nat} (h : wsg c = true) : c < 128 := by
  unfold wsg at h
  simp at h
  omega
theorem alph_wsg : ∀ c, c ∈ ("abcdefghijklmnopqrstuvwxyz0123456789" : Str).cps.toList → wsg c = true := by
  have : ("abcdefghijklmnopqrstuvwxyz0123456789" : Str).cps.toList.all wsg = true := by decide +kernel
  exact fun c hc => List.all_eq_true.mp this c hc
/-- word signs alone -/
def Wsg (x : Str) : Prop := ∀ c, c ∈ x.cps.toList → wsg c = true
theorem Wsg.asc {x : Str} (h : Wsg x) : Asc x := fun c hc => wsg_lt (h c hc)
theorem Wsg.app {a b : Str} (ha : Wsg a) (hb : Wsg b) : Wsg (a ++ b) := fun c hc => by
  rw [tl_app] at hc
  rcases List.mem_append.mp hc with h | h
  · exact ha c h
  · exact hb c h
theorem Wsg.sg {c : Nat} (h : wsg c = true) : Wsg (sg c) := fun d hd => by
  have : d = c := by simpa [Ml.sg] using hd
  rw [this]; exact h
theorem Wsg.lit {x : Str} (h : x.cps.toList.all wsg = true) : Wsg x := fun c hc => List.all_eq_true.mp h c hc
def isWord (s : Str) : Bool := (decide (1 ≤ s.length) && decide (s.length ≤ 20)) && s.cps.toList.all wsg
theorem isWord_iff {s : Str} : isWord s = true ↔ Wsg s ∧ 1 ≤ s.length ∧ s.length ≤ 20 := by
  unfold isWord
  simp only [Bool.and_eq_true, decide_eq_true_eq, List.all_eq_true]
  exact ⟨fun ⟨⟨a, b⟩, c⟩ => ⟨c, a, b⟩, fun ⟨c, a, b⟩ => ⟨⟨a, b⟩, c⟩⟩
section
variable {κ β : Type} [DecidableEq κ]
theorem dget_nil (k : κ) : dget ([] : List (κ × β)) k = none := rfl
theorem dget_cons (p : κ × β) (d : List (κ × β)) (k : κ) : dget (p :: d) k = if p.1 = k then some p.2 else dget d k := by
  unfold dget
  by_cases h : p.1 = k
  · rw [List.find?_cons_of_pos (by simpa using h), if_pos h]; rfl
  · rw [List.find?_cons_of_neg (by simpa using h), if_neg h]
theorem dget_none {d : List (κ × β)} {k : κ} : dget d k = none ↔ ¬ k ∈ d.map (·.1) := by
  induction d with
  | nil => simp [dget_nil]
  | cons p d ih =>
    rw [dget_cons, List.map_cons, List.mem_cons]
    by_cases h : p.1 = k
    · rw [if_pos h]; simp [h]
    · rw [if_neg h, ih]
      exact ⟨fun q z => z.elim (fun e => h e.symm) q, fun q z => q (.inr z)⟩
theorem dhas_iff {d : List (κ × β)} {k : κ} : dhas d k = true ↔ k ∈ d.map (·.1) := by
  unfold dhas
  cases c : dget d k with
  | none => simp [dget_none.mp c]
  | some y =>
    refine ⟨fun _ => Classical.byContradiction fun h => ?_, fun _ => rfl⟩
    rw [dget_none.mpr h] at c; cases c
theorem dhas_false {d : List (κ × β)} {k : κ} : dhas d k = false ↔ ¬ k ∈ d.map (·.1) := by
  rw [← dhas_iff]; simp
theorem dget_app (d e : List (κ × β)) (k : κ) : dget (d ++ e) k = (dget d k).or (dget e k) := by
  induction d with
  | nil => rfl
  | cons p d ih =>
    rw [List.cons_append, dget_cons, dget_cons, ih]
    by_cases h : p.1 = k
    · rw [if_pos h, if_pos h]; rfl
    · rw [if_neg h, if_neg h]
theorem dany_iff {d : List (κ × β)} {k : κ} : (d.any fun kv => decide (kv.1 = k)) = dhas d k := by
  rw [Bool.eq_iff_iff, dhas_iff, List.any_eq_true]
  simp only [decide_eq_true_eq, List.mem_map]
theorem dput_eq (d : List (κ × β)) (k : κ) (v : β) : dput d k v = if dhas d k = true then d.map (fun kv => if kv.1 = k then (kv.1, v) else kv) else d ++ [(k, v)] := by
  unfold dput
  rw [dany_iff]
theorem dget_put (d : List (κ × β)) (k k' : κ) (v : β) : dget (dput d k v) k' = if k = k' then some v else dget d k' := by
  rw [dput_eq]
  by_cases h : dhas d k = true
  · rw [if_pos h]
    have gen : ∀ e : List (κ × β), dget (e.map fun kv => if kv.1 = k then (kv.1, v) else kv) k' = if k = k' ∧ dhas e k = true then some v else dget e k' := by
      intro e
      induction e with
      | nil => simp [dget_nil, dhas]
      | cons p e ih =>
        rw [List.map_cons, dget_cons, dget_cons, ih]
        have hc : dhas (p :: e) k = (decide (p.1 = k) || dhas e k) := by
          unfold dhas; rw [dget_cons]
          by_cases q : p.1 = k <;> simp [q]
        rw [hc]
        by_cases q : p.1 = k
        · simp only [q, if_true, decide_true, Bool.true_or, and_true]
          by_cases z : k = k' <;> simp [z]
        · simp only [q, if_false, decide_false, Bool.false_or]
          by_cases z : p.1 = k'
          · have : ¬ k = k' := fun e => q (z.trans e.symm)
            simp [z, this]
          · simp [z]
    rw [gen]
    by_cases z : k = k'
    · subst z; rw [if_pos ⟨rfl, h⟩, if_pos rfl]
    · rw [if_neg fun q => z q.1, if_neg z]
  · rw [if_neg h, dget_app, dget_cons, dget_nil]
    by_cases z : k = k'
    · subst z
      have : dget d k = none := by
        cases c : dget d k with
        | none => rfl
        | some y => exact absurd (by unfold dhas; rw [c]; rfl) h
      rw [this, if_pos rfl]; rfl
    · rw [if_neg z, if_neg z, Option.or_none]
theorem dget_drop (d : List (κ × β)) (k k' : κ) : dget (ddrop d k) k' = if k = k' then none else dget d k' := by
  unfold ddrop
  induction d with
  | nil => simp [dget_nil]
  | cons p d ih =>
    by_cases h : p.1 = k
    · rw [List.filter_cons_of_neg (by simp [h]), ih, dget_cons]
      by_cases z : k = k'
      · simp [z]
      · rw [if_neg z, if_neg z, if_neg (fun e => z (h.symm.trans e))]
    · rw [List.filter_cons_of_pos (by simpa using h), dget_cons, ih, dget_cons]
      by_cases z : p.1 = k'
      · have : ¬ k = k' := fun e => h (z.trans e.symm)
        simp [z, this]
      · simp [z]
theorem keys_dput (d : List (κ × β)) (k : κ) (v : β) : (dput d k v).map (·.1) = if dhas d k = true then d.map (·.1) else d.map (·.1) ++ [k] := by
  rw [dput_eq]
  by_cases h : dhas d k = true
  · rw [if_pos h, if_pos h, List.map_map]
    refine List.map_congr_left fun p _ => ?_
    show (if p.1 = k then (p.1, v) else p).1 = p.1
    split <;> rfl
  · rw [if_neg h, if_neg h, List.map_append]; rfl
theorem keys_ddrop (d : List (κ × β)) (k : κ) : (ddrop d k).map (·.1) = (d.map (·.1)).filter fun x => decide (x ≠ k) := by
  unfold ddrop
  rw [List.filter_map]; rfl
theorem nodup_dput {d : List (κ × β)} (h : (d.map (·.1)).Nodup) (k : κ) (v : β) : ((dput d k v).map (·.1)).Nodup := by
  rw [keys_dput]
  by_cases c : dhas d k = true
  · rw [if_pos c]; exact h
  · rw [if_neg c, List.nodup_append]
    have c' : ¬ k ∈ d.map (·.1) := fun z => c (dhas_iff.mpr z)
    exact ⟨h, by simp, fun x hx y hy e => c' (by rw [List.mem_singleton] at hy; subst hy; subst e; exact hx)⟩
theorem nodup_ddrop {d : List (κ × β)} (h : (d.map (·.1)).Nodup) (k : κ) : ((ddrop d k).map (·.1)).Nodup := by
  rw [keys_ddrop]; exact h.filter _
theorem len_dput (d : List (κ × β)) (k : κ) (v : β) : (dput d k v).length ≤ d.length + 1 := by
  rw [dput_eq]; split
  · rw [List.length_map]; omega
  · simp
theorem dget_mem {d : List (κ × β)} {k : κ} {v : β} (h : dget d k = some v) : (k, v) ∈ d := by
  induction d with
  | nil => cases h
  | cons p d ih =>
    rw [dget_cons] at h
    by_cases c : p.1 = k
    · rw [if_pos c] at h; cases h; subst c; simp
    · rw [if_neg c] at h; exact List.mem_cons_of_mem _ (ih h)
theorem dget_of_mem {d : List (κ × β)} (n : (d.map (·.1)).Nodup) {k : κ} {v : β} (h : (k, v) ∈ d) : dget d k = some v := by
  induction d with
  | nil => cases h
  | cons p d ih =>
    rw [List.map_cons, List.nodup_cons] at n
    rw [dget_cons]
    rcases List.mem_cons.mp h with rfl | h
    · rw [if_pos rfl]
    · have : ¬ p.1 = k := fun e => n.1 (by rw [e]; exact List.mem_map.mpr ⟨(k, v), h, rfl⟩)
      rw [if_neg this]; exact ih n.2 h
theorem dgetR_ok {d : List (κ × β)} {k : κ} {v : β} (h : dget d k = some v) : dgetR d k = .ok v := by unfold dgetR; rw [h]
end
theorem nodup_lenG {α : Type} [DecidableEq α] : ∀ {xs ys : List α}, xs.Nodup → (∀ x, x ∈ xs → x ∈ ys) → xs.length ≤ ys.length
  | [], _, _, _ => Nat.zero_le _
  | x :: r, ys, d, m => by
    rw [List.nodup_cons] at d
    have hx : x ∈ ys := m x (by simp)
    have ih := nodup_lenG (xs := r) (ys := ys.erase x) d.2 fun y hy => (List.mem_erase_of_ne fun e => d.1 (by rw [← e]; exact hy)).mpr (m y (by simp [hy]))
    rw [List.length_erase_of_mem hx] at ih
    have : 0 < ys.length := List.length_pos_of_mem hx
    rw [List.length_cons]; omega
theorem sort_same {xs ys : List Str} (d : xs.Nodup) (e : ys.Nodup) (m : ∀ x, x ∈ xs ↔ x ∈ ys) : sortT xs = sortT ys := sortT_congr (perm_same d e m)
theorem rng_pre {n : Nat} {pre q : List Int} {x : Int} (e : rngL 0 n = pre ++ x :: q) : x = (pre.length : Int) ∧ pre.length < n := by
  have h1 : pre.length < (rngL 0 n).length := pre_lt e
  rw [rngL_len] at h1
  refine ⟨?_, h1⟩
  have h2 : (rngL 0 n)[pre.length]? = some x := by rw [e]; simp
  unfold rngL at h2
  rw [List.getElem?_map, List.getElem?_range h1] at h2
  simp at h2
  omega
theorem strs_lay {l : List Str} (h : ∀ x, x ∈ l → Asc x) : (Lay.lay l : Bool) = true := List.all_eq_true.mpr fun x hx => (h x hx).lay
theorem draws_ok (s : Script) {n : Int} (hn : 0 ≤ n ∧ n ≤ 400) : Ok (m_law_draws s n) fun r => (r.length : Int) = n ∧ ∀ x, x ∈ r → 0 ≤ x ∧ x < 2147483629 := by
  unfold m_law_draws
  refine .need (by omega) ?_
  refine .forI (fun pre (s : List Int × Int) => s.1.length = pre.length ∧ (∀ x, x ∈ s.1 → 0 ≤ x ∧ x < 2147483629)) ⟨rfl, by simp⟩ ?_ ?_
  · rintro p x q ⟨l, m⟩ ep ⟨hl, hx⟩
    have hp := pre_lt ep
    rw [rngL_len] at hp
    refine .bind (Q := fun _ => True) (.ite (fun c => ?_) fun _ => .ret trivial) fun c _ => .lets ?_
    · have c := of_decide_eq_true c
      exact .need c (.idx (Int.emod_nonneg _ (by omega)) (Int.emod_lt_of_pos _ c) fun _ _ _ => .ret trivial)
    dsimp only
    have hy0 : 0 ≤ (((m * 48271 + c) + x) + 1) % 2147483647 := Int.emod_nonneg _ (by decide)
    have hy1 : (((m * 48271 + c) + x) + 1) % 2147483647 < 2147483647 := Int.emod_lt_of_pos _ (by decide)
    generalize (((m * 48271 + c) + x) + 1) % 2147483647 = y at *
    have hl' : l.length = p.length := hl
    refine .need (show mulOk y y from .inl ⟨by omega, by omega⟩) (.need (lt_line (m := 1000) (by omega) (by decide)) (.ret ⟨by simp [hl'], fun z hz => ?_⟩))
    rcases List.mem_append.mp hz with h | h
    · exact hx z h
    · rw [List.mem_singleton.mp h]
      exact ⟨Int.emod_nonneg _ (by decide), Int.emod_lt_of_pos _ (by decide)⟩
  · rintro ⟨l, m⟩ ⟨hl, hx⟩
    exact .ret ⟨by rw [hl, rngL_len]; omega, hx⟩
/-- the sign of a number -/
def sgn (i : Int) : Nat := (("abcdefghijklmnopqrstuvwxyz0123456789" : Str).cps.toList).getD (i % 36).toNat 0
theorem sgn_at {ρ : Type} {P : ρ → Prop} {i : Int} {f : Nat → R ρ} (k : wsg (sgn i) = true → Ok (f (sgn i)) P) : Ok ((idxR ("abcdefghijklmnopqrstuvwxyz0123456789" : Str).cps.toList (i % 36)).bind f) P :=
  .idx (Int.emod_nonneg _ (by decide)) (by rw [alph_len]; exact Int.emod_lt_of_pos _ (by decide)) fun c m e => by
    have : sgn i = c := by unfold sgn; rw [List.getD_eq_getElem?_getD, e]; rfl
    rw [this] at k
    exact k (alph_wsg c m)
theorem sgn_inj {i : Int} {c : Nat} {n : Int} (h : sgn i = c) (hn : (List.range 36).all (fun j => decide ((("abcdefghijklmnopqrstuvwxyz0123456789" : Str).cps.toList).getD j 0 = c → (j : Int) = n)) = true) : i % 36 = n := by
  have h0 : 0 ≤ i % 36 := Int.emod_nonneg _ (by decide)
  have h1 : i % 36 < 36 := Int.emod_lt_of_pos _ (by decide)
  have := of_decide_eq_true (List.all_eq_true.mp hn (i % 36).toNat (List.mem_range.mpr (by omega))) h
  omega
/-- a name of the laws of threads -/
structure Nm (z : Str) : Prop where
  w : isWord z = true
  no : z ≠ ("zother" : Str)
  nf : z ≠ ("zfresh" : Str)
theorem Nm.asc {z : Str} (h : Nm z) : Asc z := Wsg.asc (isWord_iff.mp h.w).1
theorem Nm.len {z : Str} (h : Nm z) : 1 ≤ z.length ∧ z.length ≤ 20 := (isWord_iff.mp h.w).2
theorem zo_tl : ("zother" : Str).cps.toList = [122, 111, 116, 104, 101, 114] := by decide +kernel
theorem zf_tl : ("zfresh" : Str).cps.toList = [122, 102, 114, 101, 115, 104] := by decide +kernel
theorem rep_tl1 (c : Nat) (n : Nat) : (repS (sg c) n).cps.toList = List.replicate n c := by
  rw [rep_tl, show (sg c).cps.toList = [c] from rfl]
  induction n with
  | zero => rfl
  | succ m ih => rw [List.replicate_succ, List.flatten_cons, ih]; rfl
theorem nameBy_ok {b k : Int} (hb : 0 ≤ b ∧ b < 2147483647) (hk : 0 ≤ k ∧ k < 64) : Ok (m_law_name_by b k) Nm := by
  unfold m_law_name_by
  refine .ite (fun _ => ?_) fun _ => ?_
  · refine sgn_at fun hc => ?_
    have h0 : 0 ≤ k % 20 := Int.emod_nonneg _ (by decide)
    have h1 : k % 20 < 20 := Int.emod_lt_of_pos _ (by decide)
    generalize k % 20 = m at *
    have hl : (repS (sg (sgn (b / 4 + k / 20))) (1 + m : Int).toNat).cps.toList = List.replicate (1 + m : Int).toNat (sgn (b / 4 + k / 20)) := rep_tl1 _ _
    generalize repS (sg (sgn (b / 4 + k / 20))) (1 + m : Int).toNat = z at *
    generalize sgn (b / 4 + k / 20) = c at *
    have hz : z.length = (1 + m : Int).toNat := by rw [len_tl, hl, List.length_replicate]
    refine .need ⟨?_, by omega, by omega⟩ (.ret ⟨isWord_iff.mpr ⟨fun d hd => ?_, by omega, by omega⟩, fun e => ?_, fun e => ?_⟩)
    · have : (sg c).length = 1 := len_sg c
      rw [this]; exact le_line (by omega)
    · rw [hl] at hd; rw [(List.mem_replicate.mp hd).2]; exact hc
    · rw [e, zo_tl] at hl
      have h1 : (122 : Nat) = c := (List.mem_replicate.mp (show (122 : Nat) ∈ List.replicate (1 + m : Int).toNat c by rw [← hl]; simp)).2
      have h2 : (111 : Nat) = c := (List.mem_replicate.mp (show (111 : Nat) ∈ List.replicate (1 + m : Int).toNat c by rw [← hl]; simp)).2
      omega
    · rw [e, zf_tl] at hl
      have h1 : (122 : Nat) = c := (List.mem_replicate.mp (show (122 : Nat) ∈ List.replicate (1 + m : Int).toNat c by rw [← hl]; simp)).2
      have h2 : (102 : Nat) = c := (List.mem_replicate.mp (show (102 : Nat) ∈ List.replicate (1 + m : Int).toNat c by rw [← hl]; simp)).2
      omega
  · refine .lets ?_
    have h0 : 0 ≤ b / 4 % 18 := Int.emod_nonneg _ (by decide)
    have h1 : b / 4 % 18 < 18 := Int.emod_lt_of_pos _ (by decide)
    generalize b / 4 % 18 = pl at *
    refine .need (by omega) ?_
    have g0 : 0 ≤ b / 72 % (19 - pl) := Int.emod_nonneg _ (by omega)
    have g1 : b / 72 % (19 - pl) < 19 - pl := Int.emod_lt_of_pos _ (by omega)
    generalize b / 72 % (19 - pl) = q at *
    have d0 : 0 ≤ b % 7 := Int.emod_nonneg _ (by decide)
    have d1 : b % 7 < 7 := Int.emod_lt_of_pos _ (by decide)
    generalize b % 7 = d at *
    refine .need (by omega) ?_
    refine .forI (fun pre (s : Str) => Wsg s ∧ s.cps.toList.length = pre.length ∧ ∀ t : Nat, t < pre.length → (t : Int) ≠ pl → (t : Int) ≠ pl + 1 → s.cps.toList[t]? = some (sgn (b / 3 + (t : Int) * (1 + d)))) ⟨Wsg.lit (by decide +kernel), rfl, fun t ht => absurd ht (by simp)⟩ ?_ ?_
    · rintro p x r s ep ⟨hs, hl, ht⟩
      have hp := pre_lt ep
      rw [rngL_len] at hp
      have hx : x = (p.length : Int) := by exact (rng_pre ep).1
      have hl2 : s.length = p.length := by rw [len_tl, hl]
      have app1 : ∀ {c : Nat}, wsg c = true → ((p.length : Int) ≠ pl → (p.length : Int) ≠ pl + 1 → c = sgn (b / 3 + (p.length : Int) * (1 + d))) → Ok (R.need ((s).length + (sg (c)).length ≤ sizeLine) <| (R.ok (s ++ (sg (c)) : Str)).bind fun y19 => R.ok (y19)) (fun s : Str => Wsg s ∧ s.cps.toList.length = (p ++ [x]).length ∧ ∀ t : Nat, t < (p ++ [x]).length → (t : Int) ≠ pl → (t : Int) ≠ pl + 1 → s.cps.toList[t]? = some (sgn (b / 3 + (t : Int) * (1 + d)))) := fun {c} hc hcc =>
        .need (le_line (by rw [len_sg]; omega)) (.lets (.ret ⟨hs.app (Wsg.sg hc), by rw [tl_app, List.length_append, hl, List.length_append]; rfl, fun t h1 h2 h3 => by
          rw [tl_app]
          rw [List.length_append] at h1
          by_cases e : t < p.length
          · rw [List.getElem?_append_left (by omega)]; exact ht t e h2 h3
          · have e : t = p.length := by have : [x].length = 1 := rfl; omega
            subst e
            rw [List.getElem?_append_right (by omega), hl, Nat.sub_self, ← hcc h2 h3]; rfl⟩))
      refine .bind (Q := fun s : Str => Wsg s ∧ s.cps.toList.length = (p ++ [x]).length ∧ ∀ t : Nat, t < (p ++ [x]).length → (t : Int) ≠ pl → (t : Int) ≠ pl + 1 → s.cps.toList[t]? = some (sgn (b / 3 + (t : Int) * (1 + d)))) (.ite (fun c => ?_) fun c1 => ?_) fun s hs => .ret hs
      · exact sgn_at fun hc => app1 hc fun h => absurd (by rw [← hx]; exact of_decide_eq_true c) h
      · refine .bind (Q := fun s : Str => Wsg s ∧ s.cps.toList.length = (p ++ [x]).length ∧ ∀ t : Nat, t < (p ++ [x]).length → (t : Int) ≠ pl → (t : Int) ≠ pl + 1 → s.cps.toList[t]? = some (sgn (b / 3 + (t : Int) * (1 + d)))) (.ite (fun c => ?_) fun c2 => ?_) fun s hs => .ret hs
        · exact sgn_at fun hc => app1 hc fun _ h => absurd (by rw [← hx]; exact of_decide_eq_true c) h
        · refine .need (show mulOk x (1 + d) from .inl ⟨by omega, by omega⟩) (sgn_at fun hc => app1 hc fun _ _ => by rw [hx])
    · rintro s ⟨hs, hl, ht⟩
      rw [rngL_len] at hl ht
      have hsl : s.length = (pl + 2 + q).toNat := by rw [len_tl, hl]
      refine .ret ⟨isWord_iff.mpr ⟨hs, by omega, by omega⟩, fun e => ?_, fun e => ?_⟩
      · rw [e, zo_tl] at hl ht
        have hl : 6 = (pl + 2 + q).toNat := hl
        by_cases c : pl ≤ 1
        · have a3 := ht 3 (by omega) (by omega) (by omega)
          have a4 := ht 4 (by omega) (by omega) (by omega)
          have b3 := sgn_inj (n := 7) (Option.some.inj a3).symm (by decide +kernel)
          have b4 := sgn_inj (n := 4) (Option.some.inj a4).symm (by decide +kernel)
          omega
        · have a3 := ht 0 (by omega) (by omega) (by omega)
          have a4 := ht 1 (by omega) (by omega) (by omega)
          have b3 := sgn_inj (n := 25) (Option.some.inj a3).symm (by decide +kernel)
          have b4 := sgn_inj (n := 14) (Option.some.inj a4).symm (by decide +kernel)
          omega
      · rw [e, zf_tl] at hl ht
        have hl : 6 = (pl + 2 + q).toNat := hl
        by_cases c : pl ≤ 1
        · have a3 := ht 3 (by omega) (by omega) (by omega)
          have a4 := ht 4 (by omega) (by omega) (by omega)
          have b3 := sgn_inj (n := 4) (Option.some.inj a3).symm (by decide +kernel)
          have b4 := sgn_inj (n := 18) (Option.some.inj a4).symm (by decide +kernel)
          omega
        · have a3 := ht 0 (by omega) (by omega) (by omega)
          have a4 := ht 1 (by omega) (by omega) (by omega)
          have b3 := sgn_inj (n := 25) (Option.some.inj a3).symm (by decide +kernel)
          have b4 := sgn_inj (n := 5) (Option.some.inj a4).symm (by decide +kernel)
          omega
theorem dput_new {κ β : Type} [DecidableEq κ] {d : List (κ × β)} {k : κ} {v : β} (h : dhas d k = false) : dput d k v = d ++ [(k, v)] := by
  rw [dput_eq, if_neg (by rw [h]; decide)]
theorem has_of {κ β : Type} [DecidableEq κ] {d : List (κ × β)} {k : κ} {v : β} (h : dget d k = some v) : dhas d k = true := by unfold dhas; rw [h]; rfl
theorem sort_one (x : Str) : sortT [x] = [x] := by
  have := sortT_perm [x]
  exact List.perm_singleton.mp this
theorem setE_get {κ β : Type} [DecidableEq κ] (d : List (κ × β)) (k v : κ) (z y : β) : dget (dput (setE d k z) k y) v = if k = v then some y else dget d v := by
  rw [dget_put]
  by_cases c : k = v
  · rw [if_pos c, if_pos c]
  · rw [if_neg c, if_neg c]
    unfold setE
    split
    · rfl
    · rw [dget_app, dget_cons, if_neg c, dget_nil, Option.or_none]
theorem setE_nodup {κ β : Type} [DecidableEq κ] {d : List (κ × β)} (h : (d.map (·.1)).Nodup) (k : κ) (z : β) : ((setE d k z).map (·.1)).Nodup := by
  unfold setE
  by_cases c : dhas d k = true
  · rw [if_pos c]; exact h
  · rw [if_neg c]
    have := nodup_dput h k z
    rw [dput_eq, if_neg c] at this
    exact this
theorem setE_len {κ β : Type} [DecidableEq κ] (d : List (κ × β)) (k : κ) (z y : β) : (dput (setE d k z) k y).length ≤ d.length + 1 := by
  by_cases c : dhas d k = true
  · have : setE d k z = d := by unfold setE; rw [if_pos c]
    rw [this]; exact len_dput d k y
  · have e : setE d k z = d ++ [(k, z)] := by unfold setE; rw [if_neg c]
    have hh : dhas (setE d k z) k = true := by rw [e, dhas_iff]; simp
    rw [dput_eq, if_pos hh, List.length_map, e, List.length_append]
    exact Nat.le_refl _
theorem line9 {n : Nat} (h : n ≤ 900) : n < sizeLine := lt_line (m := 900) h (by decide)
theorem ddrop_no {κ β : Type} [DecidableEq κ] {d : List (κ × β)} {k : κ} (h : dhas d k = false) : ddrop d k = d := by
  unfold ddrop
  exact List.filter_eq_self.mpr fun p hp => decide_eq_true fun e => dhas_false.mp h (List.mem_map.mpr ⟨p, hp, e⟩)
theorem mem_ddrop {κ β : Type} [DecidableEq κ] {d : List (κ × β)} {k : κ} {p : κ × β} : p ∈ ddrop d k ↔ p ∈ d ∧ p.1 ≠ k := by
  unfold ddrop
  rw [List.mem_filter, decide_eq_true_eq]
abbrev Rx := List (Str × List Str)
def fw (D : Rx) (w : Str) : List (Str × Bool) := (D.filter fun r => decide (w ∈ r.2)).map fun r => (r.1, true)
structure IH (D : Rx) (I : Index) : Prop where
  go : I.rows_of = D
  nd : (D.map (·.1)).Nodup
  wd : ∀ r, r ∈ D → r.2.Nodup
  hk : (I.holders.map (·.1)).Nodup
  hg : ∀ w, dget I.holders w = if fw D w = [] then none else some (fw D w)
theorem ih0 : IH [] (⟨[], []⟩ : Index) := ⟨rfl, List.nodup_nil, (fun _ h => nomatch h), List.nodup_nil, fun _ => rfl⟩
theorem fw_keys (D : Rx) (w : Str) : (fw D w).map (·.1) = (D.filter fun r => decide (w ∈ r.2)).map (·.1) := by unfold fw; rw [List.map_map]; rfl
theorem fw_len (D : Rx) (w : Str) : (fw D w).length ≤ D.length := by unfold fw; rw [List.length_map]; exact List.length_filter_le ..
theorem fw_app (D : Rx) (n : Str) (l : List Str) (w : Str) : fw (D ++ [(n, l)]) w = if w ∈ l then fw D w ++ [(n, true)] else fw D w := by
  unfold fw
  rw [List.filter_append, List.map_append]
  by_cases c : w ∈ l
  · rw [if_pos c, List.filter_cons_of_pos (by simp [c])]; rfl
  · rw [if_neg c, List.filter_cons_of_neg (by simp [c])]; simp
theorem fw_no {D : Rx} {n : Str} (h : dhas D n = false) (w : Str) : dhas (fw D w) n = false := by
  rw [dhas_false, fw_keys]
  intro q
  obtain ⟨r, hr, e⟩ := List.mem_map.mp q
  exact dhas_false.mp h (List.mem_map.mpr ⟨r, (List.mem_filter.mp hr).1, e⟩)
theorem fw_drop (D : Rx) (n w : Str) : fw (ddrop D n) w = ddrop (fw D w) n := by
  unfold fw ddrop
  rw [List.filter_map, List.filter_filter, List.filter_filter]
  congr 1
  refine List.filter_congr fun r _ => ?_
  show (decide (w ∈ r.2) && decide (r.1 ≠ n)) = (decide (r.1 ≠ n) && decide (w ∈ r.2))
  exact Bool.and_comm _ _
theorem iget {D : Rx} {I : Index} (h : IH D I) (w : Str) : (dget I.holders w).getD [] = fw D w := by
  rw [h.hg]
  by_cases c : fw D w = []
  · rw [if_pos c, c]; rfl
  · rw [if_neg c]; rfl
theorem fw_in {D : Rx} {w : Str} (h : fw D w ≠ []) : ∃ r, r ∈ D ∧ w ∈ r.2 := by
  cases q : D.filter (fun r => decide (w ∈ r.2)) with
  | nil => exact absurd (by unfold fw; rw [q]; rfl) h
  | cons r l =>
    have hr : r ∈ D.filter (fun r => decide (w ∈ r.2)) := by rw [q]; simp
    obtain ⟨h1, h2⟩ := List.mem_filter.mp hr
    exact ⟨r, h1, of_decide_eq_true h2⟩
theorem in_fw {D : Rx} {w : Str} {r : Str × List Str} (h : r ∈ D) (k : w ∈ r.2) : fw D w ≠ [] := fun e => by
  have : (r.1, true) ∈ fw D w := List.mem_map.mpr ⟨r, List.mem_filter.mpr ⟨h, decide_eq_true k⟩, rfl⟩
  rw [e] at this; cases this
/-- the words that names have -/
theorem IH.keys {D : Rx} {I : Index} (h : IH D I) (w : Str) : w ∈ I.holders.map (·.1) ↔ ∃ r, r ∈ D ∧ w ∈ r.2 := by
  rw [← dhas_iff]
  unfold dhas
  rw [h.hg]
  by_cases c : fw D w = []
  · rw [if_pos c]
    exact ⟨(fun z => by cases z), fun ⟨r, h1, h2⟩ => absurd c (in_fw h1 h2)⟩
  · rw [if_neg c]
    exact ⟨fun _ => fw_in c, fun _ => rfl⟩
theorem IH.few {D : Rx} {I : Index} (h : IH D I) {ws : List Str} (s : ∀ r, r ∈ D → ∀ w, w ∈ r.2 → w ∈ ws) : I.holders.length ≤ ws.length := by
  have : (I.holders.map (·.1)).length ≤ ws.length := nodup_lenG h.hk fun w hw => by
    obtain ⟨r, h1, h2⟩ := (h.keys w).mp hw
    exact s r h1 w h2
  rw [List.length_map] at this
  exact this
theorem xsure_ok {D : Rx} {I : Index} (h : IH D I) {n : Str} (c : dhas D n = true) : m_Index_sure I n = .ok () := by
  unfold m_Index_sure
  rw [h.go, c]; rfl
theorem xadd_ok {D : Rx} {I : Index} (h : IH D I) (lim : D.length ≤ 100) (many : I.holders.length ≤ 500) {n : Str} {l : List Str} (hn : dhas D n = false) (hl : l.length < 64) : Ok (m_Index_add I n l) fun J => IH (D ++ [(n, ssetT l)]) J := by
  have hh : dhas I.rows_of n = false := by rw [h.go]; exact hn
  unfold m_Index_add
  refine .ifF (by rw [hh]; decide) (.need hl (.need (line9 (by rw [h.go]; omega)) ?_))
  have e1 : dput I.rows_of n (ssetT l) = D ++ [(n, ssetT l)] := by rw [dput_new hh, h.go]
  refine .bindE (dgetR_ok (v := ssetT l) (by rw [dget_put, if_pos rfl])) ?_
  have nr : (ssetT l).Nodup := ssetT_nodup _
  have ln : (ssetT l).length ≤ l.length := nodup_lenG nr fun w hw => mem_ssetT.mp hw
  refine .forI (fun p (S : List (Str × List (Str × Bool))) => (S.map (·.1)).Nodup ∧ S.length ≤ I.holders.length + p.length ∧ ∀ v, dget S v = if v ∈ p then some (dput ((dget I.holders v).getD []) n true) else dget I.holders v) ⟨h.hk, Nat.le_refl _, fun v => by simp⟩ ?_ ?_
  · rintro p x q S ep ⟨h1, h2, h3⟩
    have hp := pre_lt ep
    have hx : ¬ x ∈ p := fun m => by
      rw [ep] at nr
      exact (List.nodup_append.mp nr).2.2 x m x (by simp) rfl
    have gx : dget S x = dget I.holders x := by rw [h3, if_neg hx]
    have lh : ((dget I.holders x).getD []).length ≤ 100 := by rw [iget h]; have := fw_len D x; omega
    refine .need (line9 (by omega)) (.need (line9 (by rw [gx]; omega)) (.ret ⟨nodup_dput (setE_nodup h1 _ _) _ _, ?_, fun v => ?_⟩))
    · have := setE_len S x [] (dput ((dget S x).getD ([] : (List (Str × Bool)))) n true)
      rw [List.length_append]
      have : [x].length = 1 := rfl
      omega
    · rw [setE_get, gx]
      by_cases c : x = v
      · subst c; rw [if_pos rfl, if_pos (by simp)]
      · have c2 : ¬ v = x := fun e => c e.symm
        rw [if_neg c, h3]
        by_cases d : v ∈ p
        · rw [if_pos d, if_pos (by simp [d])]
        · rw [if_neg d, if_neg (by simp [d, c2])]
  · rintro S ⟨h1, h2, h3⟩
    have nd : ((D ++ [(n, ssetT l)]).map (·.1)).Nodup := by rw [← dput_new hn]; exact nodup_dput h.nd _ _
    refine .ret ⟨e1, nd, fun r hr => ?_, h1, fun w => ?_⟩
    · rcases List.mem_append.mp hr with q | q
      · exact h.wd r q
      · rw [List.mem_singleton.mp q]; exact nr
    · show dget S w = _
      rw [h3, iget h, fw_app]
      by_cases c : w ∈ ssetT l
      · rw [if_pos c, if_pos c, if_neg (by simp), dput_new (fw_no hn w)]
      · rw [if_neg c, if_neg c, h.hg]
theorem xtake_ok {D : Rx} {I : Index} (h : IH D I) {n : Str} {l : List Str} (hn : dget D n = some l) : Ok (m_Index_take_out I n) fun J => IH (ddrop D n) J := by
  have hm : (n, l) ∈ D := dget_mem hn
  have gr : dget I.rows_of n = some l := by rw [h.go]; exact hn
  unfold m_Index_take_out
  refine .bindE (xsure_ok h (has_of hn)) (.bindE (dgetR_ok gr) ?_)
  have nr : l.Nodup := h.wd _ hm
  have flag : ∀ w, w ∈ l → dget (fw D w) n = some true := fun w hw => by
    refine dget_of_mem ?_ (List.mem_map.mpr ⟨(n, l), List.mem_filter.mpr ⟨hm, decide_eq_true hw⟩, rfl⟩)
    rw [fw_keys]; exact h.nd.sublist (List.filter_sublist.map _)
  refine .forI (fun p (s : (List (Str × (List Str))) × (List (Str × (List (Str × Bool))))) => s.1 = ddrop I.rows_of n ∧ (s.2.map (·.1)).Nodup ∧ ∀ v, dget s.2 v = if v ∈ p then (if ddrop (fw D v) n = [] then none else some (ddrop (fw D v) n)) else dget I.holders v) ⟨rfl, h.hk, fun v => by simp⟩ ?_ ?_
  · rintro p x q ⟨R0, S⟩ ep ⟨h0, h1, h3⟩
    have hx : ¬ x ∈ p := fun m => by
      rw [ep] at nr
      exact (List.nodup_append.mp nr).2.2 x m x (by simp) rfl
    have hxl : x ∈ l := by rw [ep]; simp
    have gx : dget S x = dget I.holders x := (h3 x).trans (if_neg hx)
    have gn := flag x hxl
    have fne : fw D x ≠ [] := fun e => by rw [e] at gn; cases gn
    have gy2 : dget S x = some (fw D x) := by rw [gx, h.hg, if_neg fne]
    refine .bindE (dgetR_ok gy2) (.bindE (dgetR_ok gn) ?_)
    have g4 : dget (dput S x (ddrop (fw D x) n)) x = some (ddrop (fw D x) n) := by rw [dget_put, if_pos rfl]
    refine .bindE (dgetR_ok g4) ?_
    refine .bind (Q := fun S' => (S'.map (·.1)).Nodup ∧ ∀ v, dget S' v = if x = v then (if ddrop (fw D x) n = [] then none else some (ddrop (fw D x) n)) else dget S v) (.ite (fun c => ?_) fun c => ?_) fun S' ⟨n1, n2⟩ => .ret ⟨h0, n1, fun v => ?_⟩
    · have c : ddrop (fw D x) n = [] := List.length_eq_zero_iff.mp (by have := of_decide_eq_true c; omega)
      refine .bindE (dgetR_ok g4) (.ret ⟨nodup_ddrop (nodup_dput h1 _ _) _, fun v => ?_⟩)
      rw [dget_drop]
      by_cases d : x = v
      · rw [if_pos d, if_pos d, if_pos c]
      · rw [if_neg d, if_neg d, dget_put, if_neg d]
    · have c : ¬ ddrop (fw D x) n = [] := fun e => c (by rw [e]; rfl)
      refine .ret ⟨nodup_dput h1 _ _, fun v => ?_⟩
      rw [dget_put]
      by_cases d : x = v
      · rw [if_pos d, if_pos d, if_neg c]
      · rw [if_neg d, if_neg d]
    · rw [n2]
      by_cases d : x = v
      · subst d
        rw [if_pos rfl, if_pos (List.mem_append.mpr (.inr (List.mem_singleton.mpr rfl)))]
      · have d2 : ¬ v = x := fun e => d e.symm
        rw [if_neg d]
        show dget S v = _
        rw [show dget S v = _ from h3 v]
        by_cases e : v ∈ p
        · rw [if_pos e, if_pos (List.mem_append.mpr (.inl e))]
        · rw [if_neg e, if_neg (fun q => (List.mem_append.mp q).elim e fun z => d2 (List.mem_singleton.mp z))]
  · rintro ⟨R0, S⟩ ⟨h0, h1, h3⟩
    have h0 : R0 = ddrop I.rows_of n := h0
    refine .ret ⟨by show R0 = _; rw [h0, h.go], nodup_ddrop h.nd n, fun r hr => h.wd r (mem_ddrop.mp hr).1, h1, fun w => ?_⟩
    show dget S w = _
    rw [show dget S w = _ from h3 w, fw_drop]
    by_cases c : w ∈ l
    · rw [if_pos c]
    · rw [if_neg c, h.hg, ddrop_no (dhas_false.mpr fun q => ?_)]
      rw [fw_keys] at q
      obtain ⟨r, hr, e⟩ := List.mem_map.mp q
      obtain ⟨r1, r2⟩ := List.mem_filter.mp hr
      have := dget_of_mem h.nd (k := r.1) (v := r.2) r1
      rw [e, hn] at this
      exact c (by rw [Option.some.inj this]; exact of_decide_eq_true r2)
theorem xwords_ok {D : Rx} {I : Index} (h : IH D I) {n : Str} {l : List Str} (hn : dget D n = some l) : m_Index_words I n = .ok l := by
  unfold m_Index_words
  rw [xsure_ok h (has_of hn), R.bind_ok, h.go, dgetR_ok hn]; rfl
theorem xhaving_ok {D : Rx} {I : Index} (h : IH D I) (lim : D.length ≤ 60) (w : Str) : m_Index_having I w = .ok (sortT ((fw D w).map (·.1))) := by
  have l := fw_len D w
  unfold m_Index_having
  rw [iget h, R.need_pos (by omega)]
theorem xall_ok {I : Index} (many : I.holders.length < 64) : m_Index_all_words I = .ok (sortT (I.holders.map (·.1))) := by
  unfold m_Index_all_words
  rw [R.need_pos many]
theorem fm_y {α β : Type} {f : α → Option β} {x : α} {l : List α} {b : β} (h : f x = some b) : (x :: l).filterMap f = b :: l.filterMap f := List.filterMap_cons_some h
theorem fm_n {α β : Type} {f : α → Option β} {x : α} {l : List α} (h : f x = none) : (x :: l).filterMap f = l.filterMap f := List.filterMap_cons_none h
theorem one_at {β : Type} {D : List (Str × β)} (nd : (D.map (·.1)).Nodup) {x : Str} {a : β} (h : dget D x = some a) : (D.filterMap fun r => if r.1 = x then some r else none) = [(x, a)] := by
  induction D with
  | nil => cases h
  | cons r D ih =>
    rw [List.map_cons, List.nodup_cons] at nd
    rw [dget_cons] at h
    by_cases c : r.1 = x
    · rw [if_pos c] at h
      cases h
      have none1 : ∀ q, q ∈ D → ¬ q.1 = x := fun q hq e => nd.1 (by rw [c, ← e]; exact List.mem_map.mpr ⟨q, hq, rfl⟩)
      have e2 : (D.filterMap fun r => if r.1 = x then some r else none) = [] := List.filterMap_eq_nil_iff.mpr fun q hq => if_neg (none1 q hq)
      rw [fm_y (f := fun r : Str × β => if r.1 = x then some r else none) (b := r) (if_pos c), e2, ← c]
    · rw [if_neg c] at h
      rw [fm_n (f := fun r : Str × β => if r.1 = x then some r else none) (if_neg c)]
      exact ih nd.2 h
theorem none_at {β : Type} {D : List (Str × β)} {x : Str} (h : dget D x = none) : (D.filterMap fun r => if r.1 = x then some r else none) = [] :=
  List.filterMap_eq_nil_iff.mpr fun q hq => if_neg fun e => dget_none.mp h (List.mem_map.mpr ⟨q, hq, e⟩)
theorem remP_drop {β : Type} [DecidableEq β] {n : Str} {a : β} : ∀ {D : List (Str × β)}, (D.map (·.1)).Nodup → dget D n = some a → remP D (n, a) = ddrop D n
  | [], _, h => by cases h
  | r :: D, nd, h => by
    rw [List.map_cons, List.nodup_cons] at nd
    rw [dget_cons] at h
    have ih := remP_drop (n := n) (a := a) (D := D) nd.2
    unfold remP at *
    unfold ddrop at *
    rw [List.findIdx_cons]
    by_cases c : r.1 = n
    · rw [if_pos c] at h
      have e : r = (n, a) := Prod.ext c (Option.some.inj h)
      have f : (D.filter fun kv => decide (kv.1 ≠ n)) = D := List.filter_eq_self.mpr fun y hy => decide_eq_true fun z => nd.1 (by rw [c, ← z]; exact List.mem_map.mpr ⟨y, hy, rfl⟩)
      rw [List.filter_cons_of_neg (by simp [c]), f, decide_eq_true e]; rfl
    · rw [if_neg c] at h
      rw [List.filter_cons_of_pos (by simp [c]), decide_eq_false (fun e => c (by rw [e])), ← ih h]; rfl
structure G25 (ns ws : List Str) (D : Rx) : Prop where
  nd : (D.map (·.1)).Nodup
  sub : ∀ r, r ∈ D → r.1 ∈ ns ∧ (∀ w, w ∈ r.2 → w ∈ ws) ∧ (∃ l, r.2 = ssetT l) ∧ r.2.length ≤ 6
  nm : ∀ n, n ∈ ns → Nm n
  wm : ∀ n, n ∈ ws → Nm n
  few : ns.length ≤ 10
  wfew : ws.length ≤ 9
theorem G25.len {ns ws : List Str} {D : Rx} (h : G25 ns ws D) : D.length ≤ 10 := by
  have := nodup_lenG h.nd fun n hn => by
    obtain ⟨r, hr, e⟩ := List.mem_map.mp hn
    rw [← e]; exact (h.sub r hr).1
  have := h.few
  rw [List.length_map] at *
  omega
theorem G25.lay {ns ws : List Str} {D E : Rx} (h : G25 ns ws D) (s : ∀ r, r ∈ E → r ∈ D) : (Lay.lay E : Bool) = true := List.all_eq_true.mpr fun r hr => by
  obtain ⟨a, b, _, _⟩ := h.sub r (s r hr)
  show (Lay.lay r.1 && Lay.lay r.2) = true
  rw [(h.nm _ a).asc.lay, strs_lay fun w hw => (h.wm w (b w hw)).asc]; rfl
theorem G25.hold {ns ws : List Str} {D : Rx} (g : G25 ns ws D) {I : Index} (h : IH D I) : I.holders.length ≤ 9 := Nat.le_trans (h.few fun r hr => (g.sub r hr).2.1) g.wfew
theorem mine_ok {ws : List Str} (lw : 2 ≤ ws.length ∧ ws.length ≤ 9) {d : Int} (hd : 0 ≤ d ∧ d < 2147483629 + 10) {ρ : Type} {P : ρ → Prop} {k : List Str × Int → R ρ} (hk : ∀ s : List Str × Int, s.1.length ≤ 6 → (∀ w, w ∈ s.1 → w ∈ ws) → Ok (k s) P) :
    Ok ((forR (fun (s41 : (List Str) × Int) (x42 : Int) =>
R.need (mulOk (s41.2) (s41.2)) <|
(R.ok (((s41.2 * s41.2) % 2147483629) + 7 : Int)).bind fun y46 =>
R.need (0 < (ws.length : Int)) <|
(idxR ws (y46 % (ws.length : Int))).bind fun x48 =>
R.need (s41.1.length < sizeLine) <|
R.ok (s41.1 ++ [x48], y46)) (rngL 0 (d % 7).toNat) (([] : (List Str)), d)).bind k) P := by
  refine .forI (fun p (s : List Str × Int) => s.1.length = p.length ∧ (∀ w, w ∈ s.1 → w ∈ ws) ∧ 0 ≤ s.2 ∧ s.2 < 2147483629 + 10) ⟨rfl, (fun _ h => nomatch h), hd.1, hd.2⟩ ?_ ?_
  · rintro p x q ⟨l, m⟩ ep ⟨h1, h2, h3, h4⟩
    have hp := pre_lt ep
    rw [rngL_len] at hp
    dsimp only at h1 h2 h3 h4 ⊢
    refine .need (show mulOk m m from .inl ⟨by omega, by omega⟩) (.lets ?_)
    have y0 : 0 ≤ m * m % 2147483629 := Int.emod_nonneg _ (by decide)
    have y1 : m * m % 2147483629 < 2147483629 := Int.emod_lt_of_pos _ (by decide)
    generalize m * m % 2147483629 = y at *
    refine .need (by omega) (.idx (Int.emod_nonneg _ (by omega)) (Int.emod_lt_of_pos _ (by omega)) fun w hw _ => .need (line9 (by omega)) (.ret ⟨by dsimp only; rw [List.length_append, List.length_append, h1]; rfl, fun v hv => ?_, by dsimp only; omega, by dsimp only; omega⟩))
    rcases List.mem_append.mp hv with q | q
    · exact h2 v q
    · rw [List.mem_singleton.mp q]; exact hw
  · rintro ⟨l, m⟩ ⟨h1, h2, _, _⟩
    rw [rngL_len] at h1
    exact hk _ (by omega) h2
theorem done_ok {ns ws : List Str} {D : Rx} {I : Index} (h : IH D I) (g : G25 ns ws D) (ln : 2 ≤ ns.length) (lw : 2 ≤ ws.length) {dr : List Int} (ld : dr.length = 2) (hd : ∀ x, x ∈ dr → 0 ≤ x ∧ x < 2147483629) : Ok (m_law_done I D ns ws dr) fun r => r.1 = true ∧ IH r.2.2 r.2.1 ∧ G25 ns ws r.2.2 := by
  have lD := g.len
  have few := g.few
  have hh := g.hold h
  unfold m_law_done
  refine .idx (by decide) (by omega) fun x1 _ _ => .need (by omega) (.idx (Int.emod_nonneg _ (by omega)) (Int.emod_lt_of_pos _ (by omega)) fun n hn _ => .need (le_line (by omega)) ?_)
  refine .compF (fun r => if r.1 = n then some r else none) (fun r _ => .ite (fun c => .ret (by rw [if_pos (of_decide_eq_true c)])) fun c => .ret (by rw [if_neg (fun z => c (decide_eq_true z))])) ?_
  dsimp only
  cases hx : dget D n with
  | none =>
    rw [none_at hx]
    refine .need rfl (.need rfl (.ifF (by decide) (.idx (by decide) (by omega) fun x39 h39 _ => .need (by have := hd x39 h39; omega) ?_)))
    refine mine_ok ⟨lw, g.wfew⟩ ⟨(hd x39 h39).1, by have := (hd x39 h39).2; omega⟩ fun s hl hs => ?_
    have hno : dhas D n = false := by unfold dhas; rw [hx]; rfl
    refine .need (by omega) (.need (line9 (by omega)) (.bind (xadd_ok h (by omega) (by omega) (n := n) (l := s.1) hno (by omega)) fun J hJ => .idx (by decide) (by omega) fun _ _ _ => .need (line9 (by omega)) (.ret ⟨rfl, hJ, hJ.nd, fun r hr => ?_, g.nm, g.wm, g.few, g.wfew⟩)))
    rcases List.mem_append.mp hr with q | q
    · exact g.sub r q
    · rw [List.mem_singleton.mp q]
      refine ⟨hn, fun w hw => hs w (mem_ssetT.mp hw), ⟨_, rfl⟩, ?_⟩
      have : (ssetT s.1).length ≤ s.1.length := nodup_lenG (ssetT_nodup _) fun w hw => mem_ssetT.mp hw
      exact Nat.le_trans this hl
  | some a =>
    have hm : (n, a) ∈ D := dget_mem hx
    obtain ⟨s1, s2, _, _⟩ := g.sub _ hm
    rw [one_at h.nd hx]
    have ly : (Lay.lay ([(n, a)] : Rx) : Bool) = true := g.lay fun r hr => by rw [List.mem_singleton.mp hr]; exact hm
    have ne : (!decide (([(n, a)] : Rx) = [])) = true := by rw [decide_eq_false (by simp)]; rfl
    refine .need ly (.need rfl (.ifT ne (.bindE (a := (n, a)) rfl ?_)))
    refine .need (g.lay fun r hr => hr) (.need (by show (Lay.lay n && Lay.lay a) = true; rw [(g.nm n hn).asc.lay, strs_lay fun w hw => (g.wm w (s2 w hw)).asc]; rfl) (.need hm ?_))
    rw [remP_drop h.nd hx]
    refine .bind (xtake_ok h hx) fun J hJ => .ret ⟨rfl, hJ, hJ.nd, fun r hr => g.sub r (mem_ddrop.mp hr).1, g.nm, g.wm, g.few, g.wfew⟩
theorem due_eq (D : Rx) (w : Str) : (D.filterMap fun r => if w ∈ r.2 then some r.1 else none) = (fw D w).map (·.1) := by
  rw [fw_keys]
  induction D with
  | nil => rfl
  | cons r D ih =>
    by_cases c : w ∈ r.2
    · rw [fm_y (f := fun r : Str × List Str => if w ∈ r.2 then some r.1 else none) (b := r.1) (if_pos c), List.filter_cons_of_pos (by simp [c]), ih]; rfl
    · rw [fm_n (f := fun r : Str × List Str => if w ∈ r.2 then some r.1 else none) (if_neg c), List.filter_cons_of_neg (by simp [c]), ih]
theorem looked_ok {ns ws : List Str} {D : Rx} {I : Index} (h : IH D I) (g : G25 ns ws D) (lw : 2 ≤ ws.length) (w d : Int) : Ok (m_law_looked I D w d ws) fun r => r.1 = sortT r.2 ∧ r.2.length ≤ 20 ∧ ∀ x, x ∈ r.1 → Nm x := by
  have lD := g.len
  have hh := g.hold h
  have wf := g.wfew
  unfold m_law_looked
  refine .ite (fun _ => ?_) fun _ => .bind (Q := fun b => b = true → D ≠ []) (.ite (fun _ => .need (g.lay fun r hr => hr) (.need rfl (.ret fun z e => by rw [e] at z; exact absurd z (by decide)))) fun _ => .ret fun z => absurd z Bool.false_ne_true) fun b hb => .ite (fun c => ?_) fun _ => ?_
  · refine .need (by omega) (.idx (Int.emod_nonneg _ (by omega)) (Int.emod_lt_of_pos _ (by omega)) fun v hv _ => .bindE (xhaving_ok h (by omega) v) (.need (le_line (by omega)) ?_))
    refine .compF (fun r => if v ∈ r.2 then some r.1 else none) (fun r _ => .ite (fun c => .ret (by rw [if_pos (of_decide_eq_true c)])) fun c => .ret (by rw [if_neg (fun z => c (decide_eq_true z))])) ?_
    dsimp only
    rw [due_eq]
    have lf := fw_len D v
    refine .ret ⟨rfl, by dsimp only; rw [List.length_map]; omega, fun x hx => ?_⟩
    have hx := (sortT_perm _).mem_iff.mp hx
    rw [fw_keys] at hx
    obtain ⟨r, hr, e⟩ := List.mem_map.mp hx
    rw [← e]; exact g.nm _ (g.sub r (List.mem_filter.mp hr).1).1
  · have hpos : 0 < D.length := List.length_pos_iff.mpr (hb c)
    refine .need (by omega) (.idx (Int.emod_nonneg _ (by omega)) (Int.emod_lt_of_pos _ (by omega)) fun r hr _ => ?_)
    obtain ⟨s1, s2, ⟨l, s3⟩, s4⟩ := g.sub r hr
    refine .bindE (xwords_ok h (dget_of_mem h.nd (k := r.1) (v := r.2) hr)) (.ret ⟨?_, by dsimp only; omega, fun x hx => g.wm x (s2 x hx)⟩)
    dsimp only
    rw [s3]
    exact sortT_of (List.Perm.refl _) (ssetT_up l)
  · refine .forI (fun p (s : List Str) => s.Nodup ∧ ∀ x, x ∈ s ↔ ∃ r, r ∈ p ∧ x ∈ r.2) ⟨List.nodup_nil, fun x => by simp⟩ ?_ ?_
    · rintro p r q s ep ⟨h1, h2⟩
      have hr : r ∈ D := by rw [ep]; simp
      obtain ⟨s1, s2, ⟨l, s3⟩, s4⟩ := g.sub r hr
      have sw : ∀ x, x ∈ s → x ∈ ws := fun x hx => by
        obtain ⟨r', hr', hx⟩ := (h2 x).mp hx
        exact (g.sub r' (by rw [ep]; simp [hr'])).2.1 x hx
      have ls : s.length ≤ ws.length := nodup_lenG h1 sw
      refine .need (le_line (by omega)) (.compF (fun x => if ¬ x ∈ s then some x else none) (fun x _ => .ite (fun c => .ret (by rw [if_pos (fun z => by rw [decide_eq_true z] at c; exact absurd c (by decide))])) fun c => .ret (by rw [if_neg (fun z => c (by rw [decide_eq_false z]; rfl))])) ?_)
      have ef : r.2.filterMap (fun x => if ¬ x ∈ s then some x else none) = r.2.filter fun x => decide (¬ x ∈ s) := by
        generalize r.2 = l
        induction l with
        | nil => rfl
        | cons x l ih =>
          by_cases c : x ∈ s
          · rw [fm_n (f := fun x => if ¬ x ∈ s then some x else none) (if_neg (fun z => z c)), List.filter_cons_of_neg (by simp [c]), ih]
          · rw [fm_y (f := fun x => if ¬ x ∈ s then some x else none) (b := x) (if_pos c), List.filter_cons_of_pos (by simp [c]), ih]
      dsimp only
      rw [ef]
      have lf : (r.2.filter fun x => decide (¬ x ∈ s)).length ≤ r.2.length := List.length_filter_le ..
      refine .need (le_line (by omega)) (.lets (.ret ⟨?_, fun x => ?_⟩))
      · rw [List.nodup_append]
        exact ⟨h1, (h.wd r hr).filter _, fun a ha b hb e => of_decide_eq_true (List.mem_filter.mp hb).2 (by rw [← e]; exact ha)⟩
      · rw [List.mem_append, h2, List.mem_filter, decide_eq_true_eq]
        constructor
        · rintro (⟨r', q1, q2⟩ | ⟨q1, _⟩)
          · exact ⟨r', by simp [q1], q2⟩
          · exact ⟨r, by simp, q1⟩
        · rintro ⟨r', q1, q2⟩
          by_cases z : x ∈ s
          · exact .inl ((h2 x).mp z)
          · rcases List.mem_append.mp q1 with y | y
            · exact .inl ⟨r', y, q2⟩
            · rw [List.mem_singleton.mp y] at q2
              exact .inr ⟨q2, z⟩
    · rintro s ⟨h1, h2⟩
      have sw : ∀ x, x ∈ s → x ∈ ws := fun x hx => by
        obtain ⟨r', hr', hx⟩ := (h2 x).mp hx
        exact (g.sub r' hr').2.1 x hx
      have ls : s.length ≤ ws.length := nodup_lenG h1 sw
      refine .bindE (xall_ok (by omega)) (.ret ⟨sort_same h.hk h1 fun x => (h.keys x).trans (h2 x).symm, by dsimp only; omega, fun x hx => ?_⟩)
      have hx := (sortT_perm _).mem_iff.mp hx
      obtain ⟨r, q1, q2⟩ := (h.keys x).mp hx
      exact g.wm x ((g.sub r q1).2.1 x q2)
theorem is_list_ok {l : List Str} (h : ∀ x, x ∈ l → Asc x) (hl : l.length ≤ 900) : m_law_is_list l l = .ok true := by
  refine Ok.eq ?_
  unfold m_law_is_list
  refine .need (strs_lay h) (.need (strs_lay h) (.ifF (by rw [decide_eq_true rfl]; decide) (.need (le_line (by omega)) (.compM (fun _ => true) (fun _ _ => .ret rfl) (.ret ?_)))))
  show (l.map fun _ => true).all id = true
  rw [List.all_map]; exact List.all_eq_true.mpr fun _ _ => rfl
theorem shownAll_strs : ∀ l : List Str, PyData.shownAll (l.map PyData.str) = l.map reprText
  | [] => rfl
  | x :: r => by
    rw [List.map_cons, List.map_cons, ← shownAll_strs r]; rfl
theorem reprL_len {l : List Str} (h : ∀ x, x ∈ l → Asc x ∧ x.length ≤ 40) : (reprL l).length ≤ 404 * l.length + 3 := by
  unfold reprL
  rw [PyData.shown, shownAll_strs]
  have h1 := listText_len_le (l.map reprText)
  have h2 : ((l.map reprText).map (·.length)).sum ≤ 402 * l.length := by
    clear h1
    induction l with
    | nil => exact Nat.le_refl _
    | cons x r ih =>
      obtain ⟨a, b⟩ := h x (by simp)
      have := ih fun y hy => h y (List.mem_cons_of_mem _ hy)
      have h3 := StrLaws.reprText_len x fun c hc => by have := a c hc; omega
      rw [List.map_cons, List.map_cons, List.sum_cons, List.length_cons]
      omega
  rw [List.length_map] at h1
  omega
abbrev Hd := List (List Str × Str)
def HH (held : Hd) (n : Nat) : Prop := (∀ p, p ∈ held → p.2 = reprL p.1 ∧ (reprL p.1).length ≤ 16777216) ∧ held.length ≤ n
theorem HH.up {held : Hd} {n m : Nat} (h : HH held n) (k : n ≤ m) : HH held m := ⟨h.1, Nat.le_trans h.2 k⟩
theorem stands_ok {ns ws : List Str} {D : Rx} {I : Index} (h : IH D I) (g : G25 ns ws D) (lw : 2 ≤ ws.length) (w : Int) {held : Hd} {k : Nat} (hh : HH held k) (hk : k ≤ 100) : Ok (m_law_stands I D ws w held) fun r => r.1 = true ∧ HH r.2 (k + 4) := by
  unfold m_law_stands
  refine .forFI (fun p (s : Hd) => HH s (k + p.length)) hh ?_ ?_
  · intro p x q s ep hs
    have hp := pre_lt ep
    rw [rngL_len] at hp
    have hp : p.length < 4 := hp
    refine .bind (looked_ok h g lw _ _) fun r ⟨e, hl, hm⟩ => .need (by omega) ?_
    have l1 : r.1.length ≤ 20 := by rw [e, (sortT_perm _).length_eq]; exact hl
    rw [← e]
    refine .bindE (is_list_ok (fun x hx => (hm x hx).asc) (by omega)) (.ifF (by decide) ?_)
    refine .bind (Q := fun s : List Str × List Str => s.1.length ≤ 21 ∧ ∀ x, x ∈ s.1 → Asc x ∧ x.length ≤ 40) (.ite (fun _ => .need (line9 (by omega)) (.ret ⟨by dsimp only; rw [List.length_append]; show r.1.length + 1 ≤ 21; omega, fun x hx => ?_⟩)) fun _ => .ret ⟨by omega, fun x hx => ⟨(hm x hx).asc, by have := (hm x hx).len; omega⟩⟩) fun s2 ⟨k1, k2⟩ => ?_
    · rcases List.mem_append.mp hx with q | q
      · exact ⟨(hm x q).asc, by have := (hm x q).len; omega⟩
      · rw [List.mem_singleton.mp q]
        exact ⟨Asc.lit (by decide +kernel), by decide +kernel⟩
    have rl := reprL_len k2
    refine .need (le_line (by omega)) (.need (line9 (by have := hs.2; omega)) (.ret ⟨_, rfl, fun p hp => ?_, ?_⟩))
    · rcases List.mem_append.mp hp with q | q
      · exact hs.1 p q
      · rw [List.mem_singleton.mp q]; exact ⟨rfl, by dsimp only; omega⟩
    · rw [List.length_append, List.length_append]; exact Nat.add_le_add_right hs.2 1
  · intro s hs
    exact .ret ⟨rfl, hs.up (Nat.le_refl _)⟩
theorem pool_ok {r1 : List Int} (hl : r1.length = 60) (hr : ∀ x, x ∈ r1 → 0 ≤ x ∧ x < 2147483629) : Ok (m_law_pool r1) fun ns => 2 ≤ ns.length ∧ ns.length ≤ 10 ∧ ∀ n, n ∈ ns → Nm n := by
  unfold m_law_pool
  refine .idx (by decide) (by omega) fun x1 h1 _ => .lets (.need (by omega) (.need (by rw [rngL_len]; exact le_line (by omega)) ?_))
  refine .comp Nm (fun k hk => ?_) fun ns e hn => .ret ⟨?_, ?_, hn⟩
  · have hk := rngL_mem hk
    refine .idx (by decide) (by omega) fun x0 h0 _ => .bind (nameBy_ok ⟨(hr x0 h0).1, by have := (hr x0 h0).2; omega⟩ ⟨hk.1, by omega⟩) fun n hn => .ret ⟨n, rfl, hn⟩
  · rw [e, rngL_len]; omega
  · rw [e, rngL_len]; omega
theorem cut_two {r1 : List Int} (hl : r1.length = 60) {i j : Int} (h0 : 0 ≤ i) (hj : j = i + 2) (h1 : j ≤ 60) : (cutL r1 (some i) (some j)).length = 2 := by
  unfold cutL
  rw [sIx_nn h0, sIx_nn (show 0 ≤ j by omega), List.length_take, List.length_drop]
  omega
theorem nm_list {l : List Str} (h : ∀ x, x ∈ l → Nm x) : (Lay.lay l : Bool) = true := strs_lay fun x hx => (h x hx).asc
theorem law_ok (s : Script) (_ : s.ns.length ≤ 63) : m_law s = .ok true := by
  refine Ok.eq ?_
  unfold m_law
  refine .bind (draws_ok s (n := 60) (by decide)) fun r1 ⟨l1, hr⟩ => ?_
  have l1 : r1.length = 60 := by omega
  refine .bind (pool_ok l1 hr) fun ns ⟨a1, a2, hn⟩ => ?_
  refine .idx (by decide) (by omega) fun x5 h5 _ => .need (by omega) (.need (by rw [rngL_len]; exact le_line (by omega)) ?_)
  refine .comp Nm (fun k hk => ?_) fun ws0 e0 hw0 => ?_
  · have hk := rngL_mem hk
    refine .idx (by decide) (by omega) fun x0 h0 _ => .bind (nameBy_ok ⟨(hr x0 h0).1, by have := (hr x0 h0).2; omega⟩ ⟨by omega, by omega⟩) fun n hn => .ret ⟨n, rfl, hn⟩
  rw [rngL_len] at e0
  dsimp only
  refine .idx (by decide) (by omega) fun x15 _ _ => ?_
  refine .bind (Q := fun ws : List Str => ws.length = ws0.length ∧ ∀ n, n ∈ ws → Nm n) (.ite (fun _ => .idx (by decide) (by omega) fun x17 h17 _ => .ix (by decide) (by omega) (.ret ⟨List.length_set, fun n hm => ?_⟩)) fun _ => .ret ⟨rfl, hw0⟩) fun ws ⟨lw, hw⟩ => ?_
  · rcases mem_set hm with q | q
    · exact hw0 n q
    · rw [q]; exact hn _ h17
  refine .bindE (a := ⟨[], []⟩) rfl (.bindE (a := ⟨[], []⟩) rfl ?_)
  refine .idx (by decide) (by omega) fun p0 hp0 gp0 => .idx (by decide) (by omega) fun w0 hw0' gw0 => ?_
  refine .bind (xadd_ok ih0 (by decide) (by decide) (n := p0) (l := [w0]) rfl (by show 1 < 64; decide)) fun J hJ => ?_
  have hss : ssetT [w0] = [w0] := (ssetT_is (by simp) (by simp) fun x => Iff.rfl).symm
  rw [hss] at hJ
  refine .idx (by decide) (by omega) fun x33 _ _ => .need (by omega) ?_
  refine .forFI (fun p (s : Index × Rx × Hd) => IH s.2.1 s.1 ∧ G25 ns ws s.2.1 ∧ HH s.2.2 (4 * p.length)) ⟨ih0, ⟨List.nodup_nil, (fun _ h => nomatch h), hn, hw, a2, by omega⟩, (fun _ h => nomatch h), Nat.le_refl _⟩ ?_ ?_
  · rintro p k q ⟨I, D, held⟩ ep ⟨h, g, hh⟩
    dsimp only at h g hh ⊢
    obtain ⟨hk, hp⟩ := rng_pre ep
    refine .bind (done_ok h g a1 (by omega) (cut_two l1 (by omega) (by omega) (by omega)) fun x hx => hr x (cutL_mem hx)) fun r ⟨e, h1, g1⟩ => .ifF (by rw [e]; decide) ?_
    refine .idx (by omega) (by omega) fun x20 _ _ => .bind (stands_ok h1 g1 (by omega) x20 hh (by omega)) fun r2 ⟨e2, h2⟩ => .ifF (by rw [e2]; decide) (.ret ⟨_, rfl, h1, g1, h2.up (by rw [List.length_append]; show _ ≤ 4 * (p.length + 1); omega)⟩)
  · rintro ⟨I, D, held⟩ ⟨_, _, hh⟩
    dsimp only at hh ⊢
    show Ok (R.bind _ _) _
    have hx : (rngL 0 (1 + (x33 % 14)).toNat).length ≤ 14 := by rw [rngL_len]; omega
    have fw0 : fw [(p0, [w0])] w0 = [(p0, true)] := by
      unfold fw
      rw [List.filter_cons_of_pos (by simp)]; rfl
    have ha : m_Index_having J w0 = .ok [p0] := by
      rw [xhaving_ok hJ (by show 1 ≤ 60; decide), show [] ++ [(p0, [w0])] = [(p0, [w0])] from rfl, fw0]
      exact congrArg R.ok (sort_one p0)
    have hall : m_Index_all_words J = .ok [w0] := by
      have few : J.holders.length ≤ [w0].length := hJ.few fun r hr w hw => by
        rw [List.mem_singleton.mp hr] at hw; exact hw
      have few : J.holders.length ≤ 1 := few
      rw [xall_ok (by omega)]
      congr 1
      have : sortT (J.holders.map (·.1)) = sortT [w0] := sort_same hJ.hk (by simp) fun x => (hJ.keys x).trans ⟨fun ⟨r, q1, q2⟩ => by rw [List.mem_singleton.mp q1] at q2; exact q2, fun q => ⟨(p0, [w0]), by simp, q⟩⟩
      rw [this, sort_one]
    have lp : (Lay.lay [p0] : Bool) = true := nm_list fun x hx => by rw [List.mem_singleton.mp hx]; exact hn p0 hp0
    have lw0 : (Lay.lay [w0] : Bool) = true := nm_list fun x hx => by rw [List.mem_singleton.mp hx]; exact hw w0 hw0'
    refine .bindE (idxR_ok (by decide) gw0) (.bindE ha (.bindE (idxR_ok (by decide) gp0) (.need lp (.need lp ?_))))
    refine .bind (Q := fun b => b = false) (.ifF (by rw [decide_eq_true rfl]; decide) (.bindE hall (.bindE (idxR_ok (by decide) gw0) (.need lw0 (.need lw0 (.ret (by rw [decide_eq_true rfl]; rfl))))))) fun b hb => ?_
    subst hb
    refine .ifF Bool.false_ne_true (.idx (by decide) (by omega) fun w1 hw1 gw1 => .bindE (idxR_ok (by decide) gw0) ?_)
    refine .bind (Q := fun b => b = false) (.ite (fun c => ?_) fun _ => .ret rfl) fun b hb => ?_
    · have ne : ¬ w1 = w0 := fun e => by rw [decide_eq_true e] at c; exact absurd c (by decide)
      have fw1 : fw [(p0, [w0])] w1 = [] := by
        unfold fw
        rw [List.filter_cons_of_neg (by simp [ne])]; rfl
      have hb : m_Index_having J w1 = .ok [] := by
        rw [xhaving_ok hJ (by show 1 ≤ 60; decide), show [] ++ [(p0, [w0])] = [(p0, [w0])] from rfl, fw1]
        exact congrArg R.ok (List.perm_nil.mp (sortT_perm []))
      exact .bindE (idxR_ok (by decide) gw1) (.bindE hb (.need rfl (.need rfl (.ret rfl))))
    subst hb
    refine .ifF Bool.false_ne_true ?_
    refine .need (le_line (by have := hh.2; dsimp only; omega)) (.compM (fun p => decide (reprL p.1 = p.2)) (fun p hp => .need (hh.1 p hp).2 (.ret rfl)) (.ret ?_))
    show (held.map _).all id = true
    rw [List.all_map]
    exact List.all_eq_true.mpr fun p hp => decide_eq_true (hh.1 p hp).1.symm
end Lw
namespace Lw
open PySem PySem.Spec PyProof.Rows L2 Ml
def IndexA {G : Gx} (a : Addr) (x : Index) : Asn G := exA fun (dx : Addr) => exA fun (p_rows_of : Addr) => exA fun (p_holders : Addr) => star [cell a (.ins (G.cl 2) dx [("rows_of", .ref p_rows_of), ("holders", .ref p_holders)]), dictA p_rows_of (x.rows_of : (List (Str × (List Str)))), dictE dictA p_holders (x.holders : (List (Str × (List (Str × Bool)))))]
theorem open_Index {G : Gx} {H : Hp} {a : Addr} {x : Index} {M : List (Asn G)} (h : Sep H (IndexA a x :: M)) : ∃ (dx : Addr) (p_rows_of : Addr) (p_holders : Addr), Sep H ([cell a (.ins (G.cl 2) dx [("rows_of", .ref p_rows_of), ("holders", .ref p_holders)]), dictA p_rows_of (x.rows_of : (List (Str × (List Str)))), dictE dictA p_holders (x.holders : (List (Str × (List (Str × Bool)))))] ++ M : List (Asn G)) := by
  unfold IndexA at h
  obtain ⟨dx, h⟩ := Sep.ex h
  obtain ⟨p_rows_of, h⟩ := Sep.ex h
  obtain ⟨p_holders, h⟩ := Sep.ex h
  exact ⟨dx, p_rows_of, p_holders, Sep.star1 h⟩
theorem ins_Index {G : Gx} {H : Hp} {L : List (Asn G)} {i : Nat} {a : Addr} {x : Index} (h : Sep H L) (e : L[i]? = some (IndexA a x)) : ∃ (dx : Addr) (p_rows_of : Addr) (p_holders : Addr), H a = some (.ins (G.cl 2) dx [("rows_of", .ref p_rows_of), ("holders", .ref p_holders)]) := by
  obtain ⟨fp, dx, p_rows_of, p_holders, f1, f2, _, ⟨_, hO⟩, _⟩ := h.at e
  exact ⟨dx, p_rows_of, p_holders, hO⟩
theorem pack_Index {G : Gx} {H : Hp} {a : Addr} {x : Index} {M : List (Asn G)} {dx : Addr} {p_rows_of : Addr} {p_holders : Addr} (h : Sep H ([cell a (.ins (G.cl 2) dx [("rows_of", .ref p_rows_of), ("holders", .ref p_holders)]), dictA p_rows_of (x.rows_of : (List (Str × (List Str)))), dictE dictA p_holders (x.holders : (List (Str × (List (Str × Bool)))))] ++ M : List (Asn G))) : Sep H (IndexA a x :: M) := Sep.exI dx (Sep.exI p_rows_of (Sep.exI p_holders (Sep.unstar1 h)))
structure Txt (G : Gx) (mg : Str → Option Value) where
  a_Index___init__ : Addr
  fd_Index___init__ : FuncData
  F_Index___init__ : Fun G.K "__init__" "Index.__init__" s_Index___init__ a_Index___init__ fd_Index___init__
  b_Index___init__ : Binds G.K fd_Index___init__ ["self"] []
  kp_Index___init__ : PySem.W.keepIn G.K (.ref a_Index___init__) = true
  k_Index : Mk G.K (G.cl 2) a_Index___init__
  a_Index_sure : Addr
  fd_Index_sure : FuncData
  F_Index_sure : Fun G.K "sure" "Index.sure" s_Index_sure a_Index_sure fd_Index_sure
  b_Index_sure : Binds G.K fd_Index_sure ["self", "name"] []
  kp_Index_sure : PySem.W.keepIn G.K (.ref a_Index_sure) = true
  m_Index_sure : Meth G.K (G.cl 2) "sure" a_Index_sure
  a_Index_add : Addr
  fd_Index_add : FuncData
  F_Index_add : Fun G.K "add" "Index.add" s_Index_add a_Index_add fd_Index_add
  b_Index_add : Binds G.K fd_Index_add ["self", "name", "words"] []
  kp_Index_add : PySem.W.keepIn G.K (.ref a_Index_add) = true
  m_Index_add : Meth G.K (G.cl 2) "add" a_Index_add
  a_Index_take_out : Addr
  fd_Index_take_out : FuncData
  F_Index_take_out : Fun G.K "take_out" "Index.take_out" s_Index_take_out a_Index_take_out fd_Index_take_out
  b_Index_take_out : Binds G.K fd_Index_take_out ["self", "name"] []
  kp_Index_take_out : PySem.W.keepIn G.K (.ref a_Index_take_out) = true
  m_Index_take_out : Meth G.K (G.cl 2) "take_out" a_Index_take_out
  a_Index_having : Addr
  fd_Index_having : FuncData
  F_Index_having : Fun G.K "having" "Index.having" s_Index_having a_Index_having fd_Index_having
  b_Index_having : Binds G.K fd_Index_having ["self", "word"] []
  kp_Index_having : PySem.W.keepIn G.K (.ref a_Index_having) = true
  m_Index_having : Meth G.K (G.cl 2) "having" a_Index_having
  a_Index_words : Addr
  fd_Index_words : FuncData
  F_Index_words : Fun G.K "words" "Index.words" s_Index_words a_Index_words fd_Index_words
  b_Index_words : Binds G.K fd_Index_words ["self", "name"] []
  kp_Index_words : PySem.W.keepIn G.K (.ref a_Index_words) = true
  m_Index_words : Meth G.K (G.cl 2) "words" a_Index_words
  a_Index_all_words : Addr
  fd_Index_all_words : FuncData
  F_Index_all_words : Fun G.K "all_words" "Index.all_words" s_Index_all_words a_Index_all_words fd_Index_all_words
  b_Index_all_words : Binds G.K fd_Index_all_words ["self"] []
  kp_Index_all_words : PySem.W.keepIn G.K (.ref a_Index_all_words) = true
  m_Index_all_words : Meth G.K (G.cl 2) "all_words" a_Index_all_words
  a_law_draws : Addr
  fd_law_draws : FuncData
  F_law_draws : Fun G.K "_law_draws" "_law_draws" s_law_draws a_law_draws fd_law_draws
  b_law_draws : Binds G.K fd_law_draws ["_law_script", "_law_many"] []
  kp_law_draws : PySem.W.keepIn G.K (.ref a_law_draws) = true
  g_law_draws : mg "_law_draws" = some (.ref a_law_draws)
  a_law_name_by : Addr
  fd_law_name_by : FuncData
  F_law_name_by : Fun G.K "_law_name_by" "_law_name_by" s_law_name_by a_law_name_by fd_law_name_by
  b_law_name_by : Binds G.K fd_law_name_by ["_law_shape", "_law_k"] []
  kp_law_name_by : PySem.W.keepIn G.K (.ref a_law_name_by) = true
  g_law_name_by : mg "_law_name_by" = some (.ref a_law_name_by)
  a_law_pool : Addr
  fd_law_pool : FuncData
  F_law_pool : Fun G.K "_law_pool" "_law_pool" s_law_pool a_law_pool fd_law_pool
  b_law_pool : Binds G.K fd_law_pool ["_law_draws_here"] []
  kp_law_pool : PySem.W.keepIn G.K (.ref a_law_pool) = true
  g_law_pool : mg "_law_pool" = some (.ref a_law_pool)
  a_law_is_list : Addr
  fd_law_is_list : FuncData
  F_law_is_list : Fun G.K "_law_is_list" "_law_is_list" s_law_is_list a_law_is_list fd_law_is_list
  b_law_is_list : Binds G.K fd_law_is_list ["_law_found", "_law_due"] []
  kp_law_is_list : PySem.W.keepIn G.K (.ref a_law_is_list) = true
  g_law_is_list : mg "_law_is_list" = some (.ref a_law_is_list)
  a_law_done : Addr
  fd_law_done : FuncData
  F_law_done : Fun G.K "_law_done" "_law_done" s_law_done a_law_done fd_law_done
  b_law_done : Binds G.K fd_law_done ["_law_index", "_law_rows", "_law_pool_here", "_law_words", "_law_draws_here"] []
  kp_law_done : PySem.W.keepIn G.K (.ref a_law_done) = true
  g_law_done : mg "_law_done" = some (.ref a_law_done)
  a_law_looked : Addr
  fd_law_looked : FuncData
  F_law_looked : Fun G.K "_law_looked" "_law_looked" s_law_looked a_law_looked fd_law_looked
  b_law_looked : Binds G.K fd_law_looked ["_law_index", "_law_rows", "_law_look", "_law_draw", "_law_words"] []
  kp_law_looked : PySem.W.keepIn G.K (.ref a_law_looked) = true
  g_law_looked : mg "_law_looked" = some (.ref a_law_looked)
  a_law_stands : Addr
  fd_law_stands : FuncData
  F_law_stands : Fun G.K "_law_stands" "_law_stands" s_law_stands a_law_stands fd_law_stands
  b_law_stands : Binds G.K fd_law_stands ["_law_index", "_law_rows", "_law_words", "_law_draw", "_law_held"] []
  kp_law_stands : PySem.W.keepIn G.K (.ref a_law_stands) = true
  g_law_stands : mg "_law_stands" = some (.ref a_law_stands)
  a_law : Addr
  fd_law : FuncData
  F_law : Fun G.K "law" "law" s_law a_law fd_law
  b_law : Binds G.K fd_law ["_law_script"] []
  kp_law : PySem.W.keepIn G.K (.ref a_law) = true
  g_law : mg "law" = some (.ref a_law)
  g_MailError : mg "MailError" = some (.ref (G.cl 0))
  g_NoName : mg "NoName" = some (.ref (G.cl 1))
  x_NoName : PySem.W.excIn G.K (G.cl 1) [.type "ValueError", .type "Exception", .type "BaseException", .type "object"] "ValueError.__new__" = true
  kp_NoName : PySem.W.keepIn G.K (.ref (G.cl 1)) = true
  r_NoName : ∀ {X : Cx}, X.K = G.K → Raises X (.ref (G.cl 1))
  g_Index : mg "Index" = some (.ref (G.cl 2))
  cl_Index : Cls G.K (G.cl 2)
  n_Index_rows_of : NoAttr G.K (G.cl 2) "rows_of"
  n_Index_holders : NoAttr G.K (G.cl 2) "holders"
  fz_Index : G.fz (G.cl 2) = none
  z_all : mg "all" = none
  z_isinstance : mg "isinstance" = none
  z_len : mg "len" = none
  z_list : mg "list" = none
  z_range : mg "range" = none
  z_repr : mg "repr" = none
  z_set : mg "set" = none
  z_sorted : mg "sorted" = none
  z_str : mg "str" = none
section
variable {P : Program} {w : World} {G : Gx} {mg : Str → Option Value} {base : Heap}
def sp_Index___init__ (G : Gx) : Sp := fun vs H Q E => ∃ (a_v_self d_v_self : Addr) (F : Asn G), vs = [.ref a_v_self] ∧ Sep H ([cell a_v_self (.ins (G.cl 2) d_v_self []), F] : List (Asn G)) ∧ R.wp (m_Index___init__ ) (fun r => ∀ H', Sep H' ([IndexA a_v_self r, F] : List (Asn G)) → Q .non H') (fun _ => False)
abbrev N_Index___init__ : List Str := ["self"]
theorem sc_Index___init__ : FnScope N_Index___init__ ["self"] (defScope s_Index___init__) := ⟨rfl, rfl, rfl, by decide +kernel, rfl, by decide +kernel, by decide +kernel⟩
theorem ok_Index___init__ (T : Txt G mg) : FnOk P w G.K mg base CX0 1 T.a_Index___init__ T.fd_Index___init__ ["self"] (sp_Index___init__ G) := by
  have nd := sc_Index___init__.nd
  refine Fun.ok T.F_Index___init__ sc_Index___init__ (fun vs H Q E h => ?_) (fun cdv A outer s H vs Q E hr h => ?_)
  · obtain ⟨a_v_self, d_v_self, F, rfl, _⟩ := h; rfl
  · obtain ⟨a_v_self, d_v_self, F, rfl, hS, hm⟩ := h
    refine ⟨_, (pss_cons (ps_fld (pv 0) pe_dnewK rfl)
      (pss_one (ps_fld (pv 0) pe_dnewK rfl))), ?_⟩
    unfold m_Index___init__ at hm
    refine f_seq ?_
    refine c_sfld ?_
    refine k_dnew (κ := Str) (β := (List Str)) hS fun p1 H hS => ?_
    refine ev_to (ev_var rfl) ?_
    refine k_sfld (fs' := [("rows_of", (.ref p1))]) hS (i := 1) rfl T.cl_Index T.n_Index_rows_of rfl (by show 0 < 1000; decide) (by show decide (G.fz (G.cl 2) = some 1) = false; rw [T.fz_Index]; rfl) rfl fun H hS => ?_
    have hS : Sep H ([dictA p1 (([] : (List (Str × (List Str)))) : (List (Str × (List Str)))), cell a_v_self (.ins (G.cl 2) d_v_self [("rows_of", (.ref p1))]), F] : List (Asn G)) := hS
    refine sq_nx ?_
    refine c_sfld ?_
    refine k_dnewE (κ := Str) (β := (List (Str × Bool))) (E := dictA) hS fun p2 H hS => ?_
    refine ev_to (ev_var rfl) ?_
    refine k_sfld (fs' := [("rows_of", (.ref p1)), ("holders", (.ref p2))]) hS (i := 2) rfl T.cl_Index T.n_Index_holders rfl (by show 1 < 1000; decide) (by show decide (G.fz (G.cl 2) = some 2) = false; rw [T.fz_Index]; rfl) rfl fun H hS => ?_
    have hS : Sep H ([dictE dictA p2 (([] : (List (Str × (List (Str × Bool))))) : (List (Str × (List (Str × Bool))))), dictA p1 (([] : (List (Str × (List Str)))) : (List (Str × (List Str)))), cell a_v_self (.ins (G.cl 2) d_v_self [("rows_of", (.ref p1)), ("holders", (.ref p2))]), F] : List (Asn G)) := hS
    have hS : Sep H (IndexA a_v_self (⟨([] : (List (Str × (List Str)))), ([] : (List (Str × (List (Str × Bool)))))⟩ : Index) :: [F] : List (Asn G)) := pack_Index (hS.sel [2, 1, 0, 3] (by decide) rfl)
    exact hm _ (hS.sel [0, 1] (by decide) rfl)
def sp_Index_sure (G : Gx) : Sp := fun vs H Q E => ∃ (a_v_self : Addr) (v_self : Index) (v_name : Str) (F : Asn G), vs = [.ref a_v_self, (.str (v_name))] ∧ Sep H ([IndexA a_v_self v_self, F] : List (Asn G)) ∧ R.wp (m_Index_sure v_self v_name) (fun r => ∀ H', Sep H' ([IndexA a_v_self v_self, F] : List (Asn G)) → Q .non H') (fun x => ∀ H', Sep H' ([IndexA a_v_self v_self, F] : List (Asn G)) → Eok G x E H')
abbrev N_Index_sure : List Str := ["self", "name"]
theorem sc_Index_sure : FnScope N_Index_sure ["self", "name"] (defScope s_Index_sure) := ⟨rfl, rfl, rfl, by decide +kernel, rfl, by decide +kernel, by decide +kernel⟩
theorem ok_Index_sure (T : Txt G mg) : FnOk P w G.K mg base (L2.CX P w) 1 T.a_Index_sure T.fd_Index_sure ["self", "name"] (sp_Index_sure G) := by
  have nd := sc_Index_sure.nd
  refine Fun.okX T.F_Index_sure sc_Index_sure (fun vs H Q E h => ?_) (fun cdv A outer s H vs Q E hr h => ?_)
  · obtain ⟨a_v_self, v_self, v_name, F, rfl, _⟩ := h; rfl
  · obtain ⟨a_v_self, v_self, v_name, F, rfl, hS, hm⟩ := h
    refine ⟨_, (pss_one (ps_if (pt_cmp (pc_dnotin (hu_of hr) (pv 1) (pe_fld (pv 0) rfl))) (pss_one (ps_raise rfl (takes_of rfl rfl rfl rfl) (SkE.pmk_own1 PySem.F.excBase_ValueError T.x_NoName T.g_NoName T.kp_NoName (T.r_NoName rfl) rfl (pe_joined (.cons (pe_fmt (pv 1)) (.cons pe_str .nil)))))) pss_nil)), ?_⟩
    unfold m_Index_sure at hm
    have hS : Sep H (IndexA a_v_self v_self :: [F] : List (Asn G)) := hS.sel [0, 1] (by decide) rfl
    obtain ⟨dx1, p2, p3, hS⟩ := open_Index hS
    have hS : Sep H ([cell a_v_self (.ins (G.cl 2) dx1 [("rows_of", (.ref p2)), ("holders", (.ref p3))]), dictA p2 (v_self.rows_of : (List (Str × (List Str)))), dictE dictA p3 (v_self.holders : (List (Str × (List (Str × Bool))))), F] : List (Asn G)) := hS
    refine f_if ?_
    refine et_to (et_B (ev_dnotin hS (i := 1) (k := v_name) rfl (ev_var rfl) (ev_fld (ev_var rfl) (hS.getCell (i := 0) rfl) T.cl_Index T.n_Index_rows_of rfl))) ?_
    refine ifK_2 (fun hb4 => ?_) (fun hb4 => ?_)
    · have hm := R.wp_ifY hm hb4
      obtain ⟨h5, hm⟩ := R.wp_need hm
      obtain ⟨h6, hm⟩ := R.wp_need hm
      refine f_fs (ev_var rfl) h5 h6 ?_
      revert hm; refine R.need_rev fun h7 hm => ?_
      refine f_fc ev_c h7 ?_
      refine f_je ?_
      have hS : Sep H (IndexA a_v_self v_self :: [F] : List (Asn G)) := pack_Index (hS.sel [0, 1, 2, 3] (by decide) rfl)
      exact hm _ (hS.sel [0, 1] (by decide) rfl)
    · have hm := R.wp_ifN hm (by first | (rw [hb4]; decide) | simpa using hb4)
      refine st_nx ?_
      have hS : Sep H (IndexA a_v_self v_self :: [F] : List (Asn G)) := pack_Index (hS.sel [0, 1, 2, 3] (by decide) rfl)
      exact hm _ (hS.sel [0, 1] (by decide) rfl)
def sp_Index_add (G : Gx) : Sp := fun vs H Q E => ∃ (a_v_self : Addr) (v_self : Index) (v_name : Str) (a_v_words : Addr) (v_words : (List Str)) (F : Asn G), vs = [.ref a_v_self, (.str (v_name)), .ref a_v_words] ∧ Sep H ([IndexA a_v_self v_self, lstA a_v_words (v_words : (List Str)), F] : List (Asn G)) ∧ R.wp (m_Index_add v_self v_name v_words) (fun r => ∀ H', Sep H' ([IndexA a_v_self r, lstA a_v_words (v_words : (List Str)), F] : List (Asn G)) → Q .non H') (fun x => ∀ H', Sep H' ([IndexA a_v_self v_self, lstA a_v_words (v_words : (List Str)), F] : List (Asn G)) → Eok G x E H')
abbrev N_Index_add : List Str := ["self", "name", "words", "word"]
theorem sc_Index_add : FnScope N_Index_add ["self", "name", "words"] (defScope s_Index_add) := ⟨rfl, rfl, rfl, by decide +kernel, rfl, by decide +kernel, by decide +kernel⟩
theorem ok_Index_add (T : Txt G mg) : FnOk P w G.K mg base (L2.CX P w) 1 T.a_Index_add T.fd_Index_add ["self", "name", "words"] (sp_Index_add G) := by
  have nd := sc_Index_add.nd
  refine Fun.okX T.F_Index_add sc_Index_add (fun vs H Q E h => ?_) (fun cdv A outer s H vs Q E hr h => ?_)
  · obtain ⟨a_v_self, v_self, v_name, a_v_words, v_words, F, rfl, _⟩ := h; rfl
  · obtain ⟨a_v_self, v_self, v_name, a_v_words, v_words, F, rfl, hS, hm⟩ := h
    refine ⟨_, (pss_cons (ps_if (pt_cmp (pc_din (hu_of hr) (pv 1) (pe_fld (pv 0) rfl))) (pss_one (ps_raise rfl (takes_of rfl rfl rfl rfl) (SkE.pmk_own1 PySem.F.excBase_ValueError T.x_NoName T.g_NoName T.kp_NoName (T.r_NoName rfl) rfl (pe_joined (.cons (pe_fmt (pv 1)) (.cons pe_str .nil)))))) pss_nil)
      (pss_cons (ps_asg (pe_fz (pe_sortSetK G.K rfl (by rfl) T.z_sorted (by rfl) T.z_set (pe_fz (pv 2)))) (pg_sub (pe_fld (pv 0) rfl) (pv 1) (set_dict (hu_of hr))))
      (pss_one (ps_for (passes_of rfl) rfl (pi_listK G.K (pe_dget (hu_of hr) (pe_fld (pv 0) rfl) (pv 1) (fun _ _ => rfl))) (pg_name (i := 3) nd rfl (Or.inl rfl)) (pss_one (ps_asg pe_bl (pg_sub (pe_dsetd (pe_fld (pv 0) rfl) (pv 3) pe_dnewK m2) (pv 1) (set_dict (hu_of hr))))))))), ?_⟩
    unfold m_Index_add at hm
    have hS : Sep H (IndexA a_v_self v_self :: [lstA a_v_words (v_words : (List Str)), F] : List (Asn G)) := hS.sel [0, 1, 2] (by decide) rfl
    obtain ⟨dx1, p2, p3, hS⟩ := open_Index hS
    have hS : Sep H ([cell a_v_self (.ins (G.cl 2) dx1 [("rows_of", (.ref p2)), ("holders", (.ref p3))]), dictA p2 (v_self.rows_of : (List (Str × (List Str)))), dictE dictA p3 (v_self.holders : (List (Str × (List (Str × Bool))))), lstA a_v_words (v_words : (List Str)), F] : List (Asn G)) := hS
    refine f_seq ?_
    refine f_if ?_
    refine et_to (et_B (ev_din hS (i := 1) (k := v_name) rfl (ev_var rfl) (ev_fld (ev_var rfl) (hS.getCell (i := 0) rfl) T.cl_Index T.n_Index_rows_of rfl))) ?_
    refine ifK_2 (fun hb4 => ?_) (fun hb4 => ?_)
    · have hm := R.wp_ifY hm hb4
      obtain ⟨h5, hm⟩ := R.wp_need hm
      obtain ⟨h6, hm⟩ := R.wp_need hm
      refine f_fs (ev_var rfl) h5 h6 ?_
      revert hm; refine R.need_rev fun h7 hm => ?_
      refine f_fc ev_c h7 ?_
      refine f_je ?_
      have hS : Sep H (IndexA a_v_self v_self :: [lstA a_v_words (v_words : (List Str)), F] : List (Asn G)) := pack_Index (hS.sel [0, 1, 2, 3, 4] (by decide) rfl)
      exact hm _ (hS.sel [0, 1, 2] (by decide) rfl)
    · have hm := R.wp_ifN hm (by first | (rw [hb4]; decide) | simpa using hb4)
      refine st_nx ?_
      refine sq_nx ?_
      refine f_seq ?_
      refine c_asgS ?_
      refine c_fz ?_
      refine c_sortSet ?_
      refine ev_to (ev_fz (ev_var rfl)) ?_
      obtain ⟨h9, hm⟩ := R.wp_need hm
      refine k_sortSet hS (.inl (hS.sqF (i := 3) rfl)) h9 fun p8 H hS => ?_
      refine fz_yes (xs := (ssetT v_words : (List Str))) hS (i := 0) rfl fun H hS => ?_
      have hS : Sep H ([imA (.ref p8) (ssetT v_words : (List Str)), cell a_v_self (.ins (G.cl 2) dx1 [("rows_of", (.ref p2)), ("holders", (.ref p3))]), dictA p2 (v_self.rows_of : (List (Str × (List Str)))), dictE dictA p3 (v_self.holders : (List (Str × (List (Str × Bool))))), lstA a_v_words (v_words : (List Str)), F] : List (Asn G)) := hS
      refine ev_to (ev_fld (ev_var rfl) (hS.getCell (i := 1) rfl) T.cl_Index T.n_Index_rows_of rfl) ?_
      refine ev_to (ev_var rfl) ?_
      obtain ⟨h11, hm⟩ := R.wp_need hm
      refine k_setD (k := v_name) (y := ssetT v_words) hS (i := 2) rfl (hS.im (i := 0) rfl) h11 rfl fun H hS => ?_
      have hS : Sep H ([imA (.ref p8) (ssetT v_words : (List Str)), cell a_v_self (.ins (G.cl 2) dx1 [("rows_of", (.ref p2)), ("holders", (.ref p3))]), dictA p2 (dput v_self.rows_of v_name (ssetT v_words) : (List (Str × (List Str)))), dictE dictA p3 (v_self.holders : (List (Str × (List (Str × Bool))))), lstA a_v_words (v_words : (List Str)), F] : List (Asn G)) := hS
      refine sq_nx ?_
      refine c_for ?_
      refine c_il ?_
      obtain ⟨y12, hy12, hm⟩ := wp_dget hm
      obtain ⟨v13, g14, hv15⟩ := dget_some hS (i := 2) rfl hy12
      obtain ⟨a16, rfl⟩ := isref hv15
      refine ev_to (ev_dget (y := y12) hS (i := 2) rfl (ev_fld (ev_var rfl) (hS.getCell (i := 1) rfl) T.cl_Index T.n_Index_rows_of rfl) (ev_var rfl) g14) ?_
      have hS := hS.addIm (v := (.ref a16)) (x := (y12 : (List Str))) hv15
      refine k_ilG (imPl (hS.im (i := 0) rfl)) ?_
      refine k_for (τ := (List (Str × (List (Str × Bool))))) (fun (s18 : (List (Str × (List (Str × Bool))))) (σ : L2.St) (H : Hp) => ∃ (w21 : Option V), σ = [some (.ref a_v_self), some (.str (v_name)), some (.ref a_v_words), w21] ∧ Sep H ([imA (.ref a16) (y12 : (List Str)), imA (.ref p8) (ssetT v_words : (List Str)), cell a_v_self (.ins (G.cl 2) dx1 [("rows_of", (.ref p2)), ("holders", (.ref p3))]), dictA p2 (dput v_self.rows_of v_name (ssetT v_words) : (List (Str × (List Str)))), dictE dictA p3 (s18 : (List (Str × (List (Str × Bool))))), lstA a_v_words (v_words : (List Str)), F] : List (Asn G))) (im := (Im.im G)) (s := (v_self.holders)) (fun _ => wk_list fun _ _ ⟨_, _, h⟩ => imPl (h.im (i := 0) rfl)) ⟨_, rfl, hS.sel [0, 1, 2, 3, 4, 5, 6] (by decide) rfl⟩ hm (fun s18 x19 v20 σ H q N hI hx hm nx => ?_) (fun s18 σ H hm hI => ?_)
      ·
        obtain ⟨w21, rfl, hS⟩ := hI
        cases hx
        refine c_gN (σ' := [some (.ref a_v_self), some (.str (v_name)), some (.ref a_v_words), some (.str (x19))]) rfl ?_
        refine c_asgS ?_
        refine ev_to ev_c ?_
        refine c_dsetd ?_
        refine ev_to (ev_fld (ev_var rfl) (hS.getCell (i := 2) rfl) T.cl_Index T.n_Index_holders rfl) ?_
        refine k_setda (isD_Ei hS (i := 4) rfl) ?_
        refine ev_to (ev_var rfl) ?_
        refine k_setdb ?_
        refine k_dnew (κ := Str) (β := Bool) hS fun p22 H hS => ?_
        obtain ⟨h24, hm⟩ := R.wp_need hm
        refine k_setdE3 (k := x19) (hS.sel [5, 0, 1, 2, 3, 4, 6, 7] (by decide) rfl : Sep _ (dictE dictA p3 (s18 : (List (Str × (List (Str × Bool))))) :: dictA p22 (([] : (List (Str × Bool))) : (List (Str × Bool))) :: [imA (.ref a16) (y12 : (List Str)), imA (.ref p8) (ssetT v_words : (List Str)), cell a_v_self (.ins (G.cl 2) dx1 [("rows_of", (.ref p2)), ("holders", (.ref p3))]), dictA p2 (dput v_self.rows_of v_name (ssetT v_words) : (List (Str × (List Str)))), lstA a_v_words (v_words : (List Str)), F] : List (Asn G))) h24 fun ps25 p26 j27 H hl28 hj29 hp30 hS => ?_
        have hS : Sep H ([dictA p26 ((dget s18 x19).getD ([] : (List (Str × Bool))) : (List (Str × Bool))), dictXH id dictA p3 ps25 (setE s18 x19 ([] : (List (Str × Bool))) : (List (Str × (List (Str × Bool))))) j27, imA (.ref a16) (y12 : (List Str)), imA (.ref p8) (ssetT v_words : (List Str)), cell a_v_self (.ins (G.cl 2) dx1 [("rows_of", (.ref p2)), ("holders", (.ref p3))]), dictA p2 (dput v_self.rows_of v_name (ssetT v_words) : (List (Str × (List Str)))), lstA a_v_words (v_words : (List Str)), F] : List (Asn G)) := hS
        refine ev_to (ev_var rfl) ?_
        obtain ⟨h31, hm⟩ := R.wp_need hm
        refine k_setD (k := v_name) (y := true) hS (i := 0) rfl rfl h31 rfl fun H hS => ?_
        have hS : Sep H ([dictA p26 (dput ((dget s18 x19).getD ([] : (List (Str × Bool)))) v_name true : (List (Str × Bool))), dictXH id dictA p3 ps25 (setE s18 x19 ([] : (List (Str × Bool))) : (List (Str × (List (Str × Bool))))) j27, imA (.ref a16) (y12 : (List Str)), imA (.ref p8) (ssetT v_words : (List Str)), cell a_v_self (.ins (G.cl 2) dx1 [("rows_of", (.ref p2)), ("holders", (.ref p3))]), dictA p2 (dput v_self.rows_of v_name (ssetT v_words) : (List (Str × (List Str)))), lstA a_v_words (v_words : (List Str)), F] : List (Asn G)) := hS
        have hS : Sep H ([dictE dictA p3 (dput (setE s18 x19 ([] : (List (Str × Bool)))) x19 (dput ((dget s18 x19).getD ([] : (List (Str × Bool)))) v_name true) : (List (Str × (List (Str × Bool))))), imA (.ref a16) (y12 : (List Str)), imA (.ref p8) (ssetT v_words : (List Str)), cell a_v_self (.ins (G.cl 2) dx1 [("rows_of", (.ref p2)), ("holders", (.ref p3))]), dictA p2 (dput v_self.rows_of v_name (ssetT v_words) : (List (Str × (List Str)))), lstA a_v_words (v_words : (List Str)), F] : List (Asn G)) := unfocDE (z := (dput ((dget s18 x19).getD ([] : (List (Str × Bool)))) v_name true : (List (Str × Bool)))) hl28 hj29 hp30 (hS.sel [0, 1, 2, 3, 4, 5, 6, 7] (by decide) rfl)
        exact nx _ _ _ hm ⟨_, rfl, hS.sel [1, 2, 3, 4, 0, 5, 6] (by decide) rfl⟩
      · obtain ⟨w21, rfl, hS⟩ := hI
        have hS : Sep H (IndexA a_v_self (⟨dput v_self.rows_of v_name (ssetT v_words), s18⟩ : Index) :: [imA (.ref a16) (y12 : (List Str)), imA (.ref p8) (ssetT v_words : (List Str)), lstA a_v_words (v_words : (List Str)), F] : List (Asn G)) := pack_Index (hS.sel [2, 3, 4, 0, 1, 5, 6] (by decide) rfl)
        exact hm _ (hS.sel [0, 3, 4] (by decide) rfl)
def sp_Index_take_out (G : Gx) : Sp := fun vs H Q E => ∃ (a_v_self : Addr) (v_self : Index) (v_name : Str) (F : Asn G), vs = [.ref a_v_self, (.str (v_name))] ∧ Sep H ([IndexA a_v_self v_self, F] : List (Asn G)) ∧ R.wp (m_Index_take_out v_self v_name) (fun r => ∀ H', Sep H' ([IndexA a_v_self r, F] : List (Asn G)) → Q .non H') (fun x => ∀ H', Sep H' ([IndexA a_v_self v_self, F] : List (Asn G)) → Eok G x E H')
abbrev N_Index_take_out : List Str := ["self", "name", "word"]
theorem sc_Index_take_out : FnScope N_Index_take_out ["self", "name"] (defScope s_Index_take_out) := ⟨rfl, rfl, rfl, by decide +kernel, rfl, by decide +kernel, by decide +kernel⟩
theorem ok_Index_take_out (T : Txt G mg) : FnOk P w G.K mg base (L2.CX P w) 2 T.a_Index_take_out T.fd_Index_take_out ["self", "name"] (sp_Index_take_out G) := by
  have nd := sc_Index_take_out.nd
  refine Fun.okX T.F_Index_take_out sc_Index_take_out (fun vs H Q E h => ?_) (fun cdv A outer s H vs Q E hr h => ?_)
  · obtain ⟨a_v_self, v_self, v_name, F, rfl, _⟩ := h; rfl
  · obtain ⟨a_v_self, v_self, v_name, F, rfl, hS, hm⟩ := h
    refine ⟨_, (pss_cons (ps_expr (pe_meth (pv 0) T.cl_Index T.m_Index_sure (ok_Index_sure T) (hr.mono (by decide)) T.b_Index_sure .nil (passes_call (takes_of rfl rfl rfl rfl) (fun _ _ _ _ h => h)) (pa_cons (pv 1) pa_nil)))
      (pss_one (ps_for (passes_of rfl) rfl (pi_listK G.K (pe_dpop1 (pe_fld (pv 0) rfl) (pv 1) m1)) (pg_name (i := 2) nd rfl (Or.inl rfl)) (pss_cons (ps_expr (pe_dpop1 (pe_dget (hu_of hr) (pe_fld (pv 0) rfl) (pv 2) (fun _ _ => rfl)) (pv 1) m1))
      (pss_one (ps_if (pt_cmpR op_eq (pe_callB call_lenD (by rfl) T.z_len PySem.boot_len (pa_cons (pe_dget (hu_of hr) (pe_fld (pv 0) rfl) (pv 2) (fun _ _ => rfl)) pa_nil)) pe_int (nomark _)) (pss_one (ps_expr (pe_dpop1 (pe_fld (pv 0) rfl) (pv 2) m1))) pss_nil)))))), ?_⟩
    unfold m_Index_take_out at hm
    have hS : Sep H (IndexA a_v_self v_self :: [F] : List (Asn G)) := hS.sel [0, 1] (by decide) rfl
    obtain ⟨dx1, p2, p3, hS⟩ := open_Index hS
    have hS : Sep H ([cell a_v_self (.ins (G.cl 2) dx1 [("rows_of", (.ref p2)), ("holders", (.ref p3))]), dictA p2 (v_self.rows_of : (List (Str × (List Str)))), dictE dictA p3 (v_self.holders : (List (Str × (List (Str × Bool))))), F] : List (Asn G)) := hS
    refine f_seq ?_
    refine c_drop ?_
    refine c_meth ?_
    refine ev_to (ev_var rfl) ?_
    refine ⟨_, _, _, rfl, (hS.getCell (i := 0) rfl), rfl, ?_⟩
    refine ea_to (ea_cons (ev_var rfl) ea_nil) ?_
    have hS : Sep H (IndexA a_v_self v_self :: [F] : List (Asn G)) := pack_Index (hS.sel [0, 1, 2, 3] (by decide) rfl)
    refine ⟨a_v_self, (v_self : Index), v_name, star [F], rfl, Sep.unstar (M := [IndexA a_v_self v_self]) (hS.sel [0, 1] (by decide) rfl : Sep H (([IndexA a_v_self v_self] ++ [F] : List (Asn G)))), R.wp_mono (R.wp_bind hm) (fun r4 hm H hS => ?_) (fun x hx H hS => ?_)⟩
    ·
      have hS : Sep H ([IndexA a_v_self v_self, F] : List (Asn G)) := Sep.star (M := [IndexA a_v_self v_self]) hS
      have hS : Sep H (IndexA a_v_self v_self :: [F] : List (Asn G)) := hS.sel [0, 1] (by decide) rfl
      obtain ⟨dx5, p6, p7, hS⟩ := open_Index hS
      have hS : Sep H ([cell a_v_self (.ins (G.cl 2) dx5 [("rows_of", (.ref p6)), ("holders", (.ref p7))]), dictA p6 (v_self.rows_of : (List (Str × (List Str)))), dictE dictA p7 (v_self.holders : (List (Str × (List (Str × Bool))))), F] : List (Asn G)) := hS
      refine sq_nx ?_
      refine c_for ?_
      refine c_il ?_
      refine c_dpop1 ?_
      refine ev_to (ev_fld (ev_var rfl) (hS.getCell (i := 0) rfl) T.cl_Index T.n_Index_rows_of rfl) ?_
      refine k_pop1a (isD_of hS (i := 1) rfl) ?_
      refine ev_to (ev_var rfl) ?_
      obtain ⟨y8, hy8, hm⟩ := wp_dgetX hm
      refine k_pop1A (k := v_name) hS (i := 1) rfl hy8 rfl fun v9 H hS => ?_
      obtain ⟨a11, rfl⟩ := isref (hS.im (i := 0) rfl)
      have hS : Sep H ([imA (.ref a11) (y8 : (List Str)), cell a_v_self (.ins (G.cl 2) dx5 [("rows_of", (.ref p6)), ("holders", (.ref p7))]), dictA p6 (ddrop v_self.rows_of v_name : (List (Str × (List Str)))), dictE dictA p7 (v_self.holders : (List (Str × (List (Str × Bool))))), F] : List (Asn G)) := hS
      refine k_ilG (imPl (hS.im (i := 0) rfl)) ?_
      refine k_for (τ := (List (Str × (List Str))) × (List (Str × (List (Str × Bool))))) (fun (s12 : (List (Str × (List Str))) × (List (Str × (List (Str × Bool))))) (σ : L2.St) (H : Hp) => ∃ (w15 : Option V), σ = [some (.ref a_v_self), some (.str (v_name)), w15] ∧ Sep H ([imA (.ref a11) (y8 : (List Str)), cell a_v_self (.ins (G.cl 2) dx5 [("rows_of", (.ref p6)), ("holders", (.ref p7))]), dictA p6 (s12.1 : (List (Str × (List Str)))), dictE dictA p7 (s12.2 : (List (Str × (List (Str × Bool))))), F] : List (Asn G))) (im := (Im.im G)) (s := (ddrop v_self.rows_of v_name, v_self.holders)) (fun _ => wk_list fun _ _ ⟨_, _, h⟩ => imPl (h.im (i := 0) rfl)) ⟨_, rfl, hS.sel [0, 1, 2, 3, 4] (by decide) rfl⟩ hm (fun s12 x13 v14 σ H q N hI hx hm nx => ?_) (fun s12 σ H hm hI => ?_)
      ·
        obtain ⟨w15, rfl, hS⟩ := hI
        cases hx
        refine c_gN (σ' := [some (.ref a_v_self), some (.str (v_name)), some (.str (x13))]) rfl ?_
        refine f_seq ?_
        refine c_drop ?_
        refine c_dpop1 ?_
        refine c_dget ?_
        refine ev_to (ev_fld (ev_var rfl) (hS.getCell (i := 1) rfl) T.cl_Index T.n_Index_holders rfl) ?_
        refine k_dget1 ?_
        refine ev_to (ev_var rfl) ?_
        obtain ⟨x16, h17, hm⟩ := wp_dgetX hm
        refine k_dgetE (y := (x16 : (List (Str × Bool)))) (hS.sel [3, 0, 1, 2, 4] (by decide) rfl : Sep _ (dictE dictA p7 (s12.2 : (List (Str × (List (Str × Bool))))) :: [imA (.ref a11) (y8 : (List Str)), cell a_v_self (.ins (G.cl 2) dx5 [("rows_of", (.ref p6)), ("holders", (.ref p7))]), dictA p6 (s12.1 : (List (Str × (List Str)))), F] : List (Asn G))) h17 fun ps18 p19 j20 hl21 hj22 hp23 hS => ?_
        have hS : Sep H ([dictA p19 (x16 : (List (Str × Bool))), dictXH id dictA p7 ps18 (s12.2 : (List (Str × (List (Str × Bool))))) j20, imA (.ref a11) (y8 : (List Str)), cell a_v_self (.ins (G.cl 2) dx5 [("rows_of", (.ref p6)), ("holders", (.ref p7))]), dictA p6 (s12.1 : (List (Str × (List Str)))), F] : List (Asn G)) := hS
        refine k_pop1a (isD_of hS (i := 0) rfl) ?_
        refine ev_to (ev_var rfl) ?_
        obtain ⟨y24, hy24, hm⟩ := wp_dgetX hm
        refine k_pop1A (k := v_name) hS (i := 0) rfl hy24 rfl fun v25 H hS => ?_
        obtain rfl : v25 = (.bl (y24)) := hS.im (i := 0) rfl
        have hS := hS.tail
        have hS : Sep H ([dictA p19 (ddrop x16 v_name : (List (Str × Bool))), dictXH id dictA p7 ps18 (s12.2 : (List (Str × (List (Str × Bool))))) j20, imA (.ref a11) (y8 : (List Str)), cell a_v_self (.ins (G.cl 2) dx5 [("rows_of", (.ref p6)), ("holders", (.ref p7))]), dictA p6 (s12.1 : (List (Str × (List Str)))), F] : List (Asn G)) := hS
        have hS : Sep H ([dictE dictA p7 (dput s12.2 x13 (ddrop x16 v_name) : (List (Str × (List (Str × Bool))))), imA (.ref a11) (y8 : (List Str)), cell a_v_self (.ins (G.cl 2) dx5 [("rows_of", (.ref p6)), ("holders", (.ref p7))]), dictA p6 (s12.1 : (List (Str × (List Str)))), F] : List (Asn G)) := unfocDE (z := (ddrop x16 v_name : (List (Str × Bool)))) hl21 hj22 hp23 (hS.sel [0, 1, 2, 3, 4, 5] (by decide) rfl)
        refine sq_nx ?_
        refine f_if ?_
        refine f_test ?_
        refine c_op ?_
        refine c_cb ?_
        refine c_cons ?_
        refine c_dget ?_
        refine ev_to (ev_fld (ev_var rfl) (hS.getCell (i := 2) rfl) T.cl_Index T.n_Index_holders rfl) ?_
        refine k_dget1 ?_
        refine ev_to (ev_var rfl) ?_
        obtain ⟨x26, h27, hm⟩ := wp_dgetX hm
        refine k_dgetE (y := (x26 : (List (Str × Bool)))) (hS.sel [0, 1, 2, 3, 4] (by decide) rfl : Sep _ (dictE dictA p7 (dput s12.2 x13 (ddrop x16 v_name) : (List (Str × (List (Str × Bool))))) :: [imA (.ref a11) (y8 : (List Str)), cell a_v_self (.ins (G.cl 2) dx5 [("rows_of", (.ref p6)), ("holders", (.ref p7))]), dictA p6 (s12.1 : (List (Str × (List Str)))), F] : List (Asn G))) h27 fun ps28 p29 j30 hl31 hj32 hp33 hS => ?_
        have hS : Sep H ([dictA p29 (x26 : (List (Str × Bool))), dictXH id dictA p7 ps28 (dput s12.2 x13 (ddrop x16 v_name) : (List (Str × (List (Str × Bool))))) j30, imA (.ref a11) (y8 : (List Str)), cell a_v_self (.ins (G.cl 2) dx5 [("rows_of", (.ref p6)), ("holders", (.ref p7))]), dictA p6 (s12.1 : (List (Str × (List Str)))), F] : List (Asn G)) := hS
        refine c_nil ?_
        obtain ⟨ps34, hp35, hl36⟩ := lenD_at hS (i := 0) rfl
        refine ⟨_, ps34, rfl, hp35, ?_⟩
        rw [hl36]
        have hS : Sep H ([dictE dictA p7 (dput s12.2 x13 (ddrop x16 v_name) : (List (Str × (List (Str × Bool))))), imA (.ref a11) (y8 : (List Str)), cell a_v_self (.ins (G.cl 2) dx5 [("rows_of", (.ref p6)), ("holders", (.ref p7))]), dictA p6 (s12.1 : (List (Str × (List Str)))), F] : List (Asn G)) := unfocDE0 hl31 hj32 hp33 (hS.sel [0, 1, 2, 3, 4, 5] (by decide) rfl)
        refine ev_to ev_c ?_
        refine ev_op2 (ev_eqI ev_c ev_c) ?_
        refine f_bl ?_
        refine ifK_J (τ := (List (Str × (List (Str × Bool))))) (fun (s37 : (List (Str × (List (Str × Bool))))) (σ : L2.St) (H : Hp) => σ = [some (.ref a_v_self), some (.str (v_name)), some (.str (x13))] ∧ Sep H ([dictE dictA p7 (s37 : (List (Str × (List (Str × Bool))))), imA (.ref a11) (y8 : (List Str)), cell a_v_self (.ins (G.cl 2) dx5 [("rows_of", (.ref p6)), ("holders", (.ref p7))]), dictA p6 (s12.1 : (List (Str × (List Str)))), F] : List (Asn G))) hm (fun hb q hm nx => ?_) (fun hb q hm nx => ?_) (fun s37 σ H hm hI => ?_)
        ·
          refine c_drop ?_
          refine c_dpop1 ?_
          refine ev_to (ev_fld (ev_var rfl) (hS.getCell (i := 2) rfl) T.cl_Index T.n_Index_holders rfl) ?_
          refine k_pop1a (isD_Ei hS (i := 0) rfl) ?_
          refine ev_to (ev_var rfl) ?_
          obtain ⟨y38, hy38, hm⟩ := wp_dgetX hm
          refine k_pop1E (hS.sel [0, 1, 2, 3, 4] (by decide) rfl : Sep _ (dictE dictA p7 (dput s12.2 x13 (ddrop x16 v_name) : (List (Str × (List (Str × Bool))))) :: [imA (.ref a11) (y8 : (List Str)), cell a_v_self (.ins (G.cl 2) dx5 [("rows_of", (.ref p6)), ("holders", (.ref p7))]), dictA p6 (s12.1 : (List (Str × (List Str)))), F] : List (Asn G))) hy38 fun v39 H hS => ?_
          have hS : Sep H ([dictA v39 (y38 : (List (Str × Bool))), dictE dictA p7 (ddrop (dput s12.2 x13 (ddrop x16 v_name)) x13 : (List (Str × (List (Str × Bool))))), imA (.ref a11) (y8 : (List Str)), cell a_v_self (.ins (G.cl 2) dx5 [("rows_of", (.ref p6)), ("holders", (.ref p7))]), dictA p6 (s12.1 : (List (Str × (List Str)))), F] : List (Asn G)) := hS
          exact nx _ _ _ hm ⟨rfl, hS.sel [1, 2, 3, 4, 5] (by decide) rfl⟩
        ·
          refine st_nx ?_
          exact nx _ _ _ hm ⟨rfl, hS.sel [0, 1, 2, 3, 4] (by decide) rfl⟩
        · obtain ⟨rfl, hS⟩ := hI
          exact nx _ _ _ hm ⟨_, rfl, hS.sel [1, 2, 3, 0, 4] (by decide) rfl⟩
      · obtain ⟨w15, rfl, hS⟩ := hI
        have hS : Sep H (IndexA a_v_self (⟨s12.1, s12.2⟩ : Index) :: [imA (.ref a11) (y8 : (List Str)), F] : List (Asn G)) := pack_Index (hS.sel [1, 2, 3, 0, 4] (by decide) rfl)
        exact hm _ (hS.sel [0, 2] (by decide) rfl)
    ·
      have hS : Sep H ([IndexA a_v_self v_self, F] : List (Asn G)) := Sep.star (M := [IndexA a_v_self v_self]) hS
      exact hx _ (hS.sel [0, 1] (by decide) rfl)
def sp_Index_having (G : Gx) : Sp := fun vs H Q E => ∃ (a_v_self : Addr) (v_self : Index) (v_word : Str) (F : Asn G), vs = [.ref a_v_self, (.str (v_word))] ∧ Sep H ([IndexA a_v_self v_self, F] : List (Asn G)) ∧ R.wp (m_Index_having v_self v_word) (fun r => ∀ p H', Sep H' ([lstA p (r : (List Str)), IndexA a_v_self v_self, F] : List (Asn G)) → Q (.ref p) H') (fun _ => False)
abbrev N_Index_having : List Str := ["self", "word"]
theorem sc_Index_having : FnScope N_Index_having ["self", "word"] (defScope s_Index_having) := ⟨rfl, rfl, rfl, by decide +kernel, rfl, by decide +kernel, by decide +kernel⟩
theorem ok_Index_having (T : Txt G mg) : FnOk P w G.K mg base CX0 1 T.a_Index_having T.fd_Index_having ["self", "word"] (sp_Index_having G) := by
  have nd := sc_Index_having.nd
  refine Fun.ok T.F_Index_having sc_Index_having (fun vs H Q E h => ?_) (fun cdv A outer s H vs Q E hr h => ?_)
  · obtain ⟨a_v_self, v_self, v_word, F, rfl, _⟩ := h; rfl
  · obtain ⟨a_v_self, v_self, v_word, F, rfl, hS, hm⟩ := h
    refine ⟨_, (pss_one (ps_ret (pe_fz (pe_callB (cr_sortD rfl) (by rfl) T.z_sorted (by decide +kernel) (pa_cons (pe_dget2 (hu_of hr) (pe_fld (pv 0) rfl) (pv 1) pe_dnewK m2) pa_nil))))), ?_⟩
    unfold m_Index_having at hm
    have hS : Sep H (IndexA a_v_self v_self :: [F] : List (Asn G)) := hS.sel [0, 1] (by decide) rfl
    obtain ⟨dx1, p2, p3, hS⟩ := open_Index hS
    have hS : Sep H ([cell a_v_self (.ins (G.cl 2) dx1 [("rows_of", (.ref p2)), ("holders", (.ref p3))]), dictA p2 (v_self.rows_of : (List (Str × (List Str)))), dictE dictA p3 (v_self.holders : (List (Str × (List (Str × Bool))))), F] : List (Asn G)) := hS
    refine c_ret ?_
    refine c_fz ?_
    refine c_cb ?_
    refine c_cons ?_
    refine c_dget2 ?_
    refine ev_to (ev_fld (ev_var rfl) (hS.getCell (i := 0) rfl) T.cl_Index T.n_Index_holders rfl) ?_
    refine k_get2a (isD_Ei hS (i := 2) rfl) ?_
    refine ev_to (ev_var rfl) ?_
    refine k_get2b ?_
    refine k_dnew (κ := Str) (β := Bool) hS fun p4 H hS => ?_
    refine k_get2E (k := v_word) (hS.sel [3, 0, 1, 2, 4] (by decide) rfl : Sep _ (dictE dictA p3 (v_self.holders : (List (Str × (List (Str × Bool))))) :: dictA p4 (([] : (List (Str × Bool))) : (List (Str × Bool))) :: [cell a_v_self (.ins (G.cl 2) dx1 [("rows_of", (.ref p2)), ("holders", (.ref p3))]), dictA p2 (v_self.rows_of : (List (Str × (List Str)))), F] : List (Asn G))) fun p6 R7 hb8 hS => ?_
    have hS : Sep H ([dictA p6 ((dget v_self.holders v_word).getD ([] : (List (Str × Bool))) : (List (Str × Bool))), R7, cell a_v_self (.ins (G.cl 2) dx1 [("rows_of", (.ref p2)), ("holders", (.ref p3))]), dictA p2 (v_self.rows_of : (List (Str × (List Str)))), F] : List (Asn G)) := hS
    refine c_nil ?_
    obtain ⟨h10, hm⟩ := R.wp_need hm
    refine k_sortDA hS (i := 0) rfl h10 fun p9 H hS => ?_
    refine fz_no ?_
    have hS : Sep H ([dictE dictA p3 (v_self.holders : (List (Str × (List (Str × Bool))))), lstA p9 (sortT (((dget v_self.holders v_word).getD ([] : (List (Str × Bool)))).map (·.1)) : (List Str)), cell a_v_self (.ins (G.cl 2) dx1 [("rows_of", (.ref p2)), ("holders", (.ref p3))]), dictA p2 (v_self.rows_of : (List (Str × (List Str)))), F] : List (Asn G)) := hb8 _ _ (hS.sel [1, 2, 0, 3, 4, 5] (by decide) rfl)
    have hS : Sep H (IndexA a_v_self v_self :: [lstA p9 (sortT (((dget v_self.holders v_word).getD ([] : (List (Str × Bool)))).map (·.1)) : (List Str)), F] : List (Asn G)) := pack_Index (hS.sel [2, 3, 0, 1, 4] (by decide) rfl)
    exact hm _ _ (hS.sel [1, 0, 2] (by decide) rfl)
def sp_Index_words (G : Gx) : Sp := fun vs H Q E => ∃ (a_v_self : Addr) (v_self : Index) (v_name : Str) (F : Asn G), vs = [.ref a_v_self, (.str (v_name))] ∧ Sep H ([IndexA a_v_self v_self, F] : List (Asn G)) ∧ R.wp (m_Index_words v_self v_name) (fun r => ∀ p H', Sep H' ([lstA p (r : (List Str)), IndexA a_v_self v_self, F] : List (Asn G)) → Q (.ref p) H') (fun x => ∀ H', Sep H' ([IndexA a_v_self v_self, F] : List (Asn G)) → Eok G x E H')
abbrev N_Index_words : List Str := ["self", "name"]
theorem sc_Index_words : FnScope N_Index_words ["self", "name"] (defScope s_Index_words) := ⟨rfl, rfl, rfl, by decide +kernel, rfl, by decide +kernel, by decide +kernel⟩
theorem ok_Index_words (T : Txt G mg) : FnOk P w G.K mg base (L2.CX P w) 2 T.a_Index_words T.fd_Index_words ["self", "name"] (sp_Index_words G) := by
  have nd := sc_Index_words.nd
  refine Fun.okX T.F_Index_words sc_Index_words (fun vs H Q E h => ?_) (fun cdv A outer s H vs Q E hr h => ?_)
  · obtain ⟨a_v_self, v_self, v_name, F, rfl, _⟩ := h; rfl
  · obtain ⟨a_v_self, v_self, v_name, F, rfl, hS, hm⟩ := h
    refine ⟨_, (pss_cons (ps_expr (pe_meth (pv 0) T.cl_Index T.m_Index_sure (ok_Index_sure T) (hr.mono (by decide)) T.b_Index_sure .nil (passes_call (takes_of rfl rfl rfl rfl) (fun _ _ _ _ h => h)) (pa_cons (pv 1) pa_nil)))
      (pss_one (ps_ret (pe_fz (pe_callTy (listSqK G.K) (by rfl) T.z_list (by decide +kernel) (pa_cons (pe_dget (hu_of hr) (pe_fld (pv 0) rfl) (pv 1) (fun _ _ => rfl)) pa_nil)))))), ?_⟩
    unfold m_Index_words at hm
    have hS : Sep H (IndexA a_v_self v_self :: [F] : List (Asn G)) := hS.sel [0, 1] (by decide) rfl
    obtain ⟨dx1, p2, p3, hS⟩ := open_Index hS
    have hS : Sep H ([cell a_v_self (.ins (G.cl 2) dx1 [("rows_of", (.ref p2)), ("holders", (.ref p3))]), dictA p2 (v_self.rows_of : (List (Str × (List Str)))), dictE dictA p3 (v_self.holders : (List (Str × (List (Str × Bool))))), F] : List (Asn G)) := hS
    refine f_seq ?_
    refine c_drop ?_
    refine c_meth ?_
    refine ev_to (ev_var rfl) ?_
    refine ⟨_, _, _, rfl, (hS.getCell (i := 0) rfl), rfl, ?_⟩
    refine ea_to (ea_cons (ev_var rfl) ea_nil) ?_
    have hS : Sep H (IndexA a_v_self v_self :: [F] : List (Asn G)) := pack_Index (hS.sel [0, 1, 2, 3] (by decide) rfl)
    refine ⟨a_v_self, (v_self : Index), v_name, star [F], rfl, Sep.unstar (M := [IndexA a_v_self v_self]) (hS.sel [0, 1] (by decide) rfl : Sep H (([IndexA a_v_self v_self] ++ [F] : List (Asn G)))), R.wp_mono (R.wp_bind hm) (fun r4 hm H hS => ?_) (fun x hx H hS => ?_)⟩
    ·
      have hS : Sep H ([IndexA a_v_self v_self, F] : List (Asn G)) := Sep.star (M := [IndexA a_v_self v_self]) hS
      have hS : Sep H (IndexA a_v_self v_self :: [F] : List (Asn G)) := hS.sel [0, 1] (by decide) rfl
      obtain ⟨dx5, p6, p7, hS⟩ := open_Index hS
      have hS : Sep H ([cell a_v_self (.ins (G.cl 2) dx5 [("rows_of", (.ref p6)), ("holders", (.ref p7))]), dictA p6 (v_self.rows_of : (List (Str × (List Str)))), dictE dictA p7 (v_self.holders : (List (Str × (List (Str × Bool))))), F] : List (Asn G)) := hS
      refine sq_nx ?_
      refine c_ret ?_
      refine c_fz ?_
      refine c_cb ?_
      obtain ⟨y8, hy8, hm⟩ := wp_dget hm
      obtain ⟨v9, g10, hv11⟩ := dget_some hS (i := 1) rfl hy8
      obtain ⟨a12, rfl⟩ := isref hv11
      refine ea_to (ea_cons (ev_dget (y := y8) hS (i := 1) rfl (ev_fld (ev_var rfl) (hS.getCell (i := 0) rfl) T.cl_Index T.n_Index_rows_of rfl) (ev_var rfl) g10) ea_nil) ?_
      have hS := hS.addIm (v := (.ref a12)) (x := (y8 : (List Str))) hv11
      refine k_listG hS (imPl (hS.im (i := 0) rfl)) fun p14 H hS => ?_
      refine fz_no ?_
      have hS : Sep H (IndexA a_v_self v_self :: [lstA p14 (y8 : (List Str)), imA (.ref a12) (y8 : (List Str)), F] : List (Asn G)) := pack_Index (hS.sel [2, 3, 4, 0, 1, 5] (by decide) rfl)
      exact hm _ _ (hS.sel [1, 0, 3] (by decide) rfl)
    ·
      have hS : Sep H ([IndexA a_v_self v_self, F] : List (Asn G)) := Sep.star (M := [IndexA a_v_self v_self]) hS
      exact hx _ (hS.sel [0, 1] (by decide) rfl)
def sp_Index_all_words (G : Gx) : Sp := fun vs H Q E => ∃ (a_v_self : Addr) (v_self : Index) (F : Asn G), vs = [.ref a_v_self] ∧ Sep H ([IndexA a_v_self v_self, F] : List (Asn G)) ∧ R.wp (m_Index_all_words v_self) (fun r => ∀ p H', Sep H' ([lstA p (r : (List Str)), IndexA a_v_self v_self, F] : List (Asn G)) → Q (.ref p) H') (fun _ => False)
abbrev N_Index_all_words : List Str := ["self"]
theorem sc_Index_all_words : FnScope N_Index_all_words ["self"] (defScope s_Index_all_words) := ⟨rfl, rfl, rfl, by decide +kernel, rfl, by decide +kernel, by decide +kernel⟩
theorem ok_Index_all_words (T : Txt G mg) : FnOk P w G.K mg base CX0 1 T.a_Index_all_words T.fd_Index_all_words ["self"] (sp_Index_all_words G) := by
  have nd := sc_Index_all_words.nd
  refine Fun.ok T.F_Index_all_words sc_Index_all_words (fun vs H Q E h => ?_) (fun cdv A outer s H vs Q E hr h => ?_)
  · obtain ⟨a_v_self, v_self, F, rfl, _⟩ := h; rfl
  · obtain ⟨a_v_self, v_self, F, rfl, hS, hm⟩ := h
    refine ⟨_, (pss_one (ps_ret (pe_fz (pe_callB (cr_sortD rfl) (by rfl) T.z_sorted (by decide +kernel) (pa_cons (pe_fld (pv 0) rfl) pa_nil))))), ?_⟩
    unfold m_Index_all_words at hm
    have hS : Sep H (IndexA a_v_self v_self :: [F] : List (Asn G)) := hS.sel [0, 1] (by decide) rfl
    obtain ⟨dx1, p2, p3, hS⟩ := open_Index hS
    have hS : Sep H ([cell a_v_self (.ins (G.cl 2) dx1 [("rows_of", (.ref p2)), ("holders", (.ref p3))]), dictA p2 (v_self.rows_of : (List (Str × (List Str)))), dictE dictA p3 (v_self.holders : (List (Str × (List (Str × Bool))))), F] : List (Asn G)) := hS
    refine c_ret ?_
    refine c_fz ?_
    refine c_cb ?_
    refine ea_to (ea_cons (ev_fld (ev_var rfl) (hS.getCell (i := 0) rfl) T.cl_Index T.n_Index_holders rfl) ea_nil) ?_
    obtain ⟨h5, hm⟩ := R.wp_need hm
    refine k_sortDEi hS (i := 2) rfl h5 fun p4 H hS => ?_
    refine fz_no ?_
    have hS : Sep H (IndexA a_v_self v_self :: [lstA p4 (sortT (v_self.holders.map (·.1)) : (List Str)), F] : List (Asn G)) := pack_Index (hS.sel [1, 2, 3, 0, 4] (by decide) rfl)
    exact hm _ _ (hS.sel [1, 0, 2] (by decide) rfl)
def sp_law_draws (G : Gx) : Sp := fun vs H Q E => ∃ (a_v_law_script : V) (v_law_script : Script) (v_law_many : Int) (F : Asn G), vs = [a_v_law_script, (.int (v_law_many))] ∧ Im.im G H a_v_law_script v_law_script ∧ Sep H ([F] : List (Asn G)) ∧ R.wp (m_law_draws v_law_script v_law_many) (fun r => ∀ p H', Sep H' ([lstA p (r : (List Int)), F] : List (Asn G)) → Q (.ref p) H') (fun _ => False)
abbrev N_law_draws : List Str := ["_law_script", "_law_many", "_law_found", "_law_more", "_law_k", "_law_cell"]
theorem sc_law_draws : FnScope N_law_draws ["_law_script", "_law_many"] (defScope s_law_draws) := ⟨rfl, rfl, rfl, by decide +kernel, rfl, by decide +kernel, by decide +kernel⟩
theorem ok_law_draws (T : Txt G mg) : FnOk P w G.K mg base CX0 1 T.a_law_draws T.fd_law_draws ["_law_script", "_law_many"] (sp_law_draws G) := by
  have nd := sc_law_draws.nd
  refine Fun.ok T.F_law_draws sc_law_draws (fun vs H Q E h => ?_) (fun cdv A outer s H vs Q E hr h => ?_)
  · obtain ⟨a_v_law_script, v_law_script, v_law_many, F, rfl, _⟩ := h; rfl
  · obtain ⟨a_v_law_script, v_law_script, v_law_many, F, rfl, him_v_law_script, hS, hm⟩ := h
    obtain ⟨ad_v_law_script, rfl, _⟩ := im_script him_v_law_script
    have hS := hS.addIm him_v_law_script
    refine ⟨_, (pss_cons (ps_set (i := 2) nd rfl (Or.inl rfl) (pe_fz (pe_lst pa_nil)))
      (pss_cons (ps_set (i := 3) nd rfl (Or.inl rfl) pe_int)
      (pss_cons (ps_for PassesOwn.never rfl (pi_range1 rfl T.z_range (pa_cons (pv 1) pa_nil)) (pg_name (i := 4) nd rfl (Or.inl rfl)) (pss_cons (ps_set (i := 5) nd rfl (Or.inl rfl) pe_int)
      (pss_cons (ps_if (pt_cmpR op_gt (pe_callB (lenSqK G.K) (by rfl) T.z_len PySem.boot_len (pa_cons (pv 0) pa_nil)) pe_int (nomark _)) (pss_one (ps_set (i := 5) nd rfl (Or.inl rfl) (pe_ix (ix_listK G.K) (pv 0) (pe_op op_mod (pv 4) (pe_callB (lenSqK G.K) (by rfl) T.z_len PySem.boot_len (pa_cons (pv 0) pa_nil))) (fun _ _ => rfl)))) pss_nil)
      (pss_cons (ps_set (i := 3) nd rfl (Or.inl rfl) (pe_op op_mod (pe_op op_add (pe_op op_add (pe_op op_add (pe_op op_mul (pv 3) pe_int) (pv 5)) (pv 4)) pe_int) pe_int))
      (pss_one (ps_expr (pe_bmK G.K PySem.F.plainAttrs_list PySem.F.slot_list_append PySem.F.type_list_append mt_append (pe_fz (pv 2)) (pa_cons (pe_op op_mod (pe_op op_mul (pv 3) (pv 3)) pe_int) pa_nil))))))))
      (pss_one (ps_ret (pe_fz (pv 2))))))), ?_⟩
    unfold m_law_draws at hm
    refine f_seq ?_
    refine c_asg ?_
    refine c_fz ?_
    refine c_lst ?_
    refine ea_to ea_nil ?_
    refine k_lst (α := Int) (vs := []) (xs := ([] : (List Int))) hS True.intro (by show 0 ≤ sizeLine; decide) fun p1 H hS => ?_
    refine fz_no ?_
    refine c_set (σ' := [some (.ref ad_v_law_script), some (.int (v_law_many)), some (.ref p1), none, none, none]) rfl ?_
    refine sq_nx ?_
    refine f_seq ?_
    refine c_asg ?_
    refine ev_to ev_c ?_
    refine c_set (σ' := [some (.ref ad_v_law_script), some (.int (v_law_many)), some (.ref p1), some (.int (7)), none, none]) rfl ?_
    refine sq_nx ?_
    refine f_seq ?_
    refine c_for ?_
    refine c_rng1 ?_
    refine ea_to (ea_cons (ev_var rfl) ea_nil) ?_
    obtain ⟨h2, hm⟩ := R.wp_need hm
    refine k_rng1 h2.1 h2.2 ?_
    refine k_for (τ := (List Int) × Int) (fun (s3 : (List Int) × Int) (σ : L2.St) (H : Hp) => ∃ (w6 w7 : Option V), σ = [some (.ref ad_v_law_script), some (.int (v_law_many)), some (.ref p1), some (.int (s3.2)), w6, w7] ∧ Sep H ([lstA p1 (s3.1 : (List Int)), imA (.ref ad_v_law_script) v_law_script, F] : List (Asn G))) (im := (fun _ v (x : Int) => v = .int x)) (s := (([] : (List Int)), 7)) (fun _ => wk_range) ⟨_, _, rfl, hS.sel [0, 1, 2] (by decide) rfl⟩ hm (fun s3 x4 v5 σ H q N hI hx hm nx => ?_) (fun s3 σ H hm hI => ?_)
    ·
      obtain ⟨w6, w7, rfl, hS⟩ := hI
      cases hx
      refine c_gN (σ' := [some (.ref ad_v_law_script), some (.int (v_law_many)), some (.ref p1), some (.int (s3.2)), some (.int (x4)), w7]) rfl ?_
      refine f_seq ?_
      refine c_asg ?_
      refine ev_to ev_c ?_
      refine c_set (σ' := [some (.ref ad_v_law_script), some (.int (v_law_many)), some (.ref p1), some (.int (s3.2)), some (.int (x4)), some (.int (0))]) rfl ?_
      refine sq_nx ?_
      refine f_seq ?_
      refine f_if ?_
      refine et_to (et_test (ev_i0 (ev_lenLm (ev_var rfl) (sq_script (hS.im (i := 1) rfl))) ev_c)) ?_
      refine ifK_J (τ := Int) (fun (s8 : Int) (σ : L2.St) (H : Hp) => σ = [some (.ref ad_v_law_script), some (.int (v_law_many)), some (.ref p1), some (.int (s3.2)), some (.int (x4)), some (.int (s8))] ∧ Sep H ([lstA p1 (s3.1 : (List Int)), imA (.ref ad_v_law_script) v_law_script, F] : List (Asn G))) hm (fun hb q hm nx => ?_) (fun hb q hm nx => ?_) (fun s8 σ H hm hI => ?_)
      ·
        refine c_asg ?_
        obtain ⟨h9, hm⟩ := R.wp_need hm
        obtain ⟨x10, hx10, hm⟩ := wp_idx hm
        refine ev_to (ev_ixSq (ev_var rfl) (ev_mod (ev_var rfl) (ev_lenLm (ev_var rfl) (sq_script (hS.im (i := 1) rfl))) h9) (sq_script (hS.im (i := 1) rfl)) (atI_map hx10)) ?_
        refine c_set (σ' := [some (.ref ad_v_law_script), some (.int (v_law_many)), some (.ref p1), some (.int (s3.2)), some (.int (x4)), some (.int (x10))]) rfl ?_
        exact nx _ _ _ hm ⟨rfl, hS.sel [0, 1, 2] (by decide) rfl⟩
      ·
        refine st_nx ?_
        exact nx _ _ _ hm ⟨rfl, hS.sel [0, 1, 2] (by decide) rfl⟩
      · obtain ⟨rfl, hS⟩ := hI
        refine sq_nx ?_
        refine f_seq ?_
        refine c_asg ?_
        refine ev_to (ev_mod (ev_add (ev_add (ev_add (ev_mul (ev_var rfl) ev_c (.inr (by constructor <;> decide))) (ev_var rfl)) (ev_var rfl)) ev_c) ev_c (by decide)) ?_
        obtain ⟨y11, hy11, hm⟩ := wp_let hm
        refine n_is (w := (.int (y11))) (by first | rw [hy11] | (subst hy11; rfl)) ?_
        refine c_set (σ' := [some (.ref ad_v_law_script), some (.int (v_law_many)), some (.ref p1), some (.int (y11)), some (.int (x4)), some (.int (s8))]) rfl ?_
        refine sq_nx ?_
        refine c_drop ?_
        refine c_bm ?_
        refine ev_to (ev_fz (ev_var rfl)) ⟨tyL hS (i := 0) rfl, ?_⟩
        obtain ⟨h12, hm⟩ := R.wp_need hm
        refine ea_to (ea_cons (ev_mod (ev_mul (ev_var rfl) (ev_var rfl) h12) ev_c (by decide)) ea_nil) ?_
        obtain ⟨h13, hm⟩ := R.wp_need hm
        refine k_append (x := (y11 * y11) % 2147483629) hS (i := 0) rfl rfl h13 rfl fun H hS => ?_
        exact nx _ _ _ hm ⟨_, _, rfl, hS.sel [0, 1, 2] (by decide) rfl⟩
    · obtain ⟨w6, w7, rfl, hS⟩ := hI
      refine sq_nx ?_
      refine c_ret ?_
      refine ev_to (ev_fz (ev_var rfl)) ?_
      exact hm _ _ (hS.sel [0, 2] (by decide) rfl)
def sp_law_name_by (G : Gx) : Sp := fun vs H Q E => ∃ (v_law_shape : Int) (v_law_k : Int) (F : Asn G), vs = [(.int (v_law_shape)), (.int (v_law_k))] ∧ Sep H ([F] : List (Asn G)) ∧ R.wp (m_law_name_by v_law_shape v_law_k) (fun r => ∀ H', Sep H' ([F] : List (Asn G)) → Q (.str (r)) H') (fun _ => False)
abbrev N_law_name_by : List Str := ["_law_shape", "_law_k", "_law_signs", "_law_place", "_law_name", "_law_turn"]
theorem sc_law_name_by : FnScope N_law_name_by ["_law_shape", "_law_k"] (defScope s_law_name_by) := ⟨rfl, rfl, rfl, by decide +kernel, rfl, by decide +kernel, by decide +kernel⟩
theorem ok_law_name_by (T : Txt G mg) : FnOk P w G.K mg base CX0 1 T.a_law_name_by T.fd_law_name_by ["_law_shape", "_law_k"] (sp_law_name_by G) := by
  have nd := sc_law_name_by.nd
  refine Fun.ok T.F_law_name_by sc_law_name_by (fun vs H Q E h => ?_) (fun cdv A outer s H vs Q E hr h => ?_)
  · obtain ⟨v_law_shape, v_law_k, F, rfl, _⟩ := h; rfl
  · obtain ⟨v_law_shape, v_law_k, F, rfl, hS, hm⟩ := h
    refine ⟨_, (pss_cons (ps_set (i := 2) nd rfl (Or.inl rfl) pe_str)
      (pss_cons (ps_if (pt_cmpR op_eq (pe_op op_mod (pv 0) pe_int) pe_int (nomark _)) (pss_one (ps_ret (pe_op op_repS (pe_ix ix_str (pv 2) (pe_op op_mod (pe_op op_add (pe_op op_fdiv (pv 0) pe_int) (pe_op op_fdiv (pv 1) pe_int)) pe_int) (fun _ _ => rfl)) (pe_op op_add pe_int (pe_op op_mod (pv 1) pe_int))))) pss_nil)
      (pss_cons (ps_set (i := 3) nd rfl (Or.inl rfl) (pe_op op_mod (pe_op op_fdiv (pv 0) pe_int) pe_int))
      (pss_cons (ps_set (i := 4) nd rfl (Or.inl rfl) pe_str)
      (pss_cons (ps_for PassesOwn.never rfl (pi_range1 rfl T.z_range (pa_cons (pe_op op_add (pe_op op_add (pv 3) pe_int) (pe_op op_mod (pe_op op_fdiv (pv 0) pe_int) (pe_op op_sub pe_int (pv 3)))) pa_nil)) (pg_name (i := 5) nd rfl (Or.inl rfl)) (pss_one (ps_if (pt_cmpR op_eq (pv 5) (pv 3) (nomark _)) (pss_one (ps_set (i := 4) nd rfl (Or.inl rfl) (pe_op op_catS (pv 4) (pe_ix ix_str (pv 2) (pe_op op_mod (pe_op op_add (pe_op op_fdiv (pv 0) pe_int) (pe_op op_fdiv (pv 1) pe_int)) pe_int) (fun _ _ => rfl))))) (pss_one (ps_if (pt_cmpR op_eq (pv 5) (pe_op op_add (pv 3) pe_int) (nomark _)) (pss_one (ps_set (i := 4) nd rfl (Or.inl rfl) (pe_op op_catS (pv 4) (pe_ix ix_str (pv 2) (pe_op op_mod (pe_op op_add (pe_op op_fdiv (pv 0) pe_int) (pv 1)) pe_int) (fun _ _ => rfl))))) (pss_one (ps_set (i := 4) nd rfl (Or.inl rfl) (pe_op op_catS (pv 4) (pe_ix ix_str (pv 2) (pe_op op_mod (pe_op op_add (pe_op op_fdiv (pv 0) pe_int) (pe_op op_mul (pv 5) (pe_op op_add pe_int (pe_op op_mod (pv 0) pe_int)))) pe_int) (fun _ _ => rfl))))))))))
      (pss_one (ps_ret (pv 4)))))))), ?_⟩
    unfold m_law_name_by at hm
    refine f_seq ?_
    refine c_asg ?_
    refine ev_to ev_c ?_
    refine c_set (σ' := [some (.int (v_law_shape)), some (.int (v_law_k)), some (.str (("abcdefghijklmnopqrstuvwxyz0123456789" : Str))), none, none, none]) rfl ?_
    refine sq_nx ?_
    refine f_seq ?_
    refine f_if ?_
    refine et_to (et_test (ev_eqI (ev_mod (ev_var rfl) ev_c (by decide)) ev_c)) ?_
    refine ifK_2 (fun hb1 => ?_) (fun hb1 => ?_)
    · have hm := R.wp_ifY hm hb1
      refine c_ret ?_
      obtain ⟨c2, hc2, hm⟩ := wp_idx hm
      obtain ⟨h3, hm⟩ := R.wp_need hm
      refine ev_to (ev_repS (ev_ixS (ev_var rfl) (ev_mod (ev_add (ev_fdiv (ev_var rfl) ev_c ⟨by decide, by decide⟩) (ev_fdiv (ev_var rfl) ev_c ⟨by decide, by decide⟩)) ev_c (by decide)) (by decide +kernel) hc2) (ev_add ev_c (ev_mod (ev_var rfl) ev_c (by decide))) h3) ?_
      exact hm _ (hS.sel [0] (by decide) rfl)
    · have hm := R.wp_ifN hm (by first | (rw [hb1]; decide) | simpa using hb1)
      refine st_nx ?_
      refine sq_nx ?_
      refine f_seq ?_
      refine c_asg ?_
      refine ev_to (ev_mod (ev_fdiv (ev_var rfl) ev_c ⟨by decide, by decide⟩) ev_c (by decide)) ?_
      obtain ⟨y4, hy4, hm⟩ := wp_let hm
      refine n_is (w := (.int (y4))) (by first | rw [hy4] | (subst hy4; rfl)) ?_
      refine c_set (σ' := [some (.int (v_law_shape)), some (.int (v_law_k)), some (.str (("abcdefghijklmnopqrstuvwxyz0123456789" : Str))), some (.int (y4)), none, none]) rfl ?_
      refine sq_nx ?_
      refine f_seq ?_
      refine c_asg ?_
      refine ev_to ev_c ?_
      refine c_set (σ' := [some (.int (v_law_shape)), some (.int (v_law_k)), some (.str (("abcdefghijklmnopqrstuvwxyz0123456789" : Str))), some (.int (y4)), some (.str (("" : Str))), none]) rfl ?_
      refine sq_nx ?_
      refine f_seq ?_
      refine c_for ?_
      refine c_rng1 ?_
      obtain ⟨h5, hm⟩ := R.wp_need hm
      refine ea_to (ea_cons (ev_add (ev_add (ev_var rfl) ev_c) (ev_mod (ev_fdiv (ev_var rfl) ev_c ⟨by decide, by decide⟩) (ev_sub ev_c (ev_var rfl)) h5)) ea_nil) ?_
      obtain ⟨h6, hm⟩ := R.wp_need hm
      refine k_rng1 h6.1 h6.2 ?_
      refine k_for (τ := Str) (fun (s7 : Str) (σ : L2.St) (H : Hp) => ∃ (w10 : Option V), σ = [some (.int (v_law_shape)), some (.int (v_law_k)), some (.str (("abcdefghijklmnopqrstuvwxyz0123456789" : Str))), some (.int (y4)), some (.str (s7)), w10] ∧ Sep H ([F] : List (Asn G))) (im := (fun _ v (x : Int) => v = .int x)) (s := (("" : Str))) (fun _ => wk_range) ⟨_, rfl, hS.sel [0] (by decide) rfl⟩ hm (fun s7 x8 v9 σ H q N hI hx hm nx => ?_) (fun s7 σ H hm hI => ?_)
      ·
        obtain ⟨w10, rfl, hS⟩ := hI
        cases hx
        refine c_gN (σ' := [some (.int (v_law_shape)), some (.int (v_law_k)), some (.str (("abcdefghijklmnopqrstuvwxyz0123456789" : Str))), some (.int (y4)), some (.str (s7)), some (.int (x8))]) rfl ?_
        refine f_if ?_
        refine et_to (et_test (ev_eqI (ev_var rfl) (ev_var rfl))) ?_
        refine ifK_J (τ := Str) (fun (s11 : Str) (σ : L2.St) (H : Hp) => σ = [some (.int (v_law_shape)), some (.int (v_law_k)), some (.str (("abcdefghijklmnopqrstuvwxyz0123456789" : Str))), some (.int (y4)), some (.str (s11)), some (.int (x8))] ∧ Sep H ([F] : List (Asn G))) hm (fun hb q hm nx => ?_) (fun hb q hm nx => ?_) (fun s11 σ H hm hI => ?_)
        ·
          refine c_asg ?_
          obtain ⟨c12, hc12, hm⟩ := wp_idx hm
          obtain ⟨h13, hm⟩ := R.wp_need hm
          refine ev_to (ev_catS (ev_var rfl) (ev_ixS (ev_var rfl) (ev_mod (ev_add (ev_fdiv (ev_var rfl) ev_c ⟨by decide, by decide⟩) (ev_fdiv (ev_var rfl) ev_c ⟨by decide, by decide⟩)) ev_c (by decide)) (by decide +kernel) hc12) h13) ?_
          obtain ⟨y14, hy14, hm⟩ := wp_let hm
          refine n_is (w := (.str (y14))) (by first | rw [hy14] | (subst hy14; rfl)) ?_
          refine c_set (σ' := [some (.int (v_law_shape)), some (.int (v_law_k)), some (.str (("abcdefghijklmnopqrstuvwxyz0123456789" : Str))), some (.int (y4)), some (.str (y14)), some (.int (x8))]) rfl ?_
          exact nx _ _ _ hm ⟨rfl, hS.sel [0] (by decide) rfl⟩
        ·
          refine f_if ?_
          refine et_to (et_test (ev_eqI (ev_var rfl) (ev_add (ev_var rfl) ev_c))) ?_
          refine ifK_J (τ := Str) (fun (s15 : Str) (σ : L2.St) (H : Hp) => σ = [some (.int (v_law_shape)), some (.int (v_law_k)), some (.str (("abcdefghijklmnopqrstuvwxyz0123456789" : Str))), some (.int (y4)), some (.str (s15)), some (.int (x8))] ∧ Sep H ([F] : List (Asn G))) hm (fun hb q hm nx => ?_) (fun hb q hm nx => ?_) (fun s15 σ H hm hI => ?_)
          ·
            refine c_asg ?_
            obtain ⟨c16, hc16, hm⟩ := wp_idx hm
            obtain ⟨h17, hm⟩ := R.wp_need hm
            refine ev_to (ev_catS (ev_var rfl) (ev_ixS (ev_var rfl) (ev_mod (ev_add (ev_fdiv (ev_var rfl) ev_c ⟨by decide, by decide⟩) (ev_var rfl)) ev_c (by decide)) (by decide +kernel) hc16) h17) ?_
            obtain ⟨y18, hy18, hm⟩ := wp_let hm
            refine n_is (w := (.str (y18))) (by first | rw [hy18] | (subst hy18; rfl)) ?_
            refine c_set (σ' := [some (.int (v_law_shape)), some (.int (v_law_k)), some (.str (("abcdefghijklmnopqrstuvwxyz0123456789" : Str))), some (.int (y4)), some (.str (y18)), some (.int (x8))]) rfl ?_
            exact nx _ _ _ hm ⟨rfl, hS.sel [0] (by decide) rfl⟩
          ·
            refine c_asg ?_
            obtain ⟨h19, hm⟩ := R.wp_need hm
            obtain ⟨c20, hc20, hm⟩ := wp_idx hm
            obtain ⟨h21, hm⟩ := R.wp_need hm
            refine ev_to (ev_catS (ev_var rfl) (ev_ixS (ev_var rfl) (ev_mod (ev_add (ev_fdiv (ev_var rfl) ev_c ⟨by decide, by decide⟩) (ev_mul (ev_var rfl) (ev_add ev_c (ev_mod (ev_var rfl) ev_c (by decide))) h19)) ev_c (by decide)) (by decide +kernel) hc20) h21) ?_
            obtain ⟨y22, hy22, hm⟩ := wp_let hm
            refine n_is (w := (.str (y22))) (by first | rw [hy22] | (subst hy22; rfl)) ?_
            refine c_set (σ' := [some (.int (v_law_shape)), some (.int (v_law_k)), some (.str (("abcdefghijklmnopqrstuvwxyz0123456789" : Str))), some (.int (y4)), some (.str (y22)), some (.int (x8))]) rfl ?_
            exact nx _ _ _ hm ⟨rfl, hS.sel [0] (by decide) rfl⟩
          · obtain ⟨rfl, hS⟩ := hI
            exact nx _ _ _ hm ⟨rfl, hS.sel [0] (by decide) rfl⟩
        · obtain ⟨rfl, hS⟩ := hI
          exact nx _ _ _ hm ⟨_, rfl, hS.sel [0] (by decide) rfl⟩
      · obtain ⟨w10, rfl, hS⟩ := hI
        refine sq_nx ?_
        refine c_ret ?_
        refine ev_to (ev_var rfl) ?_
        exact hm _ (hS.sel [0] (by decide) rfl)
def sp_law_pool (G : Gx) : Sp := fun vs H Q E => ∃ (a_v_law_draws_here : Addr) (v_law_draws_here : (List Int)) (F : Asn G), vs = [.ref a_v_law_draws_here] ∧ Sep H ([lstA a_v_law_draws_here (v_law_draws_here : (List Int)), F] : List (Asn G)) ∧ R.wp (m_law_pool v_law_draws_here) (fun r => ∀ p H', Sep H' ([lstA p (r : (List Str)), lstA a_v_law_draws_here (v_law_draws_here : (List Int)), F] : List (Asn G)) → Q (.ref p) H') (fun _ => False)
abbrev N_law_pool : List Str := ["_law_draws_here", "_law_many", "_law_k"]
theorem sc_law_pool : FnScope N_law_pool ["_law_draws_here"] (defScope s_law_pool) := ⟨rfl, rfl, rfl, by decide +kernel, rfl, by decide +kernel, by decide +kernel⟩
theorem ok_law_pool (T : Txt G mg) : FnOk P w G.K mg base CX0 2 T.a_law_pool T.fd_law_pool ["_law_draws_here"] (sp_law_pool G) := by
  have nd := sc_law_pool.nd
  refine Fun.ok T.F_law_pool sc_law_pool (fun vs H Q E h => ?_) (fun cdv A outer s H vs Q E hr h => ?_)
  · obtain ⟨a_v_law_draws_here, v_law_draws_here, F, rfl, _⟩ := h; rfl
  · obtain ⟨a_v_law_draws_here, v_law_draws_here, F, rfl, hS, hm⟩ := h
    refine ⟨_, (pss_cons (ps_set (i := 1) nd rfl (Or.inl rfl) (pe_op op_add pe_int (pe_op op_mod (pe_ix (ix_listK G.K) (pe_fz (pv 0)) pe_int (fun _ _ => rfl)) pe_int)))
      (pss_one (ps_ret (pe_fz (pe_lc (own := [("_law_k", 2)]) (g := gName 2) rfl nd (pi_range1 rfl T.z_range (pa_cons (pv 1) pa_nil)) (blkOk_by (own := [("_law_k", 2)]) (N := N_law_pool) (sc := defScope s_law_pool) (by decide +kernel)) (fun _ _ _ _ _ => pg_name (i := 2) nd rfl (Or.inl rfl)) (fun _ _ _ _ _ => pts_nil) (fun _ _ _ _ _ => (pe_call (ok_law_name_by T) (hr.mono (by decide)) rfl T.g_law_name_by T.kp_law_name_by T.b_law_name_by .nil pass0 (pa_cons (pe_ix (ix_listK G.K) (pe_fz (pv 0)) pe_int (fun _ _ => rfl)) (pa_cons (pv 2) pa_nil))))))))), ?_⟩
    unfold m_law_pool at hm
    refine f_seq ?_
    refine c_asg ?_
    obtain ⟨x1, hx1, hm⟩ := wp_idx hm
    refine ev_to (ev_add ev_c (ev_mod (ev_ixSq (ev_fz (ev_var rfl)) ev_c (hS.sqF (i := 0) rfl) (atI_map hx1)) ev_c (by decide))) ?_
    obtain ⟨y2, hy2, hm⟩ := wp_let hm
    refine n_is (w := (.int (y2))) (by first | rw [hy2] | (subst hy2; rfl)) ?_
    refine c_set (σ' := [some (.ref a_v_law_draws_here), some (.int (y2)), none]) rfl ?_
    refine sq_nx ?_
    refine c_ret ?_
    refine c_fz ?_
    refine c_lc ?_
    refine c_rng1 ?_
    refine ea_to (ea_cons (ev_var rfl) ea_nil) ?_
    obtain ⟨h3, hm⟩ := R.wp_need hm
    refine k_rng1 h3.1 h3.2 ?_
    obtain ⟨h4, hm⟩ := R.wp_need hm
    refine lc_sep (β := Str) (fun (_ : Unit) => ([lstA a_v_law_draws_here (v_law_draws_here : (List Int)), F] : List (Asn G))) (s := ()) (im := (fun _ v (x : Int) => v = .int x)) hS (fun _ _ _ => wk_range) h4 hm (fun p5 _ ys8 x6 v7 H q Nx hS hx hm kS kN => ?_) (fun p5 t H hm hS => ?_)
    ·
      cases hx
      refine c_gLc (σ' := [some (.ref a_v_law_draws_here), some (.int (y2)), some (.int (x6))]) rfl rfl ?_
      refine c_yes ?_
      refine c_call ?_
      obtain ⟨x9, hx9, hm⟩ := wp_idx hm
      refine ea_to (ea_cons (ev_ixSq (ev_fz (ev_var rfl)) ev_c (hS.sqF (i := 1) rfl) (atI_map hx9)) (ea_cons (ev_var rfl) ea_nil)) ?_
      refine ⟨x9, x6, star [lstA p5 (ys8 : List Str), lstA a_v_law_draws_here (v_law_draws_here : (List Int)), F], rfl, Sep.unstar (M := []) (hS.sel [0, 1, 2] (by decide) rfl : Sep H (([] ++ [lstA p5 (ys8 : List Str), lstA a_v_law_draws_here (v_law_draws_here : (List Int)), F] : List (Asn G)))), R.wp_mono (R.wp_bind hm) (fun r10 hm H hS => ?_) (fun _ z => z)⟩
      have hS : Sep H ([lstA p5 (ys8 : List Str), lstA a_v_law_draws_here (v_law_draws_here : (List Int)), F] : List (Asn G)) := Sep.star (M := []) hS
      exact kS () _ _ _ hm rfl (hS.sel [0, 1, 2] (by decide) rfl)
    · revert hm hS; generalize t = t11; intro hm hS
      refine fz_no ?_
      exact hm _ _ (hS.sel [0, 1, 2] (by decide) rfl)
def sp_law_is_list (G : Gx) : Sp := fun vs H Q E => ∃ (a_v_law_found : Addr) (v_law_found : (List Str)) (a_v_law_due : Addr) (v_law_due : (List Str)) (F : Asn G), vs = [.ref a_v_law_found, .ref a_v_law_due] ∧ Sep H ([lstA a_v_law_found (v_law_found : (List Str)), lstA a_v_law_due (v_law_due : (List Str)), F] : List (Asn G)) ∧ R.wp (m_law_is_list v_law_found v_law_due) (fun r => ∀ H', Sep H' ([lstA a_v_law_found (v_law_found : (List Str)), lstA a_v_law_due (v_law_due : (List Str)), F] : List (Asn G)) → Q (.bl (r)) H') (fun _ => False)
abbrev N_law_is_list : List Str := ["_law_found", "_law_due", "_law_one"]
theorem sc_law_is_list : FnScope N_law_is_list ["_law_found", "_law_due"] (defScope s_law_is_list) := ⟨rfl, rfl, rfl, by decide +kernel, rfl, by decide +kernel, by decide +kernel⟩
theorem ok_law_is_list (T : Txt G mg) : FnOk P w G.K mg base CX0 1 T.a_law_is_list T.fd_law_is_list ["_law_found", "_law_due"] (sp_law_is_list G) := by
  have nd := sc_law_is_list.nd
  refine Fun.ok T.F_law_is_list sc_law_is_list (fun vs H Q E h => ?_) (fun cdv A outer s H vs Q E hr h => ?_)
  · obtain ⟨a_v_law_found, v_law_found, a_v_law_due, v_law_due, F, rfl, _⟩ := h; rfl
  · obtain ⟨a_v_law_found, v_law_found, a_v_law_due, v_law_due, F, rfl, hS, hm⟩ := h
    refine ⟨_, (pss_cons (ps_if (PW.pt (pw_or (pt_not (pt_val (pe_callB (isiK G.K) (by rfl) T.z_isinstance (by decide +kernel) (pa_cons (pe_fz (pv 0)) (pa_cons (pe_bltn (v := .ty "list") (by rfl) T.z_list (by decide +kernel) rfl) pa_nil))))) (pw_or1 (pt_cmpR (neDK G.K hr.units) (pe_fz (pv 0)) (pe_fz (pv 1)) (nomark _))))) (pss_one (ps_ret pe_bl)) pss_nil)
      (pss_one (ps_ret (pe_callB (allK G.K rfl) (by rfl) T.z_all (by decide +kernel) (pa_cons (pe_fz (pe_lc (own := [("_law_one", 2)]) (g := gName 2) rfl nd (pi_listK G.K (pe_fz (pv 0))) (blkOk_by (own := [("_law_one", 2)]) (N := N_law_is_list) (sc := defScope s_law_is_list) (by decide +kernel)) (fun _ _ _ _ _ => pg_name (i := 2) nd rfl (Or.inl rfl)) (fun _ _ _ _ _ => pts_nil) (fun _ _ _ _ _ => (pe_callB (isiTK G.K) (by rfl) T.z_isinstance (by decide +kernel) (pa_cons (pv 2) (pa_cons (pe_tup (pa_cons (pe_bltn (v := .ty "str") (by rfl) T.z_str (by decide +kernel) rfl) (pa_cons (pe_bltn (v := .ty "list") (by rfl) T.z_list (by decide +kernel) rfl) pa_nil))) pa_nil)))))) pa_nil))))), ?_⟩
    unfold m_law_is_list at hm
    refine f_seq ?_
    refine f_if ?_
    refine f_or ?_
    refine et_to (et_not (et_B (ev_isi (G := G) (x := (.ref a_v_law_found)) (T := "list") (U := "list") (b := true) (ev_fz (ev_var rfl)) ev_c (ty_lst hS (i := 0) rfl) (by decide +kernel)))) ?_
    refine orK_f ?_
    obtain ⟨h1, hm⟩ := R.wp_need hm
    obtain ⟨h2, hm⟩ := R.wp_need hm
    refine et_to (et_test (ev_neP (G := G) (x := (v_law_found : (List Str))) (y := v_law_due) (ev_fz (ev_var rfl)) (ev_fz (ev_var rfl)) (dpOwn hS (i := 0) rfl) (dpOwn hS (i := 1) rfl) h1 h2 (Nat.le_of_ble_eq_true rfl))) ?_
    refine ifK_2 (fun hb3 => ?_) (fun hb3 => ?_)
    · have hm := R.wp_ifY hm hb3
      refine c_ret ?_
      refine ev_to ev_c ?_
      exact hm _ (hS.sel [0, 1, 2] (by decide) rfl)
    · have hm := R.wp_ifN hm (by first | (rw [hb3]; decide) | simpa using hb3)
      refine st_nx ?_
      refine sq_nx ?_
      refine c_ret ?_
      refine c_cb ?_
      refine c_cons ?_
      refine c_fz ?_
      refine c_lc ?_
      refine c_il ?_
      refine ev_to (ev_fz (ev_var rfl)) ?_
      refine k_il hS (i := 0) rfl ?_
      obtain ⟨h4, hm⟩ := R.wp_need hm
      refine lc_sep (β := Bool) (fun (_ : Unit) => ([lstA a_v_law_found (v_law_found : (List Str)), lstA a_v_law_due (v_law_due : (List Str)), F] : List (Asn G))) (s := ()) (im := (Im.im G)) hS (fun _ _ _ => wk_list fun _ _ h => h.sq (i := 1) rfl) h4 hm (fun p5 _ ys8 x6 v7 H q Nx hS hx hm kS kN => ?_) (fun p5 t H hm hS => ?_)
      ·
        cases hx
        refine c_gLc (σ' := [some (.ref a_v_law_found), some (.ref a_v_law_due), some (.str (x6))]) rfl rfl ?_
        refine c_yes ?_
        refine k_isiT (T := "str") (U1 := "str") (U2 := "list") (b := true) hS (ev_var rfl) (fun H hS => .base (.str _)) (by decide +kernel) fun H hS => ?_
        exact kS () _ _ _ hm rfl (hS.sel [0, 1, 2, 3] (by decide) rfl)
      · revert hm hS; generalize t = t9; intro hm hS
        refine fz_no ?_
        refine c_nil ?_
        refine ⟨_, _, rfl, (hS.sqF (i := 0) rfl), ?_⟩
        exact hm _ (hS.sel [1, 2, 3] (by decide) rfl)
def sp_law_done (G : Gx) : Sp := fun vs H Q E => ∃ (a_v_law_index : Addr) (v_law_index : Index) (a_v_law_rows : Addr) (v_law_rows : (List (Str × (List Str)))) (a_v_law_pool_here : Addr) (v_law_pool_here : (List Str)) (a_v_law_words : Addr) (v_law_words : (List Str)) (a_v_law_draws_here : Addr) (v_law_draws_here : (List Int)) (F : Asn G), vs = [.ref a_v_law_index, .ref a_v_law_rows, .ref a_v_law_pool_here, .ref a_v_law_words, .ref a_v_law_draws_here] ∧ Sep H ([IndexA a_v_law_index v_law_index, lstA a_v_law_rows (v_law_rows : (List (Str × (List Str)))), lstA a_v_law_pool_here (v_law_pool_here : (List Str)), lstA a_v_law_words (v_law_words : (List Str)), lstA a_v_law_draws_here (v_law_draws_here : (List Int)), F] : List (Asn G)) ∧ R.wp (m_law_done v_law_index v_law_rows v_law_pool_here v_law_words v_law_draws_here) (fun r => ∀ H', Sep H' ([IndexA a_v_law_index r.2.1, lstA a_v_law_rows (r.2.2 : (List (Str × (List Str)))), lstA a_v_law_pool_here (v_law_pool_here : (List Str)), lstA a_v_law_words (v_law_words : (List Str)), lstA a_v_law_draws_here (v_law_draws_here : (List Int)), F] : List (Asn G)) → Q (.bl (r.1)) H') (fun _ => False)
abbrev N_law_done : List Str := ["_law_index", "_law_rows", "_law_pool_here", "_law_words", "_law_draws_here", "_law_name", "_law_row", "_law_there", "_law_mine", "_law_draw", "_law_k", "_law_found"]
theorem sc_law_done : FnScope N_law_done ["_law_index", "_law_rows", "_law_pool_here", "_law_words", "_law_draws_here"] (defScope s_law_done) := ⟨rfl, rfl, rfl, by decide +kernel, rfl, by decide +kernel, by decide +kernel⟩
theorem ok_law_done (T : Txt G mg) : FnOk P w G.K mg base CX0 3 T.a_law_done T.fd_law_done ["_law_index", "_law_rows", "_law_pool_here", "_law_words", "_law_draws_here"] (sp_law_done G) := by
  have nd := sc_law_done.nd
  refine Fun.ok T.F_law_done sc_law_done (fun vs H Q E h => ?_) (fun cdv A outer s H vs Q E hr h => ?_)
  · obtain ⟨a_v_law_index, v_law_index, a_v_law_rows, v_law_rows, a_v_law_pool_here, v_law_pool_here, a_v_law_words, v_law_words, a_v_law_draws_here, v_law_draws_here, F, rfl, _⟩ := h; rfl
  · obtain ⟨a_v_law_index, v_law_index, a_v_law_rows, v_law_rows, a_v_law_pool_here, v_law_pool_here, a_v_law_words, v_law_words, a_v_law_draws_here, v_law_draws_here, F, rfl, hS, hm⟩ := h
    refine ⟨_, (pss_cons (ps_set (i := 5) nd rfl (Or.inr rfl) (pe_ix (ix_listK G.K) (pe_fz (pv 2)) (pe_op op_mod (pe_ix (ix_listK G.K) (pe_fz (pv 4)) pe_int (fun _ _ => rfl)) (pe_callB (lenSqK G.K) (by rfl) T.z_len PySem.boot_len (pa_cons (pe_fz (pv 2)) pa_nil))) (fun _ _ => rfl)))
      (pss_cons (ps_setLc (i := 7) (own := [("_law_row", 6)]) (g := gName 6) rfl nd rfl rfl (sw_true rfl rfl rfl (by decide +kernel)) (pi_listK G.K (pe_fz (pv 1))) (blkOk_by (own := [("_law_row", 6)]) (N := N_law_done) (sc := defScope s_law_done) (by decide +kernel)) (fun _ _ _ _ _ => pg_name (i := 6) nd rfl (Or.inl rfl)) (fun _ _ _ _ _ => pts_one (pt_cmpR op_eq (pe_ix (ix_tupK G.K) (pv 6) pe_int (fun _ _ => rfl)) (pv 5) (nomark _))) (fun _ _ _ _ _ => (pv 6)))
      (pss_cons (ps_if (pt_cmpR (neDK G.K hr.units) (pe_fz (pv 7)) (pe_fz (pe_lst pa_nil)) (nomark _)) (pss_cons (ps_expr (pe_bmK G.K PySem.F.plainAttrs_list PySem.F.slot_list_remove PySem.F.type_list_remove (mt_removeD G.K (hu0 hr)) (pe_fz (pv 1)) (pa_cons (pe_ix (ix_listK G.K) (pe_fz (pv 7)) pe_int (fun _ _ => rfl)) pa_nil)))
      (pss_one (ps_ret (pe_cmp (pc_isN (pe_meth (pv 0) T.cl_Index T.m_Index_take_out (ok_Index_take_out T) (hr.mono (by decide)) T.b_Index_take_out .nil passL (pa_cons (pv 5) pa_nil))) rfl)))) pss_nil)
      (pss_cons (ps_set (i := 8) nd rfl (Or.inl rfl) (pe_fz (pe_lst pa_nil)))
      (pss_cons (ps_set (i := 9) nd rfl (Or.inl rfl) (pe_ix (ix_listK G.K) (pe_fz (pv 4)) pe_int (fun _ _ => rfl)))
      (pss_cons (ps_for PassesOwn.never rfl (pi_range1 rfl T.z_range (pa_cons (pe_op op_mod (pv 9) pe_int) pa_nil)) (pg_name (i := 10) nd rfl (Or.inl rfl)) (pss_cons (ps_set (i := 9) nd rfl (Or.inl rfl) (pe_op op_add (pe_op op_mod (pe_op op_mul (pv 9) (pv 9)) pe_int) pe_int))
      (pss_one (ps_expr (pe_bmK G.K PySem.F.plainAttrs_list PySem.F.slot_list_append PySem.F.type_list_append mt_append (pe_fz (pv 8)) (pa_cons (pe_ix (ix_listK G.K) (pe_fz (pv 3)) (pe_op op_mod (pv 9) (pe_callB (lenSqK G.K) (by rfl) T.z_len PySem.boot_len (pa_cons (pe_fz (pv 3)) pa_nil))) (fun _ _ => rfl)) pa_nil))))))
      (pss_cons (ps_expr (pe_bmK G.K PySem.F.plainAttrs_list PySem.F.slot_list_append PySem.F.type_list_append mt_append (pe_fz (pv 1)) (pa_cons (pe_tup (pa_cons (pv 5) (pa_cons (pe_fz (pe_sortSetK G.K rfl (by rfl) T.z_sorted (by rfl) T.z_set (pe_fz (pv 8)))) pa_nil))) pa_nil)))
      (pss_cons (ps_set (i := 11) nd rfl (Or.inl rfl) (pe_meth (pv 0) T.cl_Index T.m_Index_add (ok_Index_add T) (hr.mono (by decide)) T.b_Index_add .nil passL (pa_cons (pv 5) (pa_cons (pe_fz (pv 8)) pa_nil))))
      (pss_cons (ps_expr (pe_bmK G.K PySem.F.plainAttrs_list PySem.F.slot_list_append PySem.F.type_list_append mt_append (pe_fz (pv 8)) (pa_cons (pe_ix (ix_listK G.K) (pe_fz (pv 3)) pe_int (fun _ _ => rfl)) pa_nil)))
      (pss_cons (ps_expr (pe_bm0K G.K PySem.F.plainAttrs_list PySem.F.slot_list_reverse PySem.F.type_list_reverse mt_reverse (pe_fz (pv 8))))
      (pss_one (ps_ret (pe_cmp (pc_isN (pv 11)) rfl))))))))))))), ?_⟩
    unfold m_law_done at hm
    refine f_seq ?_
    refine c_asg ?_
    obtain ⟨x1, hx1, hm⟩ := wp_idx hm
    obtain ⟨h2, hm⟩ := R.wp_need hm
    obtain ⟨x3, hx3, hm⟩ := wp_idx hm
    refine ev_to (ev_ixSq (ev_fz (ev_var rfl)) (ev_mod (ev_ixSq (ev_fz (ev_var rfl)) ev_c (hS.sqF (i := 4) rfl) (atI_map hx1)) (ev_lenLm (ev_fz (ev_var rfl)) (hS.sqF (i := 2) rfl)) h2) (hS.sqF (i := 2) rfl) (atI_map hx3)) ?_
    refine c_set (σ' := [some (.ref a_v_law_index), some (.ref a_v_law_rows), some (.ref a_v_law_pool_here), some (.ref a_v_law_words), some (.ref a_v_law_draws_here), some (.str (x3)), none, none, none, none, none, none]) rfl ?_
    refine sq_nx ?_
    refine f_seq ?_
    refine c_asg ?_
    refine c_lc ?_
    refine c_il ?_
    refine ev_to (ev_fz (ev_var rfl)) ?_
    refine k_il hS (i := 1) rfl ?_
    obtain ⟨h4, hm⟩ := R.wp_need hm
    refine lc_sep (β := (Str × (List Str))) (fun (_ : Unit) => ([IndexA a_v_law_index v_law_index, lstA a_v_law_rows (v_law_rows : (List (Str × (List Str)))), lstA a_v_law_pool_here (v_law_pool_here : (List Str)), lstA a_v_law_words (v_law_words : (List Str)), lstA a_v_law_draws_here (v_law_draws_here : (List Int)), F] : List (Asn G))) (s := ()) (im := (Im.im G)) hS (fun _ _ _ => wk_list fun _ _ h => h.sq (i := 2) rfl) h4 hm (fun p5 _ ys8 x6 v7 H q Nx hS hx hm kS kN => ?_) (fun p5 t H hm hS => ?_)
    ·
      obtain ⟨a9, rfl⟩ := isref hx
      have hS := hS.addIm (v := (.ref a9)) (x := (x6 : (Str × (List Str)))) hx
      refine c_gLc (σ' := [some (.ref a_v_law_index), some (.ref a_v_law_rows), some (.ref a_v_law_pool_here), some (.ref a_v_law_words), some (.ref a_v_law_draws_here), some (.str (x3)), some (.ref a9), none, none, none, none, none]) rfl rfl ?_
      obtain ⟨u11, u12, hT15, h13, h14⟩ := im2 (hS.im (i := 0) rfl)
      obtain rfl : u11 = (.str (x6.1)) := h13
      obtain ⟨a16, rfl⟩ := isref h14
      refine et_to (et_test (ev_eqS (ev_ixT (ev_var rfl) ev_c hT15 rfl) (ev_var rfl))) ?_
      refine lc_if (fun hb17 => ?_) (fun hb17 => ?_)
      · have hm := R.wp_ifY hm hb17
        refine ev_to (ev_var rfl) ?_
        exact kS () _ _ _ hm (hS.im (i := 0) rfl) (hS.sel [1, 2, 3, 4, 5, 6, 7] (by decide) rfl)
      · have hm := R.wp_ifN hm (by first | (rw [hb17]; decide) | simpa using hb17)
        exact kN () _ hm (hS.sel [1, 2, 3, 4, 5, 6, 7] (by decide) rfl)
    · revert hm hS; generalize t = t18; intro hm hS
      refine c_set (σ' := [some (.ref a_v_law_index), some (.ref a_v_law_rows), some (.ref a_v_law_pool_here), some (.ref a_v_law_words), some (.ref a_v_law_draws_here), some (.str (x3)), none, some (.ref p5), none, none, none, none]) rfl ?_
      refine sq_nx ?_
      refine f_seq ?_
      refine f_if ?_
      refine f_test ?_
      refine c_op ?_
      refine ev_to (ev_fz (ev_var rfl)) ?_
      refine c_fz ?_
      refine c_lst ?_
      refine ea_to ea_nil ?_
      refine k_lst (α := (Str × (List Str))) (vs := []) (xs := ([] : (List (Str × (List Str))))) hS True.intro (by show 0 ≤ sizeLine; decide) fun p19 H hS => ?_
      refine fz_no ?_
      obtain ⟨h20, hm⟩ := R.wp_need hm
      obtain ⟨h21, hm⟩ := R.wp_need hm
      refine ev_op2 (ev_neP (G := G) (x := (t18.2 : (List (Str × (List Str))))) (y := ([] : (List (Str × (List Str))))) ev_c ev_c (dpOwn hS (i := 1) rfl) (dpOwn hS (i := 0) rfl) h20 h21 (Nat.le_of_ble_eq_true rfl)) ?_
      refine f_bl ?_
      refine ifK_2 (fun hb22 => ?_) (fun hb22 => ?_)
      · have hm := R.wp_ifY hm hb22
        refine f_seq ?_
        refine c_drop ?_
        refine c_bm ?_
        refine ev_to (ev_fz (ev_var rfl)) ⟨tyL hS (i := 3) rfl, ?_⟩
        obtain ⟨x23, hx23, hm⟩ := wp_idx hm
        obtain ⟨vs24, hq25, hM26⟩ := hS.sq (i := 1) rfl
        obtain ⟨u27, hu28, hi29⟩ := atI_im hM26 hx23
        obtain ⟨a30, rfl⟩ := isref hi29
        refine ea_to (ea_cons (ev_ixSq (ev_fz (ev_var rfl)) ev_c hq25 hu28) ea_nil) ?_
        have hS := hS.addIm (v := (.ref a30)) (x := (x23 : (Str × (List Str)))) hi29
        obtain ⟨h32, hm⟩ := R.wp_need hm
        obtain ⟨h33, hm⟩ := R.wp_need hm
        obtain ⟨h34, hm⟩ := R.wp_need hm
        refine k_removeP (x := x23) hS (i := 4) rfl (Pd.dp (hS.im (i := 0) rfl)) h32 h33 (Nat.le_of_ble_eq_true rfl) h34 rfl fun H hS => ?_
        refine sq_nx ?_
        refine c_ret ?_
        refine c_isN ?_
        refine c_meth ?_
        refine ev_to (ev_var rfl) ?_
        obtain ⟨d35, _, _, hO36⟩ := ins_Index hS (i := 3) rfl
        refine ⟨_, _, _, rfl, hO36, rfl, ?_⟩
        refine ea_to (ea_cons (ev_var rfl) ea_nil) ?_
        refine ⟨a_v_law_index, (v_law_index : Index), x3, star [imA (.ref a30) (x23 : (Str × (List Str))), lstA p19 (([] : (List (Str × (List Str)))) : (List (Str × (List Str)))), lstA p5 (t18.2 : (List (Str × (List Str)))), lstA a_v_law_rows (remP v_law_rows x23 : (List (Str × (List Str)))), lstA a_v_law_pool_here (v_law_pool_here : (List Str)), lstA a_v_law_words (v_law_words : (List Str)), lstA a_v_law_draws_here (v_law_draws_here : (List Int)), F], rfl, Sep.unstar (M := [IndexA a_v_law_index v_law_index]) (hS.sel [3, 0, 1, 2, 4, 5, 6, 7, 8] (by decide) rfl : Sep H (([IndexA a_v_law_index v_law_index] ++ [imA (.ref a30) (x23 : (Str × (List Str))), lstA p19 (([] : (List (Str × (List Str)))) : (List (Str × (List Str)))), lstA p5 (t18.2 : (List (Str × (List Str)))), lstA a_v_law_rows (remP v_law_rows x23 : (List (Str × (List Str)))), lstA a_v_law_pool_here (v_law_pool_here : (List Str)), lstA a_v_law_words (v_law_words : (List Str)), lstA a_v_law_draws_here (v_law_draws_here : (List Int)), F] : List (Asn G)))), R.wp_mono (R.wp_bind hm) (fun r37 hm H hS => ?_) (fun _ z => z.elim)⟩
        have hS : Sep H ([IndexA a_v_law_index r37, imA (.ref a30) (x23 : (Str × (List Str))), lstA p19 (([] : (List (Str × (List Str)))) : (List (Str × (List Str)))), lstA p5 (t18.2 : (List (Str × (List Str)))), lstA a_v_law_rows (remP v_law_rows x23 : (List (Str × (List Str)))), lstA a_v_law_pool_here (v_law_pool_here : (List Str)), lstA a_v_law_words (v_law_words : (List Str)), lstA a_v_law_draws_here (v_law_draws_here : (List Int)), F] : List (Asn G)) := Sep.star (M := [IndexA a_v_law_index r37]) hS
        refine k_isNn ?_
        exact hm _ (hS.sel [0, 4, 5, 6, 7, 8] (by decide) rfl)
      · have hm := R.wp_ifN hm (by first | (rw [hb22]; decide) | simpa using hb22)
        refine st_nx ?_
        refine sq_nx ?_
        refine f_seq ?_
        refine c_asg ?_
        refine c_fz ?_
        refine c_lst ?_
        refine ea_to ea_nil ?_
        refine k_lst (α := Str) (vs := []) (xs := ([] : (List Str))) hS True.intro (by show 0 ≤ sizeLine; decide) fun p38 H hS => ?_
        refine fz_no ?_
        refine c_set (σ' := [some (.ref a_v_law_index), some (.ref a_v_law_rows), some (.ref a_v_law_pool_here), some (.ref a_v_law_words), some (.ref a_v_law_draws_here), some (.str (x3)), none, some (.ref p5), some (.ref p38), none, none, none]) rfl ?_
        refine sq_nx ?_
        refine f_seq ?_
        refine c_asg ?_
        obtain ⟨x39, hx39, hm⟩ := wp_idx hm
        refine ev_to (ev_ixSq (ev_fz (ev_var rfl)) ev_c (hS.sqF (i := 7) rfl) (atI_map hx39)) ?_
        refine c_set (σ' := [some (.ref a_v_law_index), some (.ref a_v_law_rows), some (.ref a_v_law_pool_here), some (.ref a_v_law_words), some (.ref a_v_law_draws_here), some (.str (x3)), none, some (.ref p5), some (.ref p38), some (.int (x39)), none, none]) rfl ?_
        refine sq_nx ?_
        refine f_seq ?_
        refine c_for ?_
        refine c_rng1 ?_
        refine ea_to (ea_cons (ev_mod (ev_var rfl) ev_c (by decide)) ea_nil) ?_
        obtain ⟨h40, hm⟩ := R.wp_need hm
        refine k_rng1 h40.1 h40.2 ?_
        refine k_for (τ := (List Str) × Int) (fun (s41 : (List Str) × Int) (σ : L2.St) (H : Hp) => ∃ (w44 : Option V), σ = [some (.ref a_v_law_index), some (.ref a_v_law_rows), some (.ref a_v_law_pool_here), some (.ref a_v_law_words), some (.ref a_v_law_draws_here), some (.str (x3)), none, some (.ref p5), some (.ref p38), some (.int (s41.2)), w44, none] ∧ Sep H ([lstA p38 (s41.1 : (List Str)), lstA p19 (([] : (List (Str × (List Str)))) : (List (Str × (List Str)))), lstA p5 (t18.2 : (List (Str × (List Str)))), IndexA a_v_law_index v_law_index, lstA a_v_law_rows (v_law_rows : (List (Str × (List Str)))), lstA a_v_law_pool_here (v_law_pool_here : (List Str)), lstA a_v_law_words (v_law_words : (List Str)), lstA a_v_law_draws_here (v_law_draws_here : (List Int)), F] : List (Asn G))) (im := (fun _ v (x : Int) => v = .int x)) (s := (([] : (List Str)), x39)) (fun _ => wk_range) ⟨_, rfl, hS.sel [0, 1, 2, 3, 4, 5, 6, 7, 8] (by decide) rfl⟩ hm (fun s41 x42 v43 σ H q N hI hx hm nx => ?_) (fun s41 σ H hm hI => ?_)
        ·
          obtain ⟨w44, rfl, hS⟩ := hI
          cases hx
          refine c_gN (σ' := [some (.ref a_v_law_index), some (.ref a_v_law_rows), some (.ref a_v_law_pool_here), some (.ref a_v_law_words), some (.ref a_v_law_draws_here), some (.str (x3)), none, some (.ref p5), some (.ref p38), some (.int (s41.2)), some (.int (x42)), none]) rfl ?_
          refine f_seq ?_
          refine c_asg ?_
          obtain ⟨h45, hm⟩ := R.wp_need hm
          refine ev_to (ev_add (ev_mod (ev_mul (ev_var rfl) (ev_var rfl) h45) ev_c (by decide)) ev_c) ?_
          obtain ⟨y46, hy46, hm⟩ := wp_let hm
          refine n_is (w := (.int (y46))) (by first | rw [hy46] | (subst hy46; rfl)) ?_
          refine c_set (σ' := [some (.ref a_v_law_index), some (.ref a_v_law_rows), some (.ref a_v_law_pool_here), some (.ref a_v_law_words), some (.ref a_v_law_draws_here), some (.str (x3)), none, some (.ref p5), some (.ref p38), some (.int (y46)), some (.int (x42)), none]) rfl ?_
          refine sq_nx ?_
          refine c_drop ?_
          refine c_bm ?_
          refine ev_to (ev_fz (ev_var rfl)) ⟨tyL hS (i := 0) rfl, ?_⟩
          obtain ⟨h47, hm⟩ := R.wp_need hm
          obtain ⟨x48, hx48, hm⟩ := wp_idx hm
          refine ea_to (ea_cons (ev_ixSq (ev_fz (ev_var rfl)) (ev_mod (ev_var rfl) (ev_lenLm (ev_fz (ev_var rfl)) (hS.sqF (i := 6) rfl)) h47) (hS.sqF (i := 6) rfl) (atI_map hx48)) ea_nil) ?_
          obtain ⟨h49, hm⟩ := R.wp_need hm
          refine k_append (x := x48) hS (i := 0) rfl rfl h49 rfl fun H hS => ?_
          exact nx _ _ _ hm ⟨_, rfl, hS.sel [0, 1, 2, 3, 4, 5, 6, 7, 8] (by decide) rfl⟩
        · obtain ⟨w44, rfl, hS⟩ := hI
          refine sq_nx ?_
          refine f_seq ?_
          refine c_drop ?_
          refine c_bm ?_
          refine ev_to (ev_fz (ev_var rfl)) ⟨tyL hS (i := 4) rfl, ?_⟩
          refine c_cons ?_
          refine c_tup ?_
          refine c_cons ?_
          refine ev_to (ev_var rfl) ?_
          refine c_cons ?_
          refine c_fz ?_
          refine c_sortSet ?_
          refine ev_to (ev_fz (ev_var rfl)) ?_
          obtain ⟨h51, hm⟩ := R.wp_need hm
          refine k_sortSet hS (.inl (hS.sqF (i := 0) rfl)) h51 fun p50 H hS => ?_
          refine fz_yes (xs := (ssetT s41.1 : (List Str))) hS (i := 0) rfl fun H hS => ?_
          have hS : Sep H ([imA (.ref p50) (ssetT s41.1 : (List Str)), lstA p38 (s41.1 : (List Str)), lstA p19 (([] : (List (Str × (List Str)))) : (List (Str × (List Str)))), lstA p5 (t18.2 : (List (Str × (List Str)))), IndexA a_v_law_index v_law_index, lstA a_v_law_rows (v_law_rows : (List (Str × (List Str)))), lstA a_v_law_pool_here (v_law_pool_here : (List Str)), lstA a_v_law_words (v_law_words : (List Str)), lstA a_v_law_draws_here (v_law_draws_here : (List Int)), F] : List (Asn G)) := hS
          refine c_nil ?_
          refine k_tupP (x := ((x3, ssetT s41.1) : (Str × (List Str)))) hS (fun H' p h s => mk2 rfl (hS.im (i := 0) rfl) h s) (by show 2 ≤ sizeLine; decide) fun p53 H hS => ?_
          refine c_nil ?_
          obtain ⟨h55, hm⟩ := R.wp_need hm
          refine k_append (x := (x3, ssetT s41.1)) hS (i := 6) rfl (hS.im (i := 0) rfl) h55 rfl fun H hS => ?_
          refine sq_nx ?_
          refine f_seq ?_
          refine c_asg ?_
          refine c_meth ?_
          refine ev_to (ev_var rfl) ?_
          obtain ⟨d56, _, _, hO57⟩ := ins_Index hS (i := 5) rfl
          refine ⟨_, _, _, rfl, hO57, rfl, ?_⟩
          refine ea_to (ea_cons (ev_var rfl) (ea_cons (ev_fz (ev_var rfl)) ea_nil)) ?_
          refine ⟨a_v_law_index, (v_law_index : Index), x3, p38, (s41.1 : (List Str)), star [imA (.ref p53) ((x3, ssetT s41.1) : (Str × (List Str))), imA (.ref p50) (ssetT s41.1 : (List Str)), lstA p19 (([] : (List (Str × (List Str)))) : (List (Str × (List Str)))), lstA p5 (t18.2 : (List (Str × (List Str)))), lstA a_v_law_rows (v_law_rows ++ [(x3, ssetT s41.1)] : (List (Str × (List Str)))), lstA a_v_law_pool_here (v_law_pool_here : (List Str)), lstA a_v_law_words (v_law_words : (List Str)), lstA a_v_law_draws_here (v_law_draws_here : (List Int)), F], rfl, Sep.unstar (M := [IndexA a_v_law_index v_law_index, lstA p38 (s41.1 : (List Str))]) (hS.sel [5, 2, 0, 1, 3, 4, 6, 7, 8, 9, 10] (by decide) rfl : Sep H (([IndexA a_v_law_index v_law_index, lstA p38 (s41.1 : (List Str))] ++ [imA (.ref p53) ((x3, ssetT s41.1) : (Str × (List Str))), imA (.ref p50) (ssetT s41.1 : (List Str)), lstA p19 (([] : (List (Str × (List Str)))) : (List (Str × (List Str)))), lstA p5 (t18.2 : (List (Str × (List Str)))), lstA a_v_law_rows (v_law_rows ++ [(x3, ssetT s41.1)] : (List (Str × (List Str)))), lstA a_v_law_pool_here (v_law_pool_here : (List Str)), lstA a_v_law_words (v_law_words : (List Str)), lstA a_v_law_draws_here (v_law_draws_here : (List Int)), F] : List (Asn G)))), R.wp_mono (R.wp_bind hm) (fun r58 hm H hS => ?_) (fun _ z => z.elim)⟩
          have hS : Sep H ([IndexA a_v_law_index r58, lstA p38 (s41.1 : (List Str)), imA (.ref p53) ((x3, ssetT s41.1) : (Str × (List Str))), imA (.ref p50) (ssetT s41.1 : (List Str)), lstA p19 (([] : (List (Str × (List Str)))) : (List (Str × (List Str)))), lstA p5 (t18.2 : (List (Str × (List Str)))), lstA a_v_law_rows (v_law_rows ++ [(x3, ssetT s41.1)] : (List (Str × (List Str)))), lstA a_v_law_pool_here (v_law_pool_here : (List Str)), lstA a_v_law_words (v_law_words : (List Str)), lstA a_v_law_draws_here (v_law_draws_here : (List Int)), F] : List (Asn G)) := Sep.star (M := [IndexA a_v_law_index r58, lstA p38 (s41.1 : (List Str))]) hS
          refine c_set (σ' := [some (.ref a_v_law_index), some (.ref a_v_law_rows), some (.ref a_v_law_pool_here), some (.ref a_v_law_words), some (.ref a_v_law_draws_here), some (.str (x3)), none, some (.ref p5), some (.ref p38), some (.int (s41.2)), w44, some .non]) rfl ?_
          refine sq_nx ?_
          refine f_seq ?_
          refine c_drop ?_
          refine c_bm ?_
          refine ev_to (ev_fz (ev_var rfl)) ⟨tyL hS (i := 1) rfl, ?_⟩
          obtain ⟨x59, hx59, hm⟩ := wp_idx hm
          refine ea_to (ea_cons (ev_ixSq (ev_fz (ev_var rfl)) ev_c (hS.sqF (i := 8) rfl) (atI_map hx59)) ea_nil) ?_
          obtain ⟨h60, hm⟩ := R.wp_need hm
          refine k_append (x := x59) hS (i := 1) rfl rfl h60 rfl fun H hS => ?_
          refine sq_nx ?_
          refine f_seq ?_
          refine c_drop ?_
          refine c_bm0 ?_
          refine ev_to (ev_fz (ev_var rfl)) ⟨tyL hS (i := 1) rfl, ?_⟩
          refine k_reverse hS (i := 1) rfl rfl fun H hS => ?_
          refine sq_nx ?_
          refine c_ret ?_
          refine ev_to (ev_isNn (ev_var rfl)) ?_
          exact hm _ (hS.sel [0, 6, 7, 8, 9, 10] (by decide) rfl)
def sp_law_looked (G : Gx) : Sp := fun vs H Q E => ∃ (a_v_law_index : Addr) (v_law_index : Index) (a_v_law_rows : Addr) (v_law_rows : (List (Str × (List Str)))) (v_law_look : Int) (v_law_draw : Int) (a_v_law_words : Addr) (v_law_words : (List Str)) (F : Asn G), vs = [.ref a_v_law_index, .ref a_v_law_rows, (.int (v_law_look)), (.int (v_law_draw)), .ref a_v_law_words] ∧ Sep H ([IndexA a_v_law_index v_law_index, lstA a_v_law_rows (v_law_rows : (List (Str × (List Str)))), lstA a_v_law_words (v_law_words : (List Str)), F] : List (Asn G)) ∧ R.wp (m_law_looked v_law_index v_law_rows v_law_look v_law_draw v_law_words) (fun r => ∀ p H', Sep H' ([(orE lstA) p (r : ((List Str) × (List Str))), IndexA a_v_law_index v_law_index, lstA a_v_law_rows (v_law_rows : (List (Str × (List Str)))), lstA a_v_law_words (v_law_words : (List Str)), F] : List (Asn G)) → Q (.ref p) H') (fun _ => False)
abbrev N_law_looked : List Str := ["_law_index", "_law_rows", "_law_look", "_law_draw", "_law_words", "_law_word", "_law_row", "_law_found"]
theorem sc_law_looked : FnScope N_law_looked ["_law_index", "_law_rows", "_law_look", "_law_draw", "_law_words"] (defScope s_law_looked) := ⟨rfl, rfl, rfl, by decide +kernel, rfl, by decide +kernel, by decide +kernel⟩
theorem ok_law_looked (T : Txt G mg) : FnOk P w G.K mg base CX0 3 T.a_law_looked T.fd_law_looked ["_law_index", "_law_rows", "_law_look", "_law_draw", "_law_words"] (sp_law_looked G) := by
  have nd := sc_law_looked.nd
  refine Fun.ok T.F_law_looked sc_law_looked (fun vs H Q E h => ?_) (fun cdv A outer s H vs Q E hr h => ?_)
  · obtain ⟨a_v_law_index, v_law_index, a_v_law_rows, v_law_rows, v_law_look, v_law_draw, a_v_law_words, v_law_words, F, rfl, _⟩ := h; rfl
  · obtain ⟨a_v_law_index, v_law_index, a_v_law_rows, v_law_rows, v_law_look, v_law_draw, a_v_law_words, v_law_words, F, rfl, hS, hm⟩ := h
    refine ⟨_, (pss_cons (ps_if (pt_cmpR op_eq (pv 2) pe_int (nomark _)) (pss_cons (ps_set (i := 5) nd rfl (Or.inr rfl) (pe_ix (ix_listK G.K) (pe_fz (pv 4)) (pe_op op_mod (pv 3) (pe_callB (lenSqK G.K) (by rfl) T.z_len PySem.boot_len (pa_cons (pe_fz (pv 4)) pa_nil))) (fun _ _ => rfl)))
      (pss_one (ps_ret (pe_lst (pa_cons (pe_fz (pe_meth (pv 0) T.cl_Index T.m_Index_having (ok_Index_having T) (hr.mono (by decide)) T.b_Index_having .nil pass0 (pa_cons (pv 5) pa_nil))) (pa_cons (pe_fz (pe_lc (own := [("_law_row", 6)]) (g := gName 6) rfl nd (pi_listK G.K (pe_fz (pv 1))) (blkOk_by (own := [("_law_row", 6)]) (N := N_law_looked) (sc := defScope s_law_looked) (by decide +kernel)) (fun _ _ _ _ _ => pg_name (i := 6) nd rfl (Or.inl rfl)) (fun _ _ _ _ _ => pts_one (pt_cmpR (inSqK G.K) (pv 5) (pe_ix (ix_tupK G.K) (pv 6) pe_int (fun _ _ => rfl)) (by rfl))) (fun _ _ _ _ _ => (pe_ix (ix_tupK G.K) (pv 6) pe_int (fun _ _ => rfl))))) pa_nil)))))) pss_nil)
      (pss_cons (ps_if (PW.pt (pw_and (pt_cmpR op_eq (pv 2) pe_int (nomark _)) (pw_and1 (pt_cmpR (neDK G.K hr.units) (pe_fz (pv 1)) (pe_fz (pe_lst pa_nil)) (nomark _))))) (pss_cons (ps_set (i := 6) nd rfl (Or.inl rfl) (pe_ix (ix_listK G.K) (pe_fz (pv 1)) (pe_op op_mod (pv 3) (pe_callB (lenSqK G.K) (by rfl) T.z_len PySem.boot_len (pa_cons (pe_fz (pv 1)) pa_nil))) (fun _ _ => rfl)))
      (pss_one (ps_ret (pe_lst (pa_cons (pe_fz (pe_meth (pv 0) T.cl_Index T.m_Index_words (ok_Index_words T) (hr.mono (by decide)) T.b_Index_words .nil passL (pa_cons (pe_ix (ix_tupK G.K) (pv 6) pe_int (fun _ _ => rfl)) pa_nil))) (pa_cons (pe_ix (ix_tupK G.K) (pv 6) pe_int (fun _ _ => rfl)) pa_nil)))))) pss_nil)
      (pss_cons (ps_set (i := 7) nd rfl (Or.inr rfl) (pe_fz (pe_lst pa_nil)))
      (pss_cons (ps_for PassesOwn.never rfl (pi_listK G.K (pe_fz (pv 1))) (pg_name (i := 6) nd rfl (Or.inl rfl)) (pss_one (ps_set (i := 7) nd rfl (Or.inr rfl) (pe_fz (pe_op op_catR (pe_fz (pv 7)) (pe_fz (pe_lc (own := [("_law_word", 5)]) (g := gName 5) rfl nd (pi_listK G.K (pe_ix (ix_tupK G.K) (pv 6) pe_int (fun _ _ => rfl))) (blkOk_by (own := [("_law_word", 5)]) (N := N_law_looked) (sc := defScope s_law_looked) (by decide +kernel)) (fun _ _ _ _ _ => pg_name (i := 5) nd rfl (Or.inl rfl)) (fun _ _ _ _ _ => pts_one (pt_cmpR (niSqK G.K) (pv 5) (pe_fz (pv 7)) (by rfl))) (fun _ _ _ _ _ => (pv 5)))))))))
      (pss_one (ps_ret (pe_lst (pa_cons (pe_fz (pe_meth0 (pv 0) T.cl_Index T.m_Index_all_words (ok_Index_all_words T) (hr.mono (by decide)) T.b_Index_all_words .nil pass0)) (pa_cons (pe_fz (pv 7)) pa_nil))))))))), ?_⟩
    unfold m_law_looked at hm
    refine f_seq ?_
    refine f_if ?_
    refine et_to (et_test (ev_eqI (ev_var rfl) ev_c)) ?_
    refine ifK_2 (fun hb1 => ?_) (fun hb1 => ?_)
    · have hm := R.wp_ifY hm hb1
      refine f_seq ?_
      refine c_asg ?_
      obtain ⟨h2, hm⟩ := R.wp_need hm
      obtain ⟨x3, hx3, hm⟩ := wp_idx hm
      refine ev_to (ev_ixSq (ev_fz (ev_var rfl)) (ev_mod (ev_var rfl) (ev_lenLm (ev_fz (ev_var rfl)) (hS.sqF (i := 2) rfl)) h2) (hS.sqF (i := 2) rfl) (atI_map hx3)) ?_
      refine c_set (σ' := [some (.ref a_v_law_index), some (.ref a_v_law_rows), some (.int (v_law_look)), some (.int (v_law_draw)), some (.ref a_v_law_words), some (.str (x3)), none, none]) rfl ?_
      refine sq_nx ?_
      refine c_ret ?_
      refine c_lst ?_
      refine c_cons ?_
      refine c_fz ?_
      refine c_meth ?_
      refine ev_to (ev_var rfl) ?_
      obtain ⟨d4, _, _, hO5⟩ := ins_Index hS (i := 0) rfl
      refine ⟨_, _, _, rfl, hO5, rfl, ?_⟩
      refine ea_to (ea_cons (ev_var rfl) ea_nil) ?_
      refine ⟨a_v_law_index, (v_law_index : Index), x3, star [lstA a_v_law_rows (v_law_rows : (List (Str × (List Str)))), lstA a_v_law_words (v_law_words : (List Str)), F], rfl, Sep.unstar (M := [IndexA a_v_law_index v_law_index]) (hS.sel [0, 1, 2, 3] (by decide) rfl : Sep H (([IndexA a_v_law_index v_law_index] ++ [lstA a_v_law_rows (v_law_rows : (List (Str × (List Str)))), lstA a_v_law_words (v_law_words : (List Str)), F] : List (Asn G)))), R.wp_mono (R.wp_bind hm) (fun r6 hm p7 H hS => ?_) (fun _ z => z)⟩
      have hS : Sep H ([lstA p7 (r6 : (List Str)), IndexA a_v_law_index v_law_index, lstA a_v_law_rows (v_law_rows : (List (Str × (List Str)))), lstA a_v_law_words (v_law_words : (List Str)), F] : List (Asn G)) := Sep.star (M := [lstA p7 (r6 : (List Str)), IndexA a_v_law_index v_law_index]) hS
      refine fz_no ?_
      refine c_cons ?_
      refine c_fz ?_
      refine c_lc ?_
      refine c_il ?_
      refine ev_to (ev_fz (ev_var rfl)) ?_
      refine k_il hS (i := 2) rfl ?_
      obtain ⟨h8, hm⟩ := R.wp_need hm
      refine lc_sep (β := Str) (fun (_ : Unit) => ([lstA p7 (r6 : (List Str)), IndexA a_v_law_index v_law_index, lstA a_v_law_rows (v_law_rows : (List (Str × (List Str)))), lstA a_v_law_words (v_law_words : (List Str)), F] : List (Asn G))) (s := ()) (im := (Im.im G)) hS (fun _ _ _ => wk_list fun _ _ h => h.sq (i := 3) rfl) h8 hm (fun p9 _ ys12 x10 v11 H q Nx hS hx hm kS kN => ?_) (fun p9 t H hm hS => ?_)
      ·
        obtain ⟨a13, rfl⟩ := isref hx
        have hS := hS.addIm (v := (.ref a13)) (x := (x10 : (Str × (List Str)))) hx
        refine c_gLc (σ' := [some (.ref a_v_law_index), some (.ref a_v_law_rows), some (.int (v_law_look)), some (.int (v_law_draw)), some (.ref a_v_law_words), some (.str (x3)), some (.ref a13), none]) rfl rfl ?_
        obtain ⟨u15, u16, hT19, h17, h18⟩ := im2 (hS.im (i := 0) rfl)
        obtain rfl : u15 = (.str (x10.1)) := h17
        obtain ⟨a20, rfl⟩ := isref h18
        refine et_to (et_test (ev_inPl h18 (ev_var rfl) (ev_ixT (ev_var rfl) ev_c hT19 rfl))) ?_
        refine lc_if (fun hb21 => ?_) (fun hb21 => ?_)
        · have hm := R.wp_ifY hm hb21
          obtain ⟨u22, u23, hT26, h24, h25⟩ := im2 (hS.im (i := 0) rfl)
          obtain rfl : u22 = (.str (x10.1)) := h24
          obtain ⟨a27, rfl⟩ := isref h25
          refine ev_to (ev_ixT (ev_var rfl) ev_c hT26 rfl) ?_
          exact kS () _ _ _ hm rfl (hS.sel [1, 2, 3, 4, 5, 6] (by decide) rfl)
        · have hm := R.wp_ifN hm (by first | (rw [hb21]; decide) | simpa using hb21)
          exact kN () _ hm (hS.sel [1, 2, 3, 4, 5, 6] (by decide) rfl)
      · revert hm hS; generalize t = t28; intro hm hS
        refine fz_yes (xs := (t28.2 : (List Str))) hS (i := 0) rfl fun H hS => ?_
        have hS : Sep H ([imA (.ref p9) (t28.2 : (List Str)), lstA p7 (r6 : (List Str)), IndexA a_v_law_index v_law_index, lstA a_v_law_rows (v_law_rows : (List (Str × (List Str)))), lstA a_v_law_words (v_law_words : (List Str)), F] : List (Asn G)) := hS
        refine c_nil ?_
        refine k_lstC (vs := [(.ref p7), (.ref p9)]) hS (by show 2 ≤ sizeLine; decide) fun p30 H hS => ?_
        have hS := hS.addIm (v := (.ref p9)) (x := (t28.2 : (List Str))) (hS.im (i := 1) rfl)
        have hS : Sep H ([(orE lstA) p30 ((r6, t28.2) : ((List Str) × (List Str))), imA (.ref p9) (t28.2 : (List Str)), IndexA a_v_law_index v_law_index, lstA a_v_law_rows (v_law_rows : (List (Str × (List Str)))), lstA a_v_law_words (v_law_words : (List Str)), F] : List (Asn G)) := or_pack (hS.sel [1, 3, 0, 2, 4, 5, 6, 7] (by decide) rfl)
        exact hm _ _ (hS.sel [0, 2, 3, 4, 5] (by decide) rfl)
    · have hm := R.wp_ifN hm (by first | (rw [hb1]; decide) | simpa using hb1)
      refine st_nx ?_
      refine sq_nx ?_
      refine f_seq ?_
      refine f_if ?_
      refine f_and ?_
      refine et_to (et_test (ev_eqI (ev_var rfl) ev_c)) ?_
      refine andK_J hm hS (fun hb q hm nx => ?_) (fun b31 H hm hS => ?_)
      ·
        refine f_test ?_
        refine c_op ?_
        refine ev_to (ev_fz (ev_var rfl)) ?_
        refine c_fz ?_
        refine c_lst ?_
        refine ea_to ea_nil ?_
        refine k_lst (α := (Str × (List Str))) (vs := []) (xs := ([] : (List (Str × (List Str))))) hS True.intro (by show 0 ≤ sizeLine; decide) fun p32 H hS => ?_
        refine fz_no ?_
        obtain ⟨h33, hm⟩ := R.wp_need hm
        obtain ⟨h34, hm⟩ := R.wp_need hm
        refine ev_op2 (ev_neP (G := G) (x := (v_law_rows : (List (Str × (List Str))))) (y := ([] : (List (Str × (List Str))))) ev_c ev_c (dpOwn hS (i := 2) rfl) (dpOwn hS (i := 0) rfl) h33 h34 (Nat.le_of_ble_eq_true rfl)) ?_
        refine f_bl ?_
        exact nx _ _ hm (hS.sel [1, 2, 3, 4] (by decide) rfl)
      ·
        refine ifK_2 (fun hb35 => ?_) (fun hb35 => ?_)
        · have hm := R.wp_ifY hm hb35
          refine f_seq ?_
          refine c_asg ?_
          obtain ⟨h36, hm⟩ := R.wp_need hm
          obtain ⟨x37, hx37, hm⟩ := wp_idx hm
          obtain ⟨vs38, hq39, hM40⟩ := hS.sq (i := 1) rfl
          obtain ⟨u41, hu42, hi43⟩ := atI_im hM40 hx37
          obtain ⟨a44, rfl⟩ := isref hi43
          refine ev_to (ev_ixSq (ev_fz (ev_var rfl)) (ev_mod (ev_var rfl) (ev_lenG (ev_fz (ev_var rfl)) (hS.sq (i := 1) rfl)) h36) hq39 hu42) ?_
          have hS := hS.addIm (v := (.ref a44)) (x := (x37 : (Str × (List Str)))) hi43
          refine c_set (σ' := [some (.ref a_v_law_index), some (.ref a_v_law_rows), some (.int (v_law_look)), some (.int (v_law_draw)), some (.ref a_v_law_words), none, some (.ref a44), none]) rfl ?_
          refine sq_nx ?_
          refine c_ret ?_
          refine c_lst ?_
          refine c_cons ?_
          refine c_fz ?_
          refine c_meth ?_
          refine ev_to (ev_var rfl) ?_
          obtain ⟨d46, _, _, hO47⟩ := ins_Index hS (i := 1) rfl
          refine ⟨_, _, _, rfl, hO47, rfl, ?_⟩
          obtain ⟨u48, u49, hT52, h50, h51⟩ := im2 (hS.im (i := 0) rfl)
          obtain rfl : u48 = (.str (x37.1)) := h50
          obtain ⟨a53, rfl⟩ := isref h51
          refine ea_to (ea_cons (ev_ixT (ev_var rfl) ev_c hT52 rfl) ea_nil) ?_
          refine ⟨a_v_law_index, (v_law_index : Index), x37.1, star [imA (.ref a44) (x37 : (Str × (List Str))), lstA a_v_law_rows (v_law_rows : (List (Str × (List Str)))), lstA a_v_law_words (v_law_words : (List Str)), F], rfl, Sep.unstar (M := [IndexA a_v_law_index v_law_index]) (hS.sel [1, 0, 2, 3, 4] (by decide) rfl : Sep H (([IndexA a_v_law_index v_law_index] ++ [imA (.ref a44) (x37 : (Str × (List Str))), lstA a_v_law_rows (v_law_rows : (List (Str × (List Str)))), lstA a_v_law_words (v_law_words : (List Str)), F] : List (Asn G)))), R.wp_mono (R.wp_bind hm) (fun r54 hm p55 H hS => ?_) (fun _ z => z.elim)⟩
          have hS : Sep H ([lstA p55 (r54 : (List Str)), IndexA a_v_law_index v_law_index, imA (.ref a44) (x37 : (Str × (List Str))), lstA a_v_law_rows (v_law_rows : (List (Str × (List Str)))), lstA a_v_law_words (v_law_words : (List Str)), F] : List (Asn G)) := Sep.star (M := [lstA p55 (r54 : (List Str)), IndexA a_v_law_index v_law_index]) hS
          refine fz_no ?_
          refine c_cons ?_
          obtain ⟨u56, u57, hT60, h58, h59⟩ := im2 (hS.im (i := 2) rfl)
          obtain rfl : u56 = (.str (x37.1)) := h58
          obtain ⟨a61, rfl⟩ := isref h59
          refine ev_to (ev_ixT (ev_var rfl) ev_c hT60 rfl) ?_
          have hS := hS.addIm (v := (.ref a61)) (x := (x37.2 : (List Str))) h59
          refine c_nil ?_
          refine k_lstC (vs := [(.ref p55), (.ref a61)]) hS (by show 2 ≤ sizeLine; decide) fun p63 H hS => ?_
          have hS := hS.addIm (v := (.ref a61)) (x := (x37.2 : (List Str))) (hS.im (i := 1) rfl)
          have hS : Sep H ([(orE lstA) p63 ((r54, x37.2) : ((List Str) × (List Str))), imA (.ref a61) (x37.2 : (List Str)), IndexA a_v_law_index v_law_index, imA (.ref a44) (x37 : (Str × (List Str))), lstA a_v_law_rows (v_law_rows : (List (Str × (List Str)))), lstA a_v_law_words (v_law_words : (List Str)), F] : List (Asn G)) := or_pack (hS.sel [1, 3, 0, 2, 4, 5, 6, 7, 8] (by decide) rfl)
          exact hm _ _ (hS.sel [0, 2, 4, 5, 6] (by decide) rfl)
        · have hm := R.wp_ifN hm (by first | (rw [hb35]; decide) | simpa using hb35)
          refine st_nx ?_
          refine sq_nx ?_
          refine f_seq ?_
          refine c_asg ?_
          refine c_fz ?_
          refine c_lst ?_
          refine ea_to ea_nil ?_
          refine k_lst (α := Str) (vs := []) (xs := ([] : (List Str))) hS True.intro (by show 0 ≤ sizeLine; decide) fun p64 H hS => ?_
          refine fz_no ?_
          refine c_set (σ' := [some (.ref a_v_law_index), some (.ref a_v_law_rows), some (.int (v_law_look)), some (.int (v_law_draw)), some (.ref a_v_law_words), none, none, some (.ref p64)]) rfl ?_
          refine sq_nx ?_
          refine f_seq ?_
          refine c_for ?_
          refine c_il ?_
          refine ev_to (ev_fz (ev_var rfl)) ?_
          refine k_il hS (i := 2) rfl ?_
          refine k_for (τ := (List Str)) (fun (s65 : (List Str)) (σ : L2.St) (H : Hp) => ∃ (w68 : Option V), ∃ (a69 : Addr), σ = [some (.ref a_v_law_index), some (.ref a_v_law_rows), some (.int (v_law_look)), some (.int (v_law_draw)), some (.ref a_v_law_words), none, w68, some (.ref a69)] ∧ Sep H ([lstA a69 (s65 : (List Str)), IndexA a_v_law_index v_law_index, lstA a_v_law_rows (v_law_rows : (List (Str × (List Str)))), lstA a_v_law_words (v_law_words : (List Str)), F] : List (Asn G))) (im := (Im.im G)) (s := (([] : (List Str)))) (fun _ => wk_list fun _ _ ⟨_, _, _, h⟩ => h.sq (i := 2) rfl) ⟨_, _, rfl, hS.sel [0, 1, 2, 3, 4] (by decide) rfl⟩ hm (fun s65 x66 v67 σ H q N hI hx hm nx => ?_) (fun s65 σ H hm hI => ?_)
          ·
            obtain ⟨w68, a69, rfl, hS⟩ := hI
            obtain ⟨a70, rfl⟩ := isref hx
            have hS := hS.addIm (v := (.ref a70)) (x := (x66 : (Str × (List Str)))) hx
            refine c_gN (σ' := [some (.ref a_v_law_index), some (.ref a_v_law_rows), some (.int (v_law_look)), some (.int (v_law_draw)), some (.ref a_v_law_words), none, some (.ref a70), some (.ref a69)]) rfl ?_
            refine c_asg ?_
            refine c_fz ?_
            refine c_op ?_
            refine ev_to (ev_fz (ev_var rfl)) ?_
            refine c_fz ?_
            refine c_lc ?_
            refine c_il ?_
            obtain ⟨u72, u73, hT76, h74, h75⟩ := im2 (hS.im (i := 0) rfl)
            obtain rfl : u72 = (.str (x66.1)) := h74
            obtain ⟨a77, rfl⟩ := isref h75
            refine ev_to (ev_ixT (ev_var rfl) ev_c hT76 rfl) ?_
            have hS := hS.addIm (v := (.ref a77)) (x := (x66.2 : (List Str))) h75
            refine k_ilG (imPl (hS.im (i := 0) rfl)) ?_
            obtain ⟨h79, hm⟩ := R.wp_need hm
            refine lc_sep (β := Str) (fun (_ : Unit) => ([imA (.ref a77) (x66.2 : (List Str)), imA (.ref a70) (x66 : (Str × (List Str))), lstA a69 (s65 : (List Str)), IndexA a_v_law_index v_law_index, lstA a_v_law_rows (v_law_rows : (List (Str × (List Str)))), lstA a_v_law_words (v_law_words : (List Str)), F] : List (Asn G))) (s := ()) (im := (Im.im G)) hS (fun _ _ _ => wk_list fun _ _ h => imPl (h.im (i := 1) rfl)) h79 hm (fun p80 _ ys83 x81 v82 H q Nx hS hx hm kS kN => ?_) (fun p80 t H hm hS => ?_)
            ·
              cases hx
              refine c_gLc (σ' := [some (.ref a_v_law_index), some (.ref a_v_law_rows), some (.int (v_law_look)), some (.int (v_law_draw)), some (.ref a_v_law_words), some (.str (x81)), some (.ref a70), some (.ref a69)]) rfl rfl ?_
              refine et_to (et_test (ev_niL hS (i := 3) rfl (ev_var rfl) (ev_fz (ev_var rfl)))) ?_
              refine lc_if (fun hb84 => ?_) (fun hb84 => ?_)
              · have hm := R.wp_ifY hm hb84
                refine ev_to (ev_var rfl) ?_
                exact kS () _ _ _ hm rfl (hS.sel [0, 1, 2, 3, 4, 5, 6, 7] (by decide) rfl)
              · have hm := R.wp_ifN hm (by first | (rw [hb84]; decide) | simpa using hb84)
                exact kN () _ hm (hS.sel [0, 1, 2, 3, 4, 5, 6, 7] (by decide) rfl)
            · revert hm hS; generalize t = t85; intro hm hS
              refine fz_no ?_
              obtain ⟨h86, hm⟩ := R.wp_need hm
              refine k_catG hS (hS.rdL (i := 3) rfl) (hS.rdL (i := 0) rfl) h86 fun p87 H hS => ?_
              refine fz_no ?_
              obtain ⟨y88, hy88, hm⟩ := wp_let hm
              have hS : Sep H ([lstA p87 (y88 : (List Str)), lstA p80 (t85.2 : (List Str)), imA (.ref a77) (x66.2 : (List Str)), imA (.ref a70) (x66 : (Str × (List Str))), lstA a69 (s65 : (List Str)), IndexA a_v_law_index v_law_index, lstA a_v_law_rows (v_law_rows : (List (Str × (List Str)))), lstA a_v_law_words (v_law_words : (List Str)), F] : List (Asn G)) := by rw [← hy88]; exact hS
              refine c_set (σ' := [some (.ref a_v_law_index), some (.ref a_v_law_rows), some (.int (v_law_look)), some (.int (v_law_draw)), some (.ref a_v_law_words), none, some (.ref a70), some (.ref p87)]) rfl ?_
              exact nx _ _ _ hm ⟨_, _, rfl, hS.sel [0, 5, 6, 7, 8] (by decide) rfl⟩
          · obtain ⟨w68, a69, rfl, hS⟩ := hI
            refine sq_nx ?_
            refine c_ret ?_
            refine c_lst ?_
            refine c_cons ?_
            refine c_fz ?_
            refine c_meth ?_
            refine ev_to (ev_var rfl) ?_
            obtain ⟨d89, _, _, hO90⟩ := ins_Index hS (i := 1) rfl
            refine ⟨_, _, _, rfl, hO90, rfl, ?_⟩
            refine ea_to ea_nil ?_
            refine ⟨a_v_law_index, (v_law_index : Index), star [lstA a69 (s65 : (List Str)), lstA a_v_law_rows (v_law_rows : (List (Str × (List Str)))), lstA a_v_law_words (v_law_words : (List Str)), F], rfl, Sep.unstar (M := [IndexA a_v_law_index v_law_index]) (hS.sel [1, 0, 2, 3, 4] (by decide) rfl : Sep H (([IndexA a_v_law_index v_law_index] ++ [lstA a69 (s65 : (List Str)), lstA a_v_law_rows (v_law_rows : (List (Str × (List Str)))), lstA a_v_law_words (v_law_words : (List Str)), F] : List (Asn G)))), R.wp_mono (R.wp_bind hm) (fun r91 hm p92 H hS => ?_) (fun _ z => z)⟩
            have hS : Sep H ([lstA p92 (r91 : (List Str)), IndexA a_v_law_index v_law_index, lstA a69 (s65 : (List Str)), lstA a_v_law_rows (v_law_rows : (List (Str × (List Str)))), lstA a_v_law_words (v_law_words : (List Str)), F] : List (Asn G)) := Sep.star (M := [lstA p92 (r91 : (List Str)), IndexA a_v_law_index v_law_index]) hS
            refine fz_no ?_
            refine c_cons ?_
            refine c_fz ?_
            refine ev_to (ev_var rfl) ?_
            refine fz_yes (xs := (s65 : (List Str))) hS (i := 2) rfl fun H hS => ?_
            have hS : Sep H ([imA (.ref a69) (s65 : (List Str)), lstA p92 (r91 : (List Str)), IndexA a_v_law_index v_law_index, lstA a_v_law_rows (v_law_rows : (List (Str × (List Str)))), lstA a_v_law_words (v_law_words : (List Str)), F] : List (Asn G)) := hS
            refine c_nil ?_
            refine k_lstC (vs := [(.ref p92), (.ref a69)]) hS (by show 2 ≤ sizeLine; decide) fun p94 H hS => ?_
            have hS := hS.addIm (v := (.ref a69)) (x := (s65 : (List Str))) (hS.im (i := 1) rfl)
            have hS : Sep H ([(orE lstA) p94 ((r91, s65) : ((List Str) × (List Str))), imA (.ref a69) (s65 : (List Str)), IndexA a_v_law_index v_law_index, lstA a_v_law_rows (v_law_rows : (List (Str × (List Str)))), lstA a_v_law_words (v_law_words : (List Str)), F] : List (Asn G)) := or_pack (hS.sel [1, 3, 0, 2, 4, 5, 6, 7] (by decide) rfl)
            exact hm _ _ (hS.sel [0, 2, 3, 4, 5] (by decide) rfl)
def sp_law_stands (G : Gx) : Sp := fun vs H Q E => ∃ (a_v_law_index : Addr) (v_law_index : Index) (a_v_law_rows : Addr) (v_law_rows : (List (Str × (List Str)))) (a_v_law_words : Addr) (v_law_words : (List Str)) (v_law_draw : Int) (a_v_law_held : Addr) (v_law_held : (List ((List Str) × Str))) (F : Asn G), vs = [.ref a_v_law_index, .ref a_v_law_rows, .ref a_v_law_words, (.int (v_law_draw)), .ref a_v_law_held] ∧ Sep H ([IndexA a_v_law_index v_law_index, lstA a_v_law_rows (v_law_rows : (List (Str × (List Str)))), lstA a_v_law_words (v_law_words : (List Str)), lstA a_v_law_held (v_law_held : (List ((List Str) × Str))), F] : List (Asn G)) ∧ R.wp (m_law_stands v_law_index v_law_rows v_law_words v_law_draw v_law_held) (fun r => ∀ H', Sep H' ([IndexA a_v_law_index v_law_index, lstA a_v_law_rows (v_law_rows : (List (Str × (List Str)))), lstA a_v_law_words (v_law_words : (List Str)), lstA a_v_law_held (r.2 : (List ((List Str) × Str))), F] : List (Asn G)) → Q (.bl (r.1)) H') (fun _ => False)
abbrev N_law_stands : List Str := ["_law_index", "_law_rows", "_law_words", "_law_draw", "_law_held", "_law_turn", "_law_pair"]
theorem sc_law_stands : FnScope N_law_stands ["_law_index", "_law_rows", "_law_words", "_law_draw", "_law_held"] (defScope s_law_stands) := ⟨rfl, rfl, rfl, by decide +kernel, rfl, by decide +kernel, by decide +kernel⟩
theorem ok_law_stands (T : Txt G mg) : FnG P w G.K mg base CX0 4 T.a_law_stands T.fd_law_stands ["_law_index", "_law_rows", "_law_words", "_law_draw", "_law_held"] (sp_law_stands G) := by
  have nd := sc_law_stands.nd
  refine Fun.okG T.F_law_stands sc_law_stands (fun vs H Q E h => ?_) (fun cdv A outer s H vs Q E hgd hr h => ?_)
  · obtain ⟨a_v_law_index, v_law_index, a_v_law_rows, v_law_rows, a_v_law_words, v_law_words, v_law_draw, a_v_law_held, v_law_held, F, rfl, _⟩ := h; rfl
  · obtain ⟨a_v_law_index, v_law_index, a_v_law_rows, v_law_rows, a_v_law_words, v_law_words, v_law_draw, a_v_law_held, v_law_held, F, rfl, hS, hm⟩ := h
    refine ⟨_, (pss_cons (ps_for PassesOwn.never rfl (pi_range1 rfl T.z_range (pa_cons pe_int pa_nil)) (pg_name (i := 5) nd rfl (Or.inl rfl)) (pss_cons (ps_set (i := 6) nd rfl (Or.inl rfl) (pe_call (ok_law_looked T) (hr.mono (by decide)) rfl T.g_law_looked T.kp_law_looked T.b_law_looked .nil pass0 (pa_cons (pv 0) (pa_cons (pe_fz (pv 1)) (pa_cons (pe_op op_mod (pe_op op_add (pv 3) (pv 5)) pe_int) (pa_cons (pe_op op_fdiv (pv 3) pe_int) (pa_cons (pe_fz (pv 2)) pa_nil)))))))
      (pss_cons (ps_if (pt_not (pt_val (pe_call (ok_law_is_list T) (hr.mono (by decide)) rfl T.g_law_is_list T.kp_law_is_list T.b_law_is_list .nil pass0 (pa_cons (pe_fz (pe_ix (ix_listK G.K) (pv 6) pe_int (fun _ _ => rfl))) (pa_cons (pe_fz (pe_callB (sortedSK G.K) (by rfl) T.z_sorted (by decide +kernel) (pa_cons (pe_ix (ix_listK G.K) (pv 6) pe_int (fun _ _ => rfl)) pa_nil))) pa_nil))))) (pss_one (ps_ret pe_bl)) pss_nil)
      (pss_cons (ps_if (pt_cmpR op_eq (pe_op op_mod (pe_op op_fdiv (pv 3) pe_int) pe_int) pe_int (nomark _)) (pss_one (ps_expr (pe_bmK G.K PySem.F.plainAttrs_list PySem.F.slot_list_append PySem.F.type_list_append mt_append (pe_fz (pe_ix (ix_listK G.K) (pv 6) pe_int (fun _ _ => rfl))) (pa_cons pe_str pa_nil)))) pss_nil)
      (pss_one (ps_expr (pe_bmK G.K PySem.F.plainAttrs_list PySem.F.slot_list_append PySem.F.type_list_append mt_append (pe_fz (pv 4)) (pa_cons (pe_tup (pa_cons (pe_fz (pe_ix (ix_listK G.K) (pv 6) pe_int (fun _ _ => rfl))) (pa_cons (pe_callB (call_reprD G.K hgd hr.units) (by rfl) T.z_repr (by decide +kernel) (pa_cons (pe_fz (pe_ix (ix_listK G.K) (pv 6) pe_int (fun _ _ => rfl))) pa_nil)) pa_nil))) pa_nil))))))))
      (pss_one (ps_ret pe_bl))), ?_⟩
    unfold m_law_stands at hm
    refine f_seq ?_
    refine c_for ?_
    refine c_rng1 ?_
    refine ea_to (ea_cons ev_c ea_nil) ?_
    refine k_rng1 (by decide) (by decide) ?_
    refine k_forF (τ := (List ((List Str) × Str))) (fun (s1 : (List ((List Str) × Str))) (σ : L2.St) (H : Hp) => ∃ (w4 w5 : Option V), σ = [some (.ref a_v_law_index), some (.ref a_v_law_rows), some (.ref a_v_law_words), some (.int (v_law_draw)), some (.ref a_v_law_held), w4, w5] ∧ Sep H ([IndexA a_v_law_index v_law_index, lstA a_v_law_rows (v_law_rows : (List (Str × (List Str)))), lstA a_v_law_words (v_law_words : (List Str)), lstA a_v_law_held (s1 : (List ((List Str) × Str))), F] : List (Asn G))) (im := (fun _ v (x : Int) => v = .int x)) (s := (v_law_held)) (fun _ => wk_range) ⟨_, _, rfl, hS.sel [0, 1, 2, 3, 4] (by decide) rfl⟩ hm (fun s1 x2 v3 σ H q N B hI hx hm nx bk ho6 => ?_) (fun s1 σ H hm hI => ?_)
    ·
      obtain ⟨w4, w5, rfl, hS⟩ := hI
      cases hx
      refine c_gN (σ' := [some (.ref a_v_law_index), some (.ref a_v_law_rows), some (.ref a_v_law_words), some (.int (v_law_draw)), some (.ref a_v_law_held), some (.int (x2)), w5]) rfl ?_
      refine f_seq ?_
      refine c_asg ?_
      refine c_call ?_
      refine ea_to (ea_cons (ev_var rfl) (ea_cons (ev_fz (ev_var rfl)) (ea_cons (ev_mod (ev_add (ev_var rfl) (ev_var rfl)) ev_c (by decide)) (ea_cons (ev_fdiv (ev_var rfl) ev_c ⟨by decide, by decide⟩) (ea_cons (ev_fz (ev_var rfl)) ea_nil))))) ?_
      refine ⟨a_v_law_index, (v_law_index : Index), a_v_law_rows, (v_law_rows : (List (Str × (List Str)))), ((v_law_draw + x2) % 3), (v_law_draw / 3), a_v_law_words, (v_law_words : (List Str)), star [lstA a_v_law_held (s1 : (List ((List Str) × Str))), F], rfl, Sep.unstar (M := [IndexA a_v_law_index v_law_index, lstA a_v_law_rows (v_law_rows : (List (Str × (List Str)))), lstA a_v_law_words (v_law_words : (List Str))]) (hS.sel [0, 1, 2, 3, 4] (by decide) rfl : Sep H (([IndexA a_v_law_index v_law_index, lstA a_v_law_rows (v_law_rows : (List (Str × (List Str)))), lstA a_v_law_words (v_law_words : (List Str))] ++ [lstA a_v_law_held (s1 : (List ((List Str) × Str))), F] : List (Asn G)))), R.wp_mono (R.wp_bind hm) (fun r7 hm p8 H hS => ?_) (fun _ z => z)⟩
      have hS : Sep H ([(orE lstA) p8 (r7 : ((List Str) × (List Str))), IndexA a_v_law_index v_law_index, lstA a_v_law_rows (v_law_rows : (List (Str × (List Str)))), lstA a_v_law_words (v_law_words : (List Str)), lstA a_v_law_held (s1 : (List ((List Str) × Str))), F] : List (Asn G)) := Sep.star (M := [(orE lstA) p8 (r7 : ((List Str) × (List Str))), IndexA a_v_law_index v_law_index, lstA a_v_law_rows (v_law_rows : (List (Str × (List Str)))), lstA a_v_law_words (v_law_words : (List Str))]) hS
      refine c_set (σ' := [some (.ref a_v_law_index), some (.ref a_v_law_rows), some (.ref a_v_law_words), some (.int (v_law_draw)), some (.ref a_v_law_held), some (.int (x2)), some (.ref p8)]) rfl ?_
      refine sq_nx ?_
      refine f_seq ?_
      refine f_if ?_
      refine f_not ?_
      refine f_B ?_
      refine c_call ?_
      refine c_cons ?_
      refine c_fz ?_
      refine c_op ?_
      refine ev_to (ev_var rfl) ?_
      refine ev_to ev_c ?_
      obtain ⟨q10, v9, hS⟩ := or_open (hS.sel [0, 1, 2, 3, 4, 5] (by decide) rfl : Sep _ ((orE lstA) p8 (r7 : ((List Str) × (List Str))) :: [IndexA a_v_law_index v_law_index, lstA a_v_law_rows (v_law_rows : (List (Str × (List Str)))), lstA a_v_law_words (v_law_words : (List Str)), lstA a_v_law_held (s1 : (List ((List Str) × Str))), F] : List (Asn G)))
      obtain ⟨a11, rfl⟩ := isref (hS.im (i := 2) rfl)
      have hS : Sep _ ([cell p8 (.lst [.ref q10, (.ref a11)]), lstA q10 (r7.1 : (List Str)), imA (.ref a11) (r7.2 : (List Str)), IndexA a_v_law_index v_law_index, lstA a_v_law_rows (v_law_rows : (List (Str × (List Str)))), lstA a_v_law_words (v_law_words : (List Str)), lstA a_v_law_held (s1 : (List ((List Str) × Str))), F] : List (Asn G)) := hS
      refine r_ixSq (sq_cell hS (i := 0) rfl) rfl _ ?_
      refine fz_no ?_
      refine c_cons ?_
      refine c_fz ?_
      refine c_cb ?_
      refine ea_to (ea_cons (ev_ixSq (ev_var rfl) ev_c (sq_cell hS (i := 0) rfl) rfl) ea_nil) ?_
      obtain ⟨h14, hm⟩ := R.wp_need hm
      refine k_sorted hS (imPlF (hS.im (i := 2) rfl)) h14 fun p13 H hS => ?_
      refine fz_no ?_
      refine c_nil ?_
      refine ⟨q10, (r7.1 : (List Str)), p13, (sortT r7.2 : (List Str)), star [cell p8 (.lst [.ref q10, (.ref a11)]), imA (.ref a11) (r7.2 : (List Str)), IndexA a_v_law_index v_law_index, lstA a_v_law_rows (v_law_rows : (List (Str × (List Str)))), lstA a_v_law_words (v_law_words : (List Str)), lstA a_v_law_held (s1 : (List ((List Str) × Str))), F], rfl, Sep.unstar (M := [lstA q10 (r7.1 : (List Str)), lstA p13 (sortT r7.2 : (List Str))]) (hS.sel [2, 0, 1, 3, 4, 5, 6, 7, 8] (by decide) rfl : Sep H (([lstA q10 (r7.1 : (List Str)), lstA p13 (sortT r7.2 : (List Str))] ++ [cell p8 (.lst [.ref q10, (.ref a11)]), imA (.ref a11) (r7.2 : (List Str)), IndexA a_v_law_index v_law_index, lstA a_v_law_rows (v_law_rows : (List (Str × (List Str)))), lstA a_v_law_words (v_law_words : (List Str)), lstA a_v_law_held (s1 : (List ((List Str) × Str))), F] : List (Asn G)))), R.wp_mono (R.wp_bind hm) (fun r15 hm H hS => ?_) (fun _ z => z)⟩
      have hS : Sep H ([lstA q10 (r7.1 : (List Str)), lstA p13 (sortT r7.2 : (List Str)), cell p8 (.lst [.ref q10, (.ref a11)]), imA (.ref a11) (r7.2 : (List Str)), IndexA a_v_law_index v_law_index, lstA a_v_law_rows (v_law_rows : (List (Str × (List Str)))), lstA a_v_law_words (v_law_words : (List Str)), lstA a_v_law_held (s1 : (List ((List Str) × Str))), F] : List (Asn G)) := Sep.star (M := [lstA q10 (r7.1 : (List Str)), lstA p13 (sortT r7.2 : (List Str))]) hS
      refine f_bl ?_
      refine f_nK ?_
      refine ifK_2 (fun hb16 => ?_) (fun hb16 => ?_)
      · have hm := R.wp_ifY hm hb16
        refine c_ret ?_
        refine ev_to ev_c ?_
        exact (ho6 _ hm) _ (hS.sel [4, 5, 6, 7, 8] (by decide) rfl)
      · have hm := R.wp_ifN hm (by first | (rw [hb16]; decide) | simpa using hb16)
        refine st_nx ?_
        refine sq_nx ?_
        refine f_seq ?_
        refine f_if ?_
        refine et_to (et_test (ev_eqI (ev_mod (ev_fdiv (ev_var rfl) ev_c ⟨by decide, by decide⟩) ev_c (by decide)) ev_c)) ?_
        have hS : Sep _ ([(orE lstA) p8 (r7 : ((List Str) × (List Str))), lstA p13 (sortT r7.2 : (List Str)), IndexA a_v_law_index v_law_index, lstA a_v_law_rows (v_law_rows : (List (Str × (List Str)))), lstA a_v_law_words (v_law_words : (List Str)), lstA a_v_law_held (s1 : (List ((List Str) × Str))), F] : List (Asn G)) := or_pack (hS.sel [2, 0, 3, 1, 4, 5, 6, 7, 8] (by decide) rfl)
        refine ifK_J (τ := ((List Str) × (List Str))) (fun (s17 : ((List Str) × (List Str))) (σ : L2.St) (H : Hp) => σ = [some (.ref a_v_law_index), some (.ref a_v_law_rows), some (.ref a_v_law_words), some (.int (v_law_draw)), some (.ref a_v_law_held), some (.int (x2)), some (.ref p8)] ∧ Sep H ([(orE lstA) p8 (s17 : ((List Str) × (List Str))), lstA p13 (sortT r7.2 : (List Str)), IndexA a_v_law_index v_law_index, lstA a_v_law_rows (v_law_rows : (List (Str × (List Str)))), lstA a_v_law_words (v_law_words : (List Str)), lstA a_v_law_held (s1 : (List ((List Str) × Str))), F] : List (Asn G))) hm (fun hb q hm nx => ?_) (fun hb q hm nx => ?_) (fun s17 σ H hm hI => ?_)
        ·
          refine c_drop ?_
          refine c_bm ?_
          refine c_fz ?_
          refine c_op ?_
          refine ev_to (ev_var rfl) ?_
          refine ev_to ev_c ?_
          obtain ⟨q19, v18, hS⟩ := or_open (hS.sel [0, 1, 2, 3, 4, 5, 6] (by decide) rfl : Sep _ ((orE lstA) p8 (r7 : ((List Str) × (List Str))) :: [lstA p13 (sortT r7.2 : (List Str)), IndexA a_v_law_index v_law_index, lstA a_v_law_rows (v_law_rows : (List (Str × (List Str)))), lstA a_v_law_words (v_law_words : (List Str)), lstA a_v_law_held (s1 : (List ((List Str) × Str))), F] : List (Asn G)))
          obtain ⟨a20, rfl⟩ := isref (hS.im (i := 2) rfl)
          have hS : Sep _ ([cell p8 (.lst [.ref q19, (.ref a20)]), lstA q19 (r7.1 : (List Str)), imA (.ref a20) (r7.2 : (List Str)), lstA p13 (sortT r7.2 : (List Str)), IndexA a_v_law_index v_law_index, lstA a_v_law_rows (v_law_rows : (List (Str × (List Str)))), lstA a_v_law_words (v_law_words : (List Str)), lstA a_v_law_held (s1 : (List ((List Str) × Str))), F] : List (Asn G)) := hS
          refine r_ixSq (sq_cell hS (i := 0) rfl) rfl _ ?_
          refine fz_no ?_
          refine ⟨tyL hS (i := 1) rfl, ?_⟩
          refine ea_to (ea_cons ev_c ea_nil) ?_
          obtain ⟨h22, hm⟩ := R.wp_need hm
          refine k_append (x := ("zz" : Str)) hS (i := 1) rfl rfl h22 rfl fun H hS => ?_
          have hS : Sep _ ([(orE lstA) p8 ((r7.1 ++ [("zz" : Str)], r7.2) : ((List Str) × (List Str))), lstA p13 (sortT r7.2 : (List Str)), IndexA a_v_law_index v_law_index, lstA a_v_law_rows (v_law_rows : (List (Str × (List Str)))), lstA a_v_law_words (v_law_words : (List Str)), lstA a_v_law_held (s1 : (List ((List Str) × Str))), F] : List (Asn G)) := or_pack (hS.sel [0, 1, 2, 3, 4, 5, 6, 7, 8] (by decide) rfl)
          exact nx _ _ _ hm ⟨rfl, hS.sel [0, 1, 2, 3, 4, 5, 6] (by decide) rfl⟩
        ·
          refine st_nx ?_
          exact nx _ _ _ hm ⟨rfl, hS.sel [0, 1, 2, 3, 4, 5, 6] (by decide) rfl⟩
        · obtain ⟨rfl, hS⟩ := hI
          refine sq_nx ?_
          refine c_drop ?_
          refine c_bm ?_
          refine ev_to (ev_fz (ev_var rfl)) ⟨tyL hS (i := 5) rfl, ?_⟩
          refine c_cons ?_
          refine c_tup ?_
          refine c_cons ?_
          refine c_fz ?_
          refine c_op ?_
          refine ev_to (ev_var rfl) ?_
          refine ev_to ev_c ?_
          obtain ⟨q24, v23, hS⟩ := or_open (hS.sel [0, 1, 2, 3, 4, 5, 6] (by decide) rfl : Sep _ ((orE lstA) p8 (s17 : ((List Str) × (List Str))) :: [lstA p13 (sortT r7.2 : (List Str)), IndexA a_v_law_index v_law_index, lstA a_v_law_rows (v_law_rows : (List (Str × (List Str)))), lstA a_v_law_words (v_law_words : (List Str)), lstA a_v_law_held (s1 : (List ((List Str) × Str))), F] : List (Asn G)))
          obtain ⟨a25, rfl⟩ := isref (hS.im (i := 2) rfl)
          have hS : Sep _ ([cell p8 (.lst [.ref q24, (.ref a25)]), lstA q24 (s17.1 : (List Str)), imA (.ref a25) (s17.2 : (List Str)), lstA p13 (sortT r7.2 : (List Str)), IndexA a_v_law_index v_law_index, lstA a_v_law_rows (v_law_rows : (List (Str × (List Str)))), lstA a_v_law_words (v_law_words : (List Str)), lstA a_v_law_held (s1 : (List ((List Str) × Str))), F] : List (Asn G)) := hS
          refine r_ixSq (sq_cell hS (i := 0) rfl) rfl _ ?_
          refine fz_yes (xs := (s17.1 : (List Str))) hS (i := 1) rfl fun H hS => ?_
          have hS : Sep H ([imA (.ref q24) (s17.1 : (List Str)), cell p8 (.lst [.ref q24, (.ref a25)]), imA (.ref a25) (s17.2 : (List Str)), lstA p13 (sortT r7.2 : (List Str)), IndexA a_v_law_index v_law_index, lstA a_v_law_rows (v_law_rows : (List (Str × (List Str)))), lstA a_v_law_words (v_law_words : (List Str)), lstA a_v_law_held (s1 : (List ((List Str) × Str))), F] : List (Asn G)) := hS
          refine c_cons ?_
          obtain ⟨h28, hm⟩ := R.wp_need hm
          refine ev_to (ev_cb (ea_cons (ev_fz (ev_ixSq (ev_var rfl) ev_c (sq_cell hS (i := 1) rfl) rfl)) ea_nil) fun _ q => r_reprL (Pd.dp (hS.im (i := 0) rfl)) h28 q) ?_
          refine c_nil ?_
          refine k_tupP (x := ((s17.1, reprL s17.1) : ((List Str) × Str))) hS (fun H' p h s => mk2 (hS.im (i := 0) rfl) rfl h s) (by show 2 ≤ sizeLine; decide) fun p29 H hS => ?_
          refine c_nil ?_
          obtain ⟨h31, hm⟩ := R.wp_need hm
          refine k_append (x := (s17.1, reprL s17.1)) hS (i := 8) rfl (hS.im (i := 0) rfl) h31 rfl fun H hS => ?_
          exact nx _ _ _ hm ⟨_, _, rfl, hS.sel [5, 6, 7, 8, 9] (by decide) rfl⟩
    · obtain ⟨w4, w5, rfl, hS⟩ := hI
      refine sq_nx ?_
      refine c_ret ?_
      refine ev_to ev_c ?_
      exact hm _ (hS.sel [0, 1, 2, 3, 4] (by decide) rfl)
def sp_law (G : Gx) : Sp := fun vs H Q E => ∃ (a_v_law_script : V) (v_law_script : Script) (F : Asn G), vs = [a_v_law_script] ∧ Im.im G H a_v_law_script v_law_script ∧ Sep H ([F] : List (Asn G)) ∧ R.wp (m_law v_law_script) (fun r => ∀ H', Sep H' ([F] : List (Asn G)) → Q (.bl (r)) H') (fun _ => False)
abbrev N_law : List Str := ["_law_script", "_law_draws_here", "_law_pool_here", "_law_k", "_law_words", "_law_index", "_law_other", "_law_rows", "_law_held", "_law_told", "_law_kept"]
theorem sc_law : FnScope N_law ["_law_script"] (defScope s_law) := ⟨rfl, rfl, rfl, by decide +kernel, rfl, by decide +kernel, by decide +kernel⟩
theorem ok_law (T : Txt G mg) : FnG P w G.K mg base CX0 5 T.a_law T.fd_law ["_law_script"] (sp_law G) := by
  have nd := sc_law.nd
  refine Fun.okG T.F_law sc_law (fun vs H Q E h => ?_) (fun cdv A outer s H vs Q E hgd hr h => ?_)
  · obtain ⟨a_v_law_script, v_law_script, F, rfl, _⟩ := h; rfl
  · obtain ⟨a_v_law_script, v_law_script, F, rfl, him_v_law_script, hS, hm⟩ := h
    obtain ⟨ad_v_law_script, rfl, _⟩ := im_script him_v_law_script
    have hS := hS.addIm him_v_law_script
    refine ⟨_, (pss_cons (ps_set (i := 1) nd rfl (Or.inr rfl) (pe_fz (pe_call (ok_law_draws T) (hr.mono (by decide)) rfl T.g_law_draws T.kp_law_draws T.b_law_draws .nil pass0 (pa_cons (pv 0) (pa_cons pe_int pa_nil)))))
      (pss_cons (ps_set (i := 2) nd rfl (Or.inl rfl) (pe_fz (pe_call (ok_law_pool T) (hr.mono (by decide)) rfl T.g_law_pool T.kp_law_pool T.b_law_pool .nil pass0 (pa_cons (pe_fz (pv 1)) pa_nil))))
      (pss_cons (ps_setLc (i := 4) (own := [("_law_k", 3)]) (g := gName 3) rfl nd rfl rfl (sw_true rfl rfl rfl (by decide +kernel)) (pi_range1 rfl T.z_range (pa_cons (pe_op op_add pe_int (pe_op op_mod (pe_ix (ix_listK G.K) (pe_fz (pv 1)) pe_int (fun _ _ => rfl)) pe_int)) pa_nil)) (blkOk_by (own := [("_law_k", 3)]) (N := N_law) (sc := defScope s_law) (by decide +kernel)) (fun _ _ _ _ _ => pg_name (i := 3) nd rfl (Or.inl rfl)) (fun _ _ _ _ _ => pts_nil) (fun _ _ _ _ _ => (pe_call (ok_law_name_by T) (hr.mono (by decide)) rfl T.g_law_name_by T.kp_law_name_by T.b_law_name_by .nil pass0 (pa_cons (pe_ix (ix_listK G.K) (pe_fz (pv 1)) pe_int (fun _ _ => rfl)) (pa_cons (pe_op op_add pe_int (pv 3)) pa_nil)))))
      (pss_cons (ps_if (pt_cmpR op_eq (pe_op op_mod (pe_ix (ix_listK G.K) (pe_fz (pv 1)) pe_int (fun _ _ => rfl)) pe_int) pe_int (nomark _)) (pss_one (ps_asg (pe_ix (ix_listK G.K) (pe_fz (pv 2)) pe_int (fun _ _ => rfl)) (pg_sub (pe_fz (pv 4)) pe_int set_list))) pss_nil)
      (pss_cons (ps_set (i := 5) nd rfl (Or.inl rfl) (pe_make0 T.k_Index (ok_Index___init__ T) (hr.mono (by decide)) rfl T.g_Index T.b_Index___init__ .nil pass0))
      (pss_cons (ps_set (i := 6) nd rfl (Or.inl rfl) (pe_make0 T.k_Index (ok_Index___init__ T) (hr.mono (by decide)) rfl T.g_Index T.b_Index___init__ .nil pass0))
      (pss_cons (ps_expr (pe_meth (pv 6) T.cl_Index T.m_Index_add (ok_Index_add T) (hr.mono (by decide)) T.b_Index_add .nil passL (pa_cons (pe_ix (ix_listK G.K) (pe_fz (pv 2)) pe_int (fun _ _ => rfl)) (pa_cons (pe_fz (pe_lst (pa_cons (pe_ix (ix_listK G.K) (pe_fz (pv 4)) pe_int (fun _ _ => rfl)) pa_nil))) pa_nil))))
      (pss_cons (ps_set (i := 7) nd rfl (Or.inl rfl) (pe_fz (pe_lst pa_nil)))
      (pss_cons (ps_set (i := 8) nd rfl (Or.inl rfl) (pe_fz (pe_lst pa_nil)))
      (pss_cons (ps_for PassesOwn.never rfl (pi_range1 rfl T.z_range (pa_cons (pe_op op_add pe_int (pe_op op_mod (pe_ix (ix_listK G.K) (pe_fz (pv 1)) pe_int (fun _ _ => rfl)) pe_int)) pa_nil)) (pg_name (i := 3) nd rfl (Or.inl rfl)) (pss_cons (ps_if (pt_not (pt_val (pe_call (ok_law_done T) (hr.mono (by decide)) rfl T.g_law_done T.kp_law_done T.b_law_done .nil pass0 (pa_cons (pv 5) (pa_cons (pe_fz (pv 7)) (pa_cons (pe_fz (pv 2)) (pa_cons (pe_fz (pv 4)) (pa_cons (pe_fz (pe_slice (sl_listK G.K) (pe_fz (pv 1)) (po_some (pe_op op_add pe_int (pe_op op_mul pe_int (pv 3)))) (po_some (pe_op op_add pe_int (pe_op op_mul pe_int (pv 3)))))) pa_nil)))))))) (pss_one (ps_ret pe_bl)) pss_nil)
      (pss_one (ps_if (pt_not (pt_val (pe_callGd (ok_law_stands T) hgd (hr.mono (by decide)) rfl T.g_law_stands T.kp_law_stands T.b_law_stands .nil pass0 (pa_cons (pv 5) (pa_cons (pe_fz (pv 7)) (pa_cons (pe_fz (pv 4)) (pa_cons (pe_ix (ix_listK G.K) (pe_fz (pv 1)) (pe_op op_add pe_int (pe_op op_mul pe_int (pv 3))) (fun _ _ => rfl)) (pa_cons (pe_fz (pv 8)) pa_nil)))))))) (pss_one (ps_ret pe_bl)) pss_nil))))
      (pss_cons (ps_if (PW.pt (pw_or (pt_cmpR (neDK G.K hr.units) (pe_fz (pe_meth (pv 6) T.cl_Index T.m_Index_having (ok_Index_having T) (hr.mono (by decide)) T.b_Index_having .nil pass0 (pa_cons (pe_ix (ix_listK G.K) (pe_fz (pv 4)) pe_int (fun _ _ => rfl)) pa_nil))) (pe_fz (pe_lst (pa_cons (pe_ix (ix_listK G.K) (pe_fz (pv 2)) pe_int (fun _ _ => rfl)) pa_nil))) (nomark _)) (pw_or1 (pt_cmpR (neDK G.K hr.units) (pe_fz (pe_meth0 (pv 6) T.cl_Index T.m_Index_all_words (ok_Index_all_words T) (hr.mono (by decide)) T.b_Index_all_words .nil pass0)) (pe_fz (pe_lst (pa_cons (pe_ix (ix_listK G.K) (pe_fz (pv 4)) pe_int (fun _ _ => rfl)) pa_nil))) (nomark _))))) (pss_one (ps_ret pe_bl)) pss_nil)
      (pss_cons (ps_if (PW.pt (pw_and (pt_cmpR op_ne (pe_ix (ix_listK G.K) (pe_fz (pv 4)) pe_int (fun _ _ => rfl)) (pe_ix (ix_listK G.K) (pe_fz (pv 4)) pe_int (fun _ _ => rfl)) (nomark _)) (pw_and1 (pt_cmpR (neDK G.K hr.units) (pe_fz (pe_meth (pv 6) T.cl_Index T.m_Index_having (ok_Index_having T) (hr.mono (by decide)) T.b_Index_having .nil pass0 (pa_cons (pe_ix (ix_listK G.K) (pe_fz (pv 4)) pe_int (fun _ _ => rfl)) pa_nil))) (pe_fz (pe_lst pa_nil)) (nomark _))))) (pss_one (ps_ret pe_bl)) pss_nil)
      (pss_one (ps_ret (pe_callB (allK G.K rfl) (by rfl) T.z_all (by decide +kernel) (pa_cons (pe_fz (pe_lc (own := [("_law_told", 9), ("_law_kept", 10)]) rfl nd (pi_listK G.K (pe_fz (pv 8))) (blkOk_by (own := [("_law_told", 9), ("_law_kept", 10)]) (N := N_law) (sc := defScope s_law) (by decide +kernel)) (fun _ _ _ _ _ => (pg_tupK (n := 2) G.K rfl rfl (pgs_cons (pg_name (i := 9) nd rfl (Or.inl rfl)) (pgs_cons (pg_name (i := 10) nd rfl (Or.inl rfl)) pgs_nil)))) (fun _ _ _ _ _ => pts_nil) (fun _ _ _ _ _ => (pe_cmpR op_eq (pe_callB (call_reprD G.K hgd hr.units) (by rfl) T.z_repr (by decide +kernel) (pa_cons (pv 9) pa_nil)) (pv 10) (nomark _))))) pa_nil)))))))))))))))), ?_⟩
    unfold m_law at hm
    refine f_seq ?_
    refine c_asg ?_
    refine c_fz ?_
    refine c_call ?_
    refine ea_to (ea_cons (ev_var rfl) (ea_cons ev_c ea_nil)) ?_
    refine ⟨_, v_law_script, 60, star [imA (.ref ad_v_law_script) v_law_script, F], rfl, (hS.im (i := 0) rfl), Sep.unstar (M := []) (hS.sel [0, 1] (by decide) rfl : Sep H (([] ++ [imA (.ref ad_v_law_script) v_law_script, F] : List (Asn G)))), R.wp_mono (R.wp_bind hm) (fun r1 hm p2 H hS => ?_) (fun _ z => z)⟩
    have hS : Sep H ([lstA p2 (r1 : (List Int)), imA (.ref ad_v_law_script) v_law_script, F] : List (Asn G)) := Sep.star (M := [lstA p2 (r1 : (List Int))]) hS
    refine fz_no ?_
    refine c_set (σ' := [some (.ref ad_v_law_script), some (.ref p2), none, none, none, none, none, none, none, none, none]) rfl ?_
    refine sq_nx ?_
    refine f_seq ?_
    refine c_asg ?_
    refine c_fz ?_
    refine c_call ?_
    refine ea_to (ea_cons (ev_fz (ev_var rfl)) ea_nil) ?_
    refine ⟨p2, (r1 : (List Int)), star [imA (.ref ad_v_law_script) v_law_script, F], rfl, Sep.unstar (M := [lstA p2 (r1 : (List Int))]) (hS.sel [0, 1, 2] (by decide) rfl : Sep H (([lstA p2 (r1 : (List Int))] ++ [imA (.ref ad_v_law_script) v_law_script, F] : List (Asn G)))), R.wp_mono (R.wp_bind hm) (fun r3 hm p4 H hS => ?_) (fun _ z => z)⟩
    have hS : Sep H ([lstA p4 (r3 : (List Str)), lstA p2 (r1 : (List Int)), imA (.ref ad_v_law_script) v_law_script, F] : List (Asn G)) := Sep.star (M := [lstA p4 (r3 : (List Str)), lstA p2 (r1 : (List Int))]) hS
    refine fz_no ?_
    refine c_set (σ' := [some (.ref ad_v_law_script), some (.ref p2), some (.ref p4), none, none, none, none, none, none, none, none]) rfl ?_
    refine sq_nx ?_
    refine f_seq ?_
    refine c_asg ?_
    refine c_lc ?_
    refine c_rng1 ?_
    obtain ⟨x5, hx5, hm⟩ := wp_idx hm
    refine ea_to (ea_cons (ev_add ev_c (ev_mod (ev_ixSq (ev_fz (ev_var rfl)) ev_c (hS.sqF (i := 1) rfl) (atI_map hx5)) ev_c (by decide))) ea_nil) ?_
    obtain ⟨h6, hm⟩ := R.wp_need hm
    refine k_rng1 h6.1 h6.2 ?_
    obtain ⟨h7, hm⟩ := R.wp_need hm
    refine lc_sep (β := Str) (fun (_ : Unit) => ([lstA p4 (r3 : (List Str)), lstA p2 (r1 : (List Int)), imA (.ref ad_v_law_script) v_law_script, F] : List (Asn G))) (s := ()) (im := (fun _ v (x : Int) => v = .int x)) hS (fun _ _ _ => wk_range) h7 hm (fun p8 _ ys11 x9 v10 H q Nx hS hx hm kS kN => ?_) (fun p8 t H hm hS => ?_)
    ·
      cases hx
      refine c_gLc (σ' := [some (.ref ad_v_law_script), some (.ref p2), some (.ref p4), some (.int (x9)), none, none, none, none, none, none, none]) rfl rfl ?_
      refine c_yes ?_
      refine c_call ?_
      obtain ⟨x12, hx12, hm⟩ := wp_idx hm
      refine ea_to (ea_cons (ev_ixSq (ev_fz (ev_var rfl)) ev_c (hS.sqF (i := 2) rfl) (atI_map hx12)) (ea_cons (ev_add ev_c (ev_var rfl)) ea_nil)) ?_
      refine ⟨x12, (3 + x9), star [lstA p8 (ys11 : List Str), lstA p4 (r3 : (List Str)), lstA p2 (r1 : (List Int)), imA (.ref ad_v_law_script) v_law_script, F], rfl, Sep.unstar (M := []) (hS.sel [0, 1, 2, 3, 4] (by decide) rfl : Sep H (([] ++ [lstA p8 (ys11 : List Str), lstA p4 (r3 : (List Str)), lstA p2 (r1 : (List Int)), imA (.ref ad_v_law_script) v_law_script, F] : List (Asn G)))), R.wp_mono (R.wp_bind hm) (fun r13 hm H hS => ?_) (fun _ z => z)⟩
      have hS : Sep H ([lstA p8 (ys11 : List Str), lstA p4 (r3 : (List Str)), lstA p2 (r1 : (List Int)), imA (.ref ad_v_law_script) v_law_script, F] : List (Asn G)) := Sep.star (M := []) hS
      exact kS () _ _ _ hm rfl (hS.sel [0, 1, 2, 3, 4] (by decide) rfl)
    · revert hm hS; generalize t = t14; intro hm hS
      refine c_set (σ' := [some (.ref ad_v_law_script), some (.ref p2), some (.ref p4), none, some (.ref p8), none, none, none, none, none, none]) rfl ?_
      refine sq_nx ?_
      refine f_seq ?_
      refine f_if ?_
      obtain ⟨x15, hx15, hm⟩ := wp_idx hm
      refine et_to (et_test (ev_eqI (ev_mod (ev_ixSq (ev_fz (ev_var rfl)) ev_c (hS.sqF (i := 2) rfl) (atI_map hx15)) ev_c (by decide)) ev_c)) ?_
      refine ifK_J (τ := (List Str)) (fun (s16 : (List Str)) (σ : L2.St) (H : Hp) => σ = [some (.ref ad_v_law_script), some (.ref p2), some (.ref p4), none, some (.ref p8), none, none, none, none, none, none] ∧ Sep H ([lstA p8 (s16 : (List Str)), lstA p4 (r3 : (List Str)), lstA p2 (r1 : (List Int)), imA (.ref ad_v_law_script) v_law_script, F] : List (Asn G))) hm (fun hb q hm nx => ?_) (fun hb q hm nx => ?_) (fun s16 σ H hm hI => ?_)
      ·
        refine c_asgS ?_
        obtain ⟨x17, hx17, hm⟩ := wp_idx hm
        refine ev_to (ev_ixSq (ev_fz (ev_var rfl)) ev_c (hS.sqF (i := 1) rfl) (atI_map hx17)) ?_
        obtain ⟨j18, hj18, hm⟩ := wp_ix hm
        refine ev_to (ev_fz (ev_var rfl)) ?_
        refine ev_to ev_c ?_
        refine k_setL (x := x17) hS (n := 0) rfl rfl j18 hj18 rfl fun H hS => ?_
        exact nx _ _ _ hm ⟨rfl, hS.sel [0, 1, 2, 3, 4] (by decide) rfl⟩
      ·
        refine st_nx ?_
        exact nx _ _ _ hm ⟨rfl, hS.sel [0, 1, 2, 3, 4] (by decide) rfl⟩
      · obtain ⟨rfl, hS⟩ := hI
        refine sq_nx ?_
        refine f_seq ?_
        refine c_asg ?_
        refine c_make ?_
        refine ea_to ea_nil ?_
        intro p19 d20 np nd ne
        have hS := hS.newI (C := G.cl 2) np nd ne (by rw [T.fz_Index]; decide)
        refine ⟨p19, d20, star [lstA p8 (s16 : (List Str)), lstA p4 (r3 : (List Str)), lstA p2 (r1 : (List Int)), imA (.ref ad_v_law_script) v_law_script, F], rfl, Sep.unstar (M := [cell p19 (.ins (G.cl 2) d20 [])]) (hS.sel [0, 1, 2, 3, 4, 5] (by decide) rfl : Sep _ (([cell p19 (.ins (G.cl 2) d20 [])] ++ [lstA p8 (s16 : (List Str)), lstA p4 (r3 : (List Str)), lstA p2 (r1 : (List Int)), imA (.ref ad_v_law_script) v_law_script, F] : List (Asn G)))), R.wp_mono (R.wp_bind hm) (fun r21 hm H hS => ⟨rfl, ?_⟩) (fun _ z => z)⟩
        have hS : Sep H ([IndexA p19 r21, lstA p8 (s16 : (List Str)), lstA p4 (r3 : (List Str)), lstA p2 (r1 : (List Int)), imA (.ref ad_v_law_script) v_law_script, F] : List (Asn G)) := Sep.star (M := [IndexA p19 r21]) hS
        refine c_set (σ' := [some (.ref ad_v_law_script), some (.ref p2), some (.ref p4), none, some (.ref p8), some (.ref p19), none, none, none, none, none]) rfl ?_
        refine sq_nx ?_
        refine f_seq ?_
        refine c_asg ?_
        refine c_make ?_
        refine ea_to ea_nil ?_
        intro p22 d23 np nd ne
        have hS := hS.newI (C := G.cl 2) np nd ne (by rw [T.fz_Index]; decide)
        refine ⟨p22, d23, star [IndexA p19 r21, lstA p8 (s16 : (List Str)), lstA p4 (r3 : (List Str)), lstA p2 (r1 : (List Int)), imA (.ref ad_v_law_script) v_law_script, F], rfl, Sep.unstar (M := [cell p22 (.ins (G.cl 2) d23 [])]) (hS.sel [0, 1, 2, 3, 4, 5, 6] (by decide) rfl : Sep _ (([cell p22 (.ins (G.cl 2) d23 [])] ++ [IndexA p19 r21, lstA p8 (s16 : (List Str)), lstA p4 (r3 : (List Str)), lstA p2 (r1 : (List Int)), imA (.ref ad_v_law_script) v_law_script, F] : List (Asn G)))), R.wp_mono (R.wp_bind hm) (fun r24 hm H hS => ⟨rfl, ?_⟩) (fun _ z => z)⟩
        have hS : Sep H ([IndexA p22 r24, IndexA p19 r21, lstA p8 (s16 : (List Str)), lstA p4 (r3 : (List Str)), lstA p2 (r1 : (List Int)), imA (.ref ad_v_law_script) v_law_script, F] : List (Asn G)) := Sep.star (M := [IndexA p22 r24]) hS
        refine c_set (σ' := [some (.ref ad_v_law_script), some (.ref p2), some (.ref p4), none, some (.ref p8), some (.ref p19), some (.ref p22), none, none, none, none]) rfl ?_
        refine sq_nx ?_
        refine f_seq ?_
        refine c_drop ?_
        refine c_meth ?_
        refine ev_to (ev_var rfl) ?_
        obtain ⟨d25, _, _, hO26⟩ := ins_Index hS (i := 0) rfl
        refine ⟨_, _, _, rfl, hO26, rfl, ?_⟩
        refine c_cons ?_
        obtain ⟨x27, hx27, hm⟩ := wp_idx hm
        refine ev_to (ev_ixSq (ev_fz (ev_var rfl)) ev_c (hS.sqF (i := 3) rfl) (atI_map hx27)) ?_
        refine c_cons ?_
        refine c_fz ?_
        refine c_lst ?_
        obtain ⟨x28, hx28, hm⟩ := wp_idx hm
        refine ea_to (ea_cons (ev_ixSq (ev_fz (ev_var rfl)) ev_c (hS.sqF (i := 2) rfl) (atI_map hx28)) ea_nil) ?_
        refine k_lst (α := Str) (vs := [(.str (x28))]) (xs := [x28]) hS ⟨rfl, True.intro⟩ (by show 1 ≤ sizeLine; decide) fun p29 H hS => ?_
        refine fz_no ?_
        refine c_nil ?_
        refine ⟨p22, (r24 : Index), x27, p29, ([x28] : (List Str)), star [IndexA p19 r21, lstA p8 (s16 : (List Str)), lstA p4 (r3 : (List Str)), lstA p2 (r1 : (List Int)), imA (.ref ad_v_law_script) v_law_script, F], rfl, Sep.unstar (M := [IndexA p22 r24, lstA p29 ([x28] : (List Str))]) (hS.sel [1, 0, 2, 3, 4, 5, 6, 7] (by decide) rfl : Sep H (([IndexA p22 r24, lstA p29 ([x28] : (List Str))] ++ [IndexA p19 r21, lstA p8 (s16 : (List Str)), lstA p4 (r3 : (List Str)), lstA p2 (r1 : (List Int)), imA (.ref ad_v_law_script) v_law_script, F] : List (Asn G)))), R.wp_mono (R.wp_bind hm) (fun r30 hm H hS => ?_) (fun _ z => z.elim)⟩
        have hS : Sep H ([IndexA p22 r30, lstA p29 ([x28] : (List Str)), IndexA p19 r21, lstA p8 (s16 : (List Str)), lstA p4 (r3 : (List Str)), lstA p2 (r1 : (List Int)), imA (.ref ad_v_law_script) v_law_script, F] : List (Asn G)) := Sep.star (M := [IndexA p22 r30, lstA p29 ([x28] : (List Str))]) hS
        refine sq_nx ?_
        refine f_seq ?_
        refine c_asg ?_
        refine c_fz ?_
        refine c_lst ?_
        refine ea_to ea_nil ?_
        refine k_lst (α := (Str × (List Str))) (vs := []) (xs := ([] : (List (Str × (List Str))))) hS True.intro (by show 0 ≤ sizeLine; decide) fun p31 H hS => ?_
        refine fz_no ?_
        refine c_set (σ' := [some (.ref ad_v_law_script), some (.ref p2), some (.ref p4), none, some (.ref p8), some (.ref p19), some (.ref p22), some (.ref p31), none, none, none]) rfl ?_
        refine sq_nx ?_
        refine f_seq ?_
        refine c_asg ?_
        refine c_fz ?_
        refine c_lst ?_
        refine ea_to ea_nil ?_
        refine k_lst (α := ((List Str) × Str)) (vs := []) (xs := ([] : (List ((List Str) × Str)))) hS True.intro (by show 0 ≤ sizeLine; decide) fun p32 H hS => ?_
        refine fz_no ?_
        refine c_set (σ' := [some (.ref ad_v_law_script), some (.ref p2), some (.ref p4), none, some (.ref p8), some (.ref p19), some (.ref p22), some (.ref p31), some (.ref p32), none, none]) rfl ?_
        refine sq_nx ?_
        refine f_seq ?_
        refine c_for ?_
        refine c_rng1 ?_
        obtain ⟨x33, hx33, hm⟩ := wp_idx hm
        refine ea_to (ea_cons (ev_add ev_c (ev_mod (ev_ixSq (ev_fz (ev_var rfl)) ev_c (hS.sqF (i := 7) rfl) (atI_map hx33)) ev_c (by decide))) ea_nil) ?_
        obtain ⟨h34, hm⟩ := R.wp_need hm
        refine k_rng1 h34.1 h34.2 ?_
        refine k_forF (τ := Index × (List (Str × (List Str))) × (List ((List Str) × Str))) (fun (s35 : Index × (List (Str × (List Str))) × (List ((List Str) × Str))) (σ : L2.St) (H : Hp) => ∃ (w38 : Option V), σ = [some (.ref ad_v_law_script), some (.ref p2), some (.ref p4), w38, some (.ref p8), some (.ref p19), some (.ref p22), some (.ref p31), some (.ref p32), none, none] ∧ Sep H ([lstA p32 (s35.2.2 : (List ((List Str) × Str))), lstA p31 (s35.2.1 : (List (Str × (List Str)))), IndexA p22 r30, lstA p29 ([x28] : (List Str)), IndexA p19 s35.1, lstA p8 (s16 : (List Str)), lstA p4 (r3 : (List Str)), lstA p2 (r1 : (List Int)), imA (.ref ad_v_law_script) v_law_script, F] : List (Asn G))) (im := (fun _ v (x : Int) => v = .int x)) (s := (r21, ([] : (List (Str × (List Str)))), ([] : (List ((List Str) × Str))))) (fun _ => wk_range) ⟨_, rfl, hS.sel [0, 1, 2, 3, 4, 5, 6, 7, 8, 9] (by decide) rfl⟩ hm (fun s35 x36 v37 σ H q N B hI hx hm nx bk ho39 => ?_) (fun s35 σ H hm hI => ?_)
        ·
          obtain ⟨w38, rfl, hS⟩ := hI
          cases hx
          refine c_gN (σ' := [some (.ref ad_v_law_script), some (.ref p2), some (.ref p4), some (.int (x36)), some (.ref p8), some (.ref p19), some (.ref p22), some (.ref p31), some (.ref p32), none, none]) rfl ?_
          refine f_seq ?_
          refine f_if ?_
          refine f_not ?_
          refine f_B ?_
          refine c_call ?_
          refine c_cons ?_
          refine ev_to (ev_var rfl) ?_
          refine c_cons ?_
          refine ev_to (ev_fz (ev_var rfl)) ?_
          refine c_cons ?_
          refine ev_to (ev_fz (ev_var rfl)) ?_
          refine c_cons ?_
          refine ev_to (ev_fz (ev_var rfl)) ?_
          refine c_cons ?_
          refine c_fz ?_
          refine c_sl ?_
          refine ev_to (ev_fz (ev_var rfl)) ?_
          refine eo_to (eo_some (ev_add ev_c (ev_mul ev_c (ev_var rfl) (.inl (by constructor <;> decide))))) ?_
          refine eo_to (eo_some (ev_add ev_c (ev_mul ev_c (ev_var rfl) (.inl (by constructor <;> decide))))) ?_
          refine k_slG hS (hS.sq (i := 7) rfl) fun p40 H hS => ?_
          refine fz_no ?_
          refine c_nil ?_
          refine ⟨p19, (s35.1 : Index), p31, (s35.2.1 : (List (Str × (List Str)))), p4, (r3 : (List Str)), p8, (s16 : (List Str)), p40, (cutL r1 (some (5 + (3 * x36))) (some (7 + (3 * x36))) : (List Int)), star [lstA p32 (s35.2.2 : (List ((List Str) × Str))), IndexA p22 r30, lstA p29 ([x28] : (List Str)), lstA p2 (r1 : (List Int)), imA (.ref ad_v_law_script) v_law_script, F], rfl, Sep.unstar (M := [IndexA p19 s35.1, lstA p31 (s35.2.1 : (List (Str × (List Str)))), lstA p4 (r3 : (List Str)), lstA p8 (s16 : (List Str)), lstA p40 (cutL r1 (some (5 + (3 * x36))) (some (7 + (3 * x36))) : (List Int))]) (hS.sel [5, 2, 7, 6, 0, 1, 3, 4, 8, 9, 10] (by decide) rfl : Sep H (([IndexA p19 s35.1, lstA p31 (s35.2.1 : (List (Str × (List Str)))), lstA p4 (r3 : (List Str)), lstA p8 (s16 : (List Str)), lstA p40 (cutL r1 (some (5 + (3 * x36))) (some (7 + (3 * x36))) : (List Int))] ++ [lstA p32 (s35.2.2 : (List ((List Str) × Str))), IndexA p22 r30, lstA p29 ([x28] : (List Str)), lstA p2 (r1 : (List Int)), imA (.ref ad_v_law_script) v_law_script, F] : List (Asn G)))), R.wp_mono (R.wp_bind hm) (fun r41 hm H hS => ?_) (fun _ z => z)⟩
          have hS : Sep H ([IndexA p19 r41.2.1, lstA p31 (r41.2.2 : (List (Str × (List Str)))), lstA p4 (r3 : (List Str)), lstA p8 (s16 : (List Str)), lstA p40 (cutL r1 (some (5 + (3 * x36))) (some (7 + (3 * x36))) : (List Int)), lstA p32 (s35.2.2 : (List ((List Str) × Str))), IndexA p22 r30, lstA p29 ([x28] : (List Str)), lstA p2 (r1 : (List Int)), imA (.ref ad_v_law_script) v_law_script, F] : List (Asn G)) := Sep.star (M := [IndexA p19 r41.2.1, lstA p31 (r41.2.2 : (List (Str × (List Str)))), lstA p4 (r3 : (List Str)), lstA p8 (s16 : (List Str)), lstA p40 (cutL r1 (some (5 + (3 * x36))) (some (7 + (3 * x36))) : (List Int))]) hS
          refine f_bl ?_
          refine f_nK ?_
          refine ifK_2 (fun hb42 => ?_) (fun hb42 => ?_)
          · have hm := R.wp_ifY hm hb42
            refine c_ret ?_
            refine ev_to ev_c ?_
            exact (ho39 _ hm) _ (hS.sel [10] (by decide) rfl)
          · have hm := R.wp_ifN hm (by first | (rw [hb42]; decide) | simpa using hb42)
            refine st_nx ?_
            refine sq_nx ?_
            refine f_if ?_
            refine f_not ?_
            refine f_B ?_
            refine c_call ?_
            obtain ⟨x43, hx43, hm⟩ := wp_idx hm
            refine ea_to (ea_cons (ev_var rfl) (ea_cons (ev_fz (ev_var rfl)) (ea_cons (ev_fz (ev_var rfl)) (ea_cons (ev_ixSq (ev_fz (ev_var rfl)) (ev_add ev_c (ev_mul ev_c (ev_var rfl) (.inl (by constructor <;> decide)))) (hS.sqF (i := 8) rfl) (atI_map hx43)) (ea_cons (ev_fz (ev_var rfl)) ea_nil))))) ?_
            refine ⟨p19, (r41.2.1 : Index), p31, (r41.2.2 : (List (Str × (List Str)))), p8, (s16 : (List Str)), x43, p32, (s35.2.2 : (List ((List Str) × Str))), star [lstA p4 (r3 : (List Str)), lstA p40 (cutL r1 (some (5 + (3 * x36))) (some (7 + (3 * x36))) : (List Int)), IndexA p22 r30, lstA p29 ([x28] : (List Str)), lstA p2 (r1 : (List Int)), imA (.ref ad_v_law_script) v_law_script, F], rfl, Sep.unstar (M := [IndexA p19 r41.2.1, lstA p31 (r41.2.2 : (List (Str × (List Str)))), lstA p8 (s16 : (List Str)), lstA p32 (s35.2.2 : (List ((List Str) × Str)))]) (hS.sel [0, 1, 3, 5, 2, 4, 6, 7, 8, 9, 10] (by decide) rfl : Sep H (([IndexA p19 r41.2.1, lstA p31 (r41.2.2 : (List (Str × (List Str)))), lstA p8 (s16 : (List Str)), lstA p32 (s35.2.2 : (List ((List Str) × Str)))] ++ [lstA p4 (r3 : (List Str)), lstA p40 (cutL r1 (some (5 + (3 * x36))) (some (7 + (3 * x36))) : (List Int)), IndexA p22 r30, lstA p29 ([x28] : (List Str)), lstA p2 (r1 : (List Int)), imA (.ref ad_v_law_script) v_law_script, F] : List (Asn G)))), R.wp_mono (R.wp_bind hm) (fun r44 hm H hS => ?_) (fun _ z => z)⟩
            have hS : Sep H ([IndexA p19 r41.2.1, lstA p31 (r41.2.2 : (List (Str × (List Str)))), lstA p8 (s16 : (List Str)), lstA p32 (r44.2 : (List ((List Str) × Str))), lstA p4 (r3 : (List Str)), lstA p40 (cutL r1 (some (5 + (3 * x36))) (some (7 + (3 * x36))) : (List Int)), IndexA p22 r30, lstA p29 ([x28] : (List Str)), lstA p2 (r1 : (List Int)), imA (.ref ad_v_law_script) v_law_script, F] : List (Asn G)) := Sep.star (M := [IndexA p19 r41.2.1, lstA p31 (r41.2.2 : (List (Str × (List Str)))), lstA p8 (s16 : (List Str)), lstA p32 (r44.2 : (List ((List Str) × Str)))]) hS
            refine f_bl ?_
            refine f_nK ?_
            refine ifK_2 (fun hb45 => ?_) (fun hb45 => ?_)
            · have hm := R.wp_ifY hm hb45
              refine c_ret ?_
              refine ev_to ev_c ?_
              exact (ho39 _ hm) _ (hS.sel [10] (by decide) rfl)
            · have hm := R.wp_ifN hm (by first | (rw [hb45]; decide) | simpa using hb45)
              refine st_nx ?_
              exact nx _ _ _ hm ⟨_, rfl, hS.sel [3, 1, 6, 7, 0, 2, 4, 8, 9, 10] (by decide) rfl⟩
        · obtain ⟨w38, rfl, hS⟩ := hI
          refine sq_nx ?_
          refine f_seq ?_
          refine f_if ?_
          refine f_or ?_
          refine f_test ?_
          refine c_op ?_
          refine c_fz ?_
          refine c_meth ?_
          refine ev_to (ev_var rfl) ?_
          obtain ⟨d46, _, _, hO47⟩ := ins_Index hS (i := 2) rfl
          refine ⟨_, _, _, rfl, hO47, rfl, ?_⟩
          obtain ⟨x48, hx48, hm⟩ := wp_idx hm
          refine ea_to (ea_cons (ev_ixSq (ev_fz (ev_var rfl)) ev_c (hS.sqF (i := 5) rfl) (atI_map hx48)) ea_nil) ?_
          refine ⟨p22, (r30 : Index), x48, star [lstA p32 (s35.2.2 : (List ((List Str) × Str))), lstA p31 (s35.2.1 : (List (Str × (List Str)))), lstA p29 ([x28] : (List Str)), IndexA p19 s35.1, lstA p8 (s16 : (List Str)), lstA p4 (r3 : (List Str)), lstA p2 (r1 : (List Int)), imA (.ref ad_v_law_script) v_law_script, F], rfl, Sep.unstar (M := [IndexA p22 r30]) (hS.sel [2, 0, 1, 3, 4, 5, 6, 7, 8, 9] (by decide) rfl : Sep H (([IndexA p22 r30] ++ [lstA p32 (s35.2.2 : (List ((List Str) × Str))), lstA p31 (s35.2.1 : (List (Str × (List Str)))), lstA p29 ([x28] : (List Str)), IndexA p19 s35.1, lstA p8 (s16 : (List Str)), lstA p4 (r3 : (List Str)), lstA p2 (r1 : (List Int)), imA (.ref ad_v_law_script) v_law_script, F] : List (Asn G)))), R.wp_mono (R.wp_bind hm) (fun r49 hm p50 H hS => ?_) (fun _ z => z)⟩
          have hS : Sep H ([lstA p50 (r49 : (List Str)), IndexA p22 r30, lstA p32 (s35.2.2 : (List ((List Str) × Str))), lstA p31 (s35.2.1 : (List (Str × (List Str)))), lstA p29 ([x28] : (List Str)), IndexA p19 s35.1, lstA p8 (s16 : (List Str)), lstA p4 (r3 : (List Str)), lstA p2 (r1 : (List Int)), imA (.ref ad_v_law_script) v_law_script, F] : List (Asn G)) := Sep.star (M := [lstA p50 (r49 : (List Str)), IndexA p22 r30]) hS
          refine fz_no ?_
          refine c_fz ?_
          refine c_lst ?_
          obtain ⟨x51, hx51, hm⟩ := wp_idx hm
          refine ea_to (ea_cons (ev_ixSq (ev_fz (ev_var rfl)) ev_c (hS.sqF (i := 7) rfl) (atI_map hx51)) ea_nil) ?_
          refine k_lst (α := Str) (vs := [(.str (x51))]) (xs := [x51]) hS ⟨rfl, True.intro⟩ (by show 1 ≤ sizeLine; decide) fun p52 H hS => ?_
          refine fz_no ?_
          obtain ⟨h53, hm⟩ := R.wp_need hm
          obtain ⟨h54, hm⟩ := R.wp_need hm
          refine ev_op2 (ev_neP (G := G) (x := (r49 : (List Str))) (y := [x51]) ev_c ev_c (dpOwn hS (i := 1) rfl) (dpOwn hS (i := 0) rfl) h53 h54 (Nat.le_of_ble_eq_true rfl)) ?_
          refine f_bl ?_
          refine orK_J hm hS (fun hb q hm nx => ?_) (fun b55 H hm hS => ?_)
          ·
            refine f_test ?_
            refine c_op ?_
            refine c_fz ?_
            refine c_meth ?_
            refine ev_to (ev_var rfl) ?_
            obtain ⟨d56, _, _, hO57⟩ := ins_Index hS (i := 2) rfl
            refine ⟨_, _, _, rfl, hO57, rfl, ?_⟩
            refine ea_to ea_nil ?_
            refine ⟨p22, (r30 : Index), star [lstA p52 ([x51] : (List Str)), lstA p50 (r49 : (List Str)), lstA p32 (s35.2.2 : (List ((List Str) × Str))), lstA p31 (s35.2.1 : (List (Str × (List Str)))), lstA p29 ([x28] : (List Str)), IndexA p19 s35.1, lstA p8 (s16 : (List Str)), lstA p4 (r3 : (List Str)), lstA p2 (r1 : (List Int)), imA (.ref ad_v_law_script) v_law_script, F], rfl, Sep.unstar (M := [IndexA p22 r30]) (hS.sel [2, 0, 1, 3, 4, 5, 6, 7, 8, 9, 10, 11] (by decide) rfl : Sep H (([IndexA p22 r30] ++ [lstA p52 ([x51] : (List Str)), lstA p50 (r49 : (List Str)), lstA p32 (s35.2.2 : (List ((List Str) × Str))), lstA p31 (s35.2.1 : (List (Str × (List Str)))), lstA p29 ([x28] : (List Str)), IndexA p19 s35.1, lstA p8 (s16 : (List Str)), lstA p4 (r3 : (List Str)), lstA p2 (r1 : (List Int)), imA (.ref ad_v_law_script) v_law_script, F] : List (Asn G)))), R.wp_mono (R.wp_bind hm) (fun r58 hm p59 H hS => ?_) (fun _ z => z)⟩
            have hS : Sep H ([lstA p59 (r58 : (List Str)), IndexA p22 r30, lstA p52 ([x51] : (List Str)), lstA p50 (r49 : (List Str)), lstA p32 (s35.2.2 : (List ((List Str) × Str))), lstA p31 (s35.2.1 : (List (Str × (List Str)))), lstA p29 ([x28] : (List Str)), IndexA p19 s35.1, lstA p8 (s16 : (List Str)), lstA p4 (r3 : (List Str)), lstA p2 (r1 : (List Int)), imA (.ref ad_v_law_script) v_law_script, F] : List (Asn G)) := Sep.star (M := [lstA p59 (r58 : (List Str)), IndexA p22 r30]) hS
            refine fz_no ?_
            refine c_fz ?_
            refine c_lst ?_
            obtain ⟨x60, hx60, hm⟩ := wp_idx hm
            refine ea_to (ea_cons (ev_ixSq (ev_fz (ev_var rfl)) ev_c (hS.sqF (i := 8) rfl) (atI_map hx60)) ea_nil) ?_
            refine k_lst (α := Str) (vs := [(.str (x60))]) (xs := [x60]) hS ⟨rfl, True.intro⟩ (by show 1 ≤ sizeLine; decide) fun p61 H hS => ?_
            refine fz_no ?_
            obtain ⟨h62, hm⟩ := R.wp_need hm
            obtain ⟨h63, hm⟩ := R.wp_need hm
            refine ev_op2 (ev_neP (G := G) (x := (r58 : (List Str))) (y := [x60]) ev_c ev_c (dpOwn hS (i := 1) rfl) (dpOwn hS (i := 0) rfl) h62 h63 (Nat.le_of_ble_eq_true rfl)) ?_
            refine f_bl ?_
            exact nx _ _ hm (hS.sel [3, 4, 2, 5, 6, 7, 8, 9, 10, 11, 12, 13] (by decide) rfl)
          ·
            refine ifK_2 (fun hb64 => ?_) (fun hb64 => ?_)
            · have hm := R.wp_ifY hm hb64
              refine c_ret ?_
              refine ev_to ev_c ?_
              exact hm _ (hS.sel [11] (by decide) rfl)
            · have hm := R.wp_ifN hm (by first | (rw [hb64]; decide) | simpa using hb64)
              refine st_nx ?_
              refine sq_nx ?_
              refine f_seq ?_
              refine f_if ?_
              refine f_and ?_
              obtain ⟨x65, hx65, hm⟩ := wp_idx hm
              obtain ⟨x66, hx66, hm⟩ := wp_idx hm
              refine et_to (et_test (ev_neS (ev_ixSq (ev_fz (ev_var rfl)) ev_c (hS.sqF (i := 7) rfl) (atI_map hx65)) (ev_ixSq (ev_fz (ev_var rfl)) ev_c (hS.sqF (i := 7) rfl) (atI_map hx66)))) ?_
              refine andK_J hm hS (fun hb q hm nx => ?_) (fun b67 H hm hS => ?_)
              ·
                refine f_test ?_
                refine c_op ?_
                refine c_fz ?_
                refine c_meth ?_
                refine ev_to (ev_var rfl) ?_
                obtain ⟨d68, _, _, hO69⟩ := ins_Index hS (i := 2) rfl
                refine ⟨_, _, _, rfl, hO69, rfl, ?_⟩
                obtain ⟨x70, hx70, hm⟩ := wp_idx hm
                refine ea_to (ea_cons (ev_ixSq (ev_fz (ev_var rfl)) ev_c (hS.sqF (i := 7) rfl) (atI_map hx70)) ea_nil) ?_
                refine ⟨p22, (r30 : Index), x70, star [lstA p52 ([x51] : (List Str)), lstA p50 (r49 : (List Str)), lstA p32 (s35.2.2 : (List ((List Str) × Str))), lstA p31 (s35.2.1 : (List (Str × (List Str)))), lstA p29 ([x28] : (List Str)), IndexA p19 s35.1, lstA p8 (s16 : (List Str)), lstA p4 (r3 : (List Str)), lstA p2 (r1 : (List Int)), imA (.ref ad_v_law_script) v_law_script, F], rfl, Sep.unstar (M := [IndexA p22 r30]) (hS.sel [2, 0, 1, 3, 4, 5, 6, 7, 8, 9, 10, 11] (by decide) rfl : Sep H (([IndexA p22 r30] ++ [lstA p52 ([x51] : (List Str)), lstA p50 (r49 : (List Str)), lstA p32 (s35.2.2 : (List ((List Str) × Str))), lstA p31 (s35.2.1 : (List (Str × (List Str)))), lstA p29 ([x28] : (List Str)), IndexA p19 s35.1, lstA p8 (s16 : (List Str)), lstA p4 (r3 : (List Str)), lstA p2 (r1 : (List Int)), imA (.ref ad_v_law_script) v_law_script, F] : List (Asn G)))), R.wp_mono (R.wp_bind hm) (fun r71 hm p72 H hS => ?_) (fun _ z => z)⟩
                have hS : Sep H ([lstA p72 (r71 : (List Str)), IndexA p22 r30, lstA p52 ([x51] : (List Str)), lstA p50 (r49 : (List Str)), lstA p32 (s35.2.2 : (List ((List Str) × Str))), lstA p31 (s35.2.1 : (List (Str × (List Str)))), lstA p29 ([x28] : (List Str)), IndexA p19 s35.1, lstA p8 (s16 : (List Str)), lstA p4 (r3 : (List Str)), lstA p2 (r1 : (List Int)), imA (.ref ad_v_law_script) v_law_script, F] : List (Asn G)) := Sep.star (M := [lstA p72 (r71 : (List Str)), IndexA p22 r30]) hS
                refine fz_no ?_
                refine c_fz ?_
                refine c_lst ?_
                refine ea_to ea_nil ?_
                refine k_lst (α := Str) (vs := []) (xs := ([] : (List Str))) hS True.intro (by show 0 ≤ sizeLine; decide) fun p73 H hS => ?_
                refine fz_no ?_
                obtain ⟨h74, hm⟩ := R.wp_need hm
                obtain ⟨h75, hm⟩ := R.wp_need hm
                refine ev_op2 (ev_neP (G := G) (x := (r71 : (List Str))) (y := ([] : (List Str))) ev_c ev_c (dpOwn hS (i := 1) rfl) (dpOwn hS (i := 0) rfl) h74 h75 (Nat.le_of_ble_eq_true rfl)) ?_
                refine f_bl ?_
                exact nx _ _ hm (hS.sel [3, 4, 2, 5, 6, 7, 8, 9, 10, 11, 12, 13] (by decide) rfl)
              ·
                refine ifK_2 (fun hb76 => ?_) (fun hb76 => ?_)
                · have hm := R.wp_ifY hm hb76
                  refine c_ret ?_
                  refine ev_to ev_c ?_
                  exact hm _ (hS.sel [11] (by decide) rfl)
                · have hm := R.wp_ifN hm (by first | (rw [hb76]; decide) | simpa using hb76)
                  refine st_nx ?_
                  refine sq_nx ?_
                  refine c_ret ?_
                  refine c_cb ?_
                  refine c_cons ?_
                  refine c_fz ?_
                  refine c_lc ?_
                  refine c_il ?_
                  refine ev_to (ev_fz (ev_var rfl)) ?_
                  refine k_il hS (i := 3) rfl ?_
                  obtain ⟨h77, hm⟩ := R.wp_need hm
                  refine lc_sepG (β := Bool) (fun (_ : Unit) => ([lstA p52 ([x51] : (List Str)), lstA p50 (r49 : (List Str)), IndexA p22 r30, lstA p32 (s35.2.2 : (List ((List Str) × Str))), lstA p31 (s35.2.1 : (List (Str × (List Str)))), lstA p29 ([x28] : (List Str)), IndexA p19 s35.1, lstA p8 (s16 : (List Str)), lstA p4 (r3 : (List Str)), lstA p2 (r1 : (List Int)), imA (.ref ad_v_law_script) v_law_script, F] : List (Asn G))) (s := ()) (im := (Im.im G)) hS (fun _ _ _ => wk_list fun _ _ h => h.sq (i := 4) rfl) h77 hm (fun p78 _ ys81 x79 v80 H q Nx hS hx hm kS kN => ?_) (fun p78 t H hm hS => ?_)
                  ·
                    obtain ⟨a82, rfl⟩ := isref hx
                    have hS := hS.addIm (v := (.ref a82)) (x := (x79 : ((List Str) × Str))) hx
                    obtain ⟨u84, u85, hT88, h86, h87⟩ := im2 (hS.im (i := 0) rfl)
                    obtain ⟨a89, rfl⟩ := isref h86
                    obtain rfl : u85 = (.str (x79.2)) := h87
                    have hS := hS.addIm (v := (.ref a89)) (x := (x79.1 : (List Str))) h86
                    refine k_gT hT88 rfl ?_
                    refine k_gC (σ' := [some (.ref ad_v_law_script), some (.ref p2), some (.ref p4), w38, some (.ref p8), some (.ref p19), some (.ref p22), some (.ref p31), some (.ref p32), some (.ref a89), none]) rfl ?_
                    refine k_gC (σ' := [some (.ref ad_v_law_script), some (.ref p2), some (.ref p4), w38, some (.ref p8), some (.ref p19), some (.ref p22), some (.ref p31), some (.ref p32), some (.ref a89), some (.str (x79.2))]) rfl ?_
                    refine k_gE ?_
                    refine c_gLT (σ' := [some (.ref ad_v_law_script), some (.ref p2), some (.ref p4), w38, some (.ref p8), some (.ref p19), some (.ref p22), some (.ref p31), some (.ref p32), some (.ref a89), some (.str (x79.2))]) rfl ?_
                    refine c_yes ?_
                    obtain ⟨h91, hm⟩ := R.wp_need hm
                    refine ev_to (ev_eqS (ev_cb (ea_cons (ev_var rfl) ea_nil) fun _ q => r_reprL (Pd.dp (hS.im (i := 0) rfl)) h91 q) (ev_var rfl)) ?_
                    exact kS () _ _ _ hm rfl (hS.sel [2, 3, 4, 5, 6, 7, 8, 9, 10, 11, 12, 13, 14] (by decide) rfl)
                  · revert hm hS; generalize t = t92; intro hm hS
                    refine fz_no ?_
                    refine c_nil ?_
                    refine ⟨_, _, rfl, (hS.sqF (i := 0) rfl), ?_⟩
                    exact hm _ (hS.sel [12] (by decide) rfl)
end
end Lw
namespace Lw
open PySem PySem.Spec PyProof.Rows L2 Ml
def sp_top (K : PySem.W.Frag) : Sp := fun vs H Q E => ∃ (a : Addr) (ns : List Int), vs = [.ref a] ∧ SqL K H a (ns.map V.int) ∧ Only H ∧ ns.length ≤ 63 ∧ ∀ H', Q (.bl true) H'
theorem all_mk {l : PySem.W.OpenLaw} {w : World} {K : PySem.W.Frag} {h : Heap} {mg : Str → Option Value} {fa : Addr} (X : K.In h) (H : h.Ns mainGlobals mg) (hfa : mg "law" = some (.ref fa))
    {c0 : Addr}
    {c1 : Addr}
    {c2 : Addr}
    {f0 : Addr} {od0 an0 : Option Addr} {sl0 : Array (Option Value)} {oc0 kV0 dc0 pm0 cd0 ct0 : Value}
    {f1 : Addr} {od1 an1 : Option Addr} {sl1 : Array (Option Value)} {oc1 kV1 dc1 pm1 cd1 ct1 : Value}
    {f2 : Addr} {od2 an2 : Option Addr} {sl2 : Array (Option Value)} {oc2 kV2 dc2 pm2 cd2 ct2 : Value}
    {f3 : Addr} {od3 an3 : Option Addr} {sl3 : Array (Option Value)} {oc3 kV3 dc3 pm3 cd3 ct3 : Value}
    {f4 : Addr} {od4 an4 : Option Addr} {sl4 : Array (Option Value)} {oc4 kV4 dc4 pm4 cd4 ct4 : Value}
    {f5 : Addr} {od5 an5 : Option Addr} {sl5 : Array (Option Value)} {oc5 kV5 dc5 pm5 cd5 ct5 : Value}
    {f6 : Addr} {od6 an6 : Option Addr} {sl6 : Array (Option Value)} {oc6 kV6 dc6 pm6 cd6 ct6 : Value}
    {f7 : Addr} {od7 an7 : Option Addr} {sl7 : Array (Option Value)} {oc7 kV7 dc7 pm7 cd7 ct7 : Value}
    {f8 : Addr} {od8 an8 : Option Addr} {sl8 : Array (Option Value)} {oc8 kV8 dc8 pm8 cd8 ct8 : Value}
    {f9 : Addr} {od9 an9 : Option Addr} {sl9 : Array (Option Value)} {oc9 kV9 dc9 pm9 cd9 ct9 : Value}
    {f10 : Addr} {od10 an10 : Option Addr} {sl10 : Array (Option Value)} {oc10 kV10 dc10 pm10 cd10 ct10 : Value}
    {f11 : Addr} {od11 an11 : Option Addr} {sl11 : Array (Option Value)} {oc11 kV11 dc11 pm11 cd11 ct11 : Value}
    {f12 : Addr} {od12 an12 : Option Addr} {sl12 : Array (Option Value)} {oc12 kV12 dc12 pm12 cd12 ct12 : Value}
    {f13 : Addr} {od13 an13 : Option Addr} {sl13 : Array (Option Value)} {oc13 kV13 dc13 pm13 cd13 ct13 : Value}
    {f14 : Addr} {od14 an14 : Option Addr} {sl14 : Array (Option Value)} {oc14 kV14 dc14 pm14 cd14 ct14 : Value}
    (ac0 : PySem.W.nsIn K mainGlobals "MailError" = some (some (.ref c0)))
    (ac1 : PySem.W.nsIn K mainGlobals "NoName" = some (some (.ref c1)))
    (ac2 : PySem.W.nsIn K mainGlobals "Index" = some (some (.ref c2)))
    (a0_2 : PySem.W.findIn K (.ref c2) "__init__" = some (some (.ref f0)))
    (i0 : PySem.W.isFn K (.ref f0) = true)
    (l0 : K.lookup f0 = some ⟨oc0, od0, .func (PySem.W.fnOf "__init__" "Index.__init__" (defArgs s_Index___init__) (defBody s_Index___init__) (defScope s_Index___init__) .none kV0 dc0 pm0 an0 cd0 ct0), sl0⟩)
    (cc0 : PySem.W.codeIn K cd0 "Index.__init__" = true)
    (k0 : PySem.W.keepIn K (.ref f0) = true)
    (mk2 : PySem.W.makesIn K c2 = true)
    (kc2 : PySem.W.keepIn K (.ref c2) = true)
    (a1_2 : PySem.W.findIn K (.ref c2) "sure" = some (some (.ref f1)))
    (i1 : PySem.W.isFn K (.ref f1) = true)
    (l1 : K.lookup f1 = some ⟨oc1, od1, .func (PySem.W.fnOf "sure" "Index.sure" (defArgs s_Index_sure) (defBody s_Index_sure) (defScope s_Index_sure) .none kV1 dc1 pm1 an1 cd1 ct1), sl1⟩)
    (cc1 : PySem.W.codeIn K cd1 "Index.sure" = true)
    (k1 : PySem.W.keepIn K (.ref f1) = true)
    (a2_2 : PySem.W.findIn K (.ref c2) "add" = some (some (.ref f2)))
    (i2 : PySem.W.isFn K (.ref f2) = true)
    (l2 : K.lookup f2 = some ⟨oc2, od2, .func (PySem.W.fnOf "add" "Index.add" (defArgs s_Index_add) (defBody s_Index_add) (defScope s_Index_add) .none kV2 dc2 pm2 an2 cd2 ct2), sl2⟩)
    (cc2 : PySem.W.codeIn K cd2 "Index.add" = true)
    (k2 : PySem.W.keepIn K (.ref f2) = true)
    (a3_2 : PySem.W.findIn K (.ref c2) "take_out" = some (some (.ref f3)))
    (i3 : PySem.W.isFn K (.ref f3) = true)
    (l3 : K.lookup f3 = some ⟨oc3, od3, .func (PySem.W.fnOf "take_out" "Index.take_out" (defArgs s_Index_take_out) (defBody s_Index_take_out) (defScope s_Index_take_out) .none kV3 dc3 pm3 an3 cd3 ct3), sl3⟩)
    (cc3 : PySem.W.codeIn K cd3 "Index.take_out" = true)
    (k3 : PySem.W.keepIn K (.ref f3) = true)
    (a4_2 : PySem.W.findIn K (.ref c2) "having" = some (some (.ref f4)))
    (i4 : PySem.W.isFn K (.ref f4) = true)
    (l4 : K.lookup f4 = some ⟨oc4, od4, .func (PySem.W.fnOf "having" "Index.having" (defArgs s_Index_having) (defBody s_Index_having) (defScope s_Index_having) .none kV4 dc4 pm4 an4 cd4 ct4), sl4⟩)
    (cc4 : PySem.W.codeIn K cd4 "Index.having" = true)
    (k4 : PySem.W.keepIn K (.ref f4) = true)
    (a5_2 : PySem.W.findIn K (.ref c2) "words" = some (some (.ref f5)))
    (i5 : PySem.W.isFn K (.ref f5) = true)
    (l5 : K.lookup f5 = some ⟨oc5, od5, .func (PySem.W.fnOf "words" "Index.words" (defArgs s_Index_words) (defBody s_Index_words) (defScope s_Index_words) .none kV5 dc5 pm5 an5 cd5 ct5), sl5⟩)
    (cc5 : PySem.W.codeIn K cd5 "Index.words" = true)
    (k5 : PySem.W.keepIn K (.ref f5) = true)
    (a6_2 : PySem.W.findIn K (.ref c2) "all_words" = some (some (.ref f6)))
    (i6 : PySem.W.isFn K (.ref f6) = true)
    (l6 : K.lookup f6 = some ⟨oc6, od6, .func (PySem.W.fnOf "all_words" "Index.all_words" (defArgs s_Index_all_words) (defBody s_Index_all_words) (defScope s_Index_all_words) .none kV6 dc6 pm6 an6 cd6 ct6), sl6⟩)
    (cc6 : PySem.W.codeIn K cd6 "Index.all_words" = true)
    (k6 : PySem.W.keepIn K (.ref f6) = true)
    (a7 : PySem.W.nsIn K mainGlobals "_law_draws" = some (some (.ref f7)))
    (l7 : K.lookup f7 = some ⟨oc7, od7, .func (PySem.W.fnOf "_law_draws" "_law_draws" (defArgs s_law_draws) (defBody s_law_draws) (defScope s_law_draws) .none kV7 dc7 pm7 an7 cd7 ct7), sl7⟩)
    (cc7 : PySem.W.codeIn K cd7 "_law_draws" = true)
    (k7 : PySem.W.keepIn K (.ref f7) = true)
    (a8 : PySem.W.nsIn K mainGlobals "_law_name_by" = some (some (.ref f8)))
    (l8 : K.lookup f8 = some ⟨oc8, od8, .func (PySem.W.fnOf "_law_name_by" "_law_name_by" (defArgs s_law_name_by) (defBody s_law_name_by) (defScope s_law_name_by) .none kV8 dc8 pm8 an8 cd8 ct8), sl8⟩)
    (cc8 : PySem.W.codeIn K cd8 "_law_name_by" = true)
    (k8 : PySem.W.keepIn K (.ref f8) = true)
    (a9 : PySem.W.nsIn K mainGlobals "_law_pool" = some (some (.ref f9)))
    (l9 : K.lookup f9 = some ⟨oc9, od9, .func (PySem.W.fnOf "_law_pool" "_law_pool" (defArgs s_law_pool) (defBody s_law_pool) (defScope s_law_pool) .none kV9 dc9 pm9 an9 cd9 ct9), sl9⟩)
    (cc9 : PySem.W.codeIn K cd9 "_law_pool" = true)
    (k9 : PySem.W.keepIn K (.ref f9) = true)
    (a10 : PySem.W.nsIn K mainGlobals "_law_is_list" = some (some (.ref f10)))
    (l10 : K.lookup f10 = some ⟨oc10, od10, .func (PySem.W.fnOf "_law_is_list" "_law_is_list" (defArgs s_law_is_list) (defBody s_law_is_list) (defScope s_law_is_list) .none kV10 dc10 pm10 an10 cd10 ct10), sl10⟩)
    (cc10 : PySem.W.codeIn K cd10 "_law_is_list" = true)
    (k10 : PySem.W.keepIn K (.ref f10) = true)
    (a11 : PySem.W.nsIn K mainGlobals "_law_done" = some (some (.ref f11)))
    (l11 : K.lookup f11 = some ⟨oc11, od11, .func (PySem.W.fnOf "_law_done" "_law_done" (defArgs s_law_done) (defBody s_law_done) (defScope s_law_done) .none kV11 dc11 pm11 an11 cd11 ct11), sl11⟩)
    (cc11 : PySem.W.codeIn K cd11 "_law_done" = true)
    (k11 : PySem.W.keepIn K (.ref f11) = true)
    (a12 : PySem.W.nsIn K mainGlobals "_law_looked" = some (some (.ref f12)))
    (l12 : K.lookup f12 = some ⟨oc12, od12, .func (PySem.W.fnOf "_law_looked" "_law_looked" (defArgs s_law_looked) (defBody s_law_looked) (defScope s_law_looked) .none kV12 dc12 pm12 an12 cd12 ct12), sl12⟩)
    (cc12 : PySem.W.codeIn K cd12 "_law_looked" = true)
    (k12 : PySem.W.keepIn K (.ref f12) = true)
    (a13 : PySem.W.nsIn K mainGlobals "_law_stands" = some (some (.ref f13)))
    (l13 : K.lookup f13 = some ⟨oc13, od13, .func (PySem.W.fnOf "_law_stands" "_law_stands" (defArgs s_law_stands) (defBody s_law_stands) (defScope s_law_stands) .none kV13 dc13 pm13 an13 cd13 ct13), sl13⟩)
    (cc13 : PySem.W.codeIn K cd13 "_law_stands" = true)
    (k13 : PySem.W.keepIn K (.ref f13) = true)
    (a14 : PySem.W.nsIn K mainGlobals "law" = some (some (.ref f14)))
    (l14 : K.lookup f14 = some ⟨oc14, od14, .func (PySem.W.fnOf "law" "law" (defArgs s_law) (defBody s_law) (defScope s_law) .none kV14 dc14 pm14 an14 cd14 ct14), sl14⟩)
    (cc14 : PySem.W.codeIn K cd14 "law" = true)
    (k14 : PySem.W.keepIn K (.ref f14) = true)
    (xE1 : PySem.W.excIn K c1 [.type "ValueError", .type "Exception", .type "BaseException", .type "object"] "ValueError.__new__" = true)
    (kE1 : PySem.W.keepIn K (.ref c1) = true)
    (bE1 : PySem.W.subIn K (.ref c1) (.type "BaseException") = some true)
    (tE1 : PySem.W.typeIn K (.ref c1) = some (.type "type"))
    (pg2 : PySem.W.plainGet K c2 Str.empty = true)
    (hd2 : PySem.W.hasDictIn K c2 = true)
    (po2 : PySem.W.plainOver K c2 = true)
    (sa2 : PySem.W.findIn K (.ref c2) "__setattr__" = some (some (.builtin "object.__setattr__")))
    (nf2_0 : PySem.W.findIn K (.ref c2) "rows_of" = some none)
    (nf2_1 : PySem.W.findIn K (.ref c2) "holders" = some none)
    (z_all : PySem.W.nsIn K mainGlobals "all" = some none)
    (z_isinstance : PySem.W.nsIn K mainGlobals "isinstance" = some none)
    (z_len : PySem.W.nsIn K mainGlobals "len" = some none)
    (z_list : PySem.W.nsIn K mainGlobals "list" = some none)
    (z_range : PySem.W.nsIn K mainGlobals "range" = some none)
    (z_repr : PySem.W.nsIn K mainGlobals "repr" = some none)
    (z_set : PySem.W.nsIn K mainGlobals "set" = some none)
    (z_sorted : PySem.W.nsIn K mainGlobals "sorted" = some none)
    (z_str : PySem.W.nsIn K mainGlobals "str" = some none)
    : ∃ fd : FuncData, (∀ (s : Shared) (v : Value), BindsTo s fd ⟨[v], []⟩ [("_law_script", v)]) ∧ ∀ base : Heap, K.In base → base.Ns mainGlobals mg → FnG l.prog w K mg base CX0 5 fa fd ["_law_script"] (sp_top K) := by
  have e := hfa.symm.trans (PySem.W.mg_of X H a14)
  cases e
  have F0 := fun_mk (st := s_Index___init__) l0 cc0 k0
  have b0 := F0.binds (ps := ["self"]) fun _ _ _ _ _ _ us hl => match us, hl with | [_], _ => rfl
  have F1 := fun_mk (st := s_Index_sure) l1 cc1 k1
  have b1 := F1.binds (ps := ["self", "name"]) fun _ _ _ _ _ _ us hl => match us, hl with | [_, _], _ => rfl
  have F2 := fun_mk (st := s_Index_add) l2 cc2 k2
  have b2 := F2.binds (ps := ["self", "name", "words"]) fun _ _ _ _ _ _ us hl => match us, hl with | [_, _, _], _ => rfl
  have F3 := fun_mk (st := s_Index_take_out) l3 cc3 k3
  have b3 := F3.binds (ps := ["self", "name"]) fun _ _ _ _ _ _ us hl => match us, hl with | [_, _], _ => rfl
  have F4 := fun_mk (st := s_Index_having) l4 cc4 k4
  have b4 := F4.binds (ps := ["self", "word"]) fun _ _ _ _ _ _ us hl => match us, hl with | [_, _], _ => rfl
  have F5 := fun_mk (st := s_Index_words) l5 cc5 k5
  have b5 := F5.binds (ps := ["self", "name"]) fun _ _ _ _ _ _ us hl => match us, hl with | [_, _], _ => rfl
  have F6 := fun_mk (st := s_Index_all_words) l6 cc6 k6
  have b6 := F6.binds (ps := ["self"]) fun _ _ _ _ _ _ us hl => match us, hl with | [_], _ => rfl
  have F7 := fun_mk (st := s_law_draws) l7 cc7 k7
  have b7 := F7.binds (ps := ["_law_script", "_law_many"]) fun _ _ _ _ _ _ us hl => match us, hl with | [_, _], _ => rfl
  have F8 := fun_mk (st := s_law_name_by) l8 cc8 k8
  have b8 := F8.binds (ps := ["_law_shape", "_law_k"]) fun _ _ _ _ _ _ us hl => match us, hl with | [_, _], _ => rfl
  have F9 := fun_mk (st := s_law_pool) l9 cc9 k9
  have b9 := F9.binds (ps := ["_law_draws_here"]) fun _ _ _ _ _ _ us hl => match us, hl with | [_], _ => rfl
  have F10 := fun_mk (st := s_law_is_list) l10 cc10 k10
  have b10 := F10.binds (ps := ["_law_found", "_law_due"]) fun _ _ _ _ _ _ us hl => match us, hl with | [_, _], _ => rfl
  have F11 := fun_mk (st := s_law_done) l11 cc11 k11
  have b11 := F11.binds (ps := ["_law_index", "_law_rows", "_law_pool_here", "_law_words", "_law_draws_here"]) fun _ _ _ _ _ _ us hl => match us, hl with | [_, _, _, _, _], _ => rfl
  have F12 := fun_mk (st := s_law_looked) l12 cc12 k12
  have b12 := F12.binds (ps := ["_law_index", "_law_rows", "_law_look", "_law_draw", "_law_words"]) fun _ _ _ _ _ _ us hl => match us, hl with | [_, _, _, _, _], _ => rfl
  have F13 := fun_mk (st := s_law_stands) l13 cc13 k13
  have b13 := F13.binds (ps := ["_law_index", "_law_rows", "_law_words", "_law_draw", "_law_held"]) fun _ _ _ _ _ _ us hl => match us, hl with | [_, _, _, _, _], _ => rfl
  have F14 := fun_mk (st := s_law) l14 cc14 k14
  have b14 := F14.binds (ps := ["_law_script"]) fun _ _ _ _ _ _ us hl => match us, hl with | [_], _ => rfl
  let G : Gx := ⟨K, fun a => none, fun i => ([c0, c1, c2] : List Addr).getD i 0⟩
  have hfz2 : G.fz (G.cl 2) = none := by show (none) = none; rfl
  let T : Txt G mg := {
    a_Index___init__ := f0,
    fd_Index___init__ := _,
    F_Index___init__ := F0,
    b_Index___init__ := b0,
    kp_Index___init__ := k0,
    k_Index := ⟨mk2, a0_2, i0, kc2⟩,
    a_Index_sure := f1,
    fd_Index_sure := _,
    F_Index_sure := F1,
    b_Index_sure := b1,
    kp_Index_sure := k1,
    m_Index_sure := ⟨a1_2, i1, k1⟩,
    a_Index_add := f2,
    fd_Index_add := _,
    F_Index_add := F2,
    b_Index_add := b2,
    kp_Index_add := k2,
    m_Index_add := ⟨a2_2, i2, k2⟩,
    a_Index_take_out := f3,
    fd_Index_take_out := _,
    F_Index_take_out := F3,
    b_Index_take_out := b3,
    kp_Index_take_out := k3,
    m_Index_take_out := ⟨a3_2, i3, k3⟩,
    a_Index_having := f4,
    fd_Index_having := _,
    F_Index_having := F4,
    b_Index_having := b4,
    kp_Index_having := k4,
    m_Index_having := ⟨a4_2, i4, k4⟩,
    a_Index_words := f5,
    fd_Index_words := _,
    F_Index_words := F5,
    b_Index_words := b5,
    kp_Index_words := k5,
    m_Index_words := ⟨a5_2, i5, k5⟩,
    a_Index_all_words := f6,
    fd_Index_all_words := _,
    F_Index_all_words := F6,
    b_Index_all_words := b6,
    kp_Index_all_words := k6,
    m_Index_all_words := ⟨a6_2, i6, k6⟩,
    a_law_draws := f7,
    fd_law_draws := _,
    F_law_draws := F7,
    b_law_draws := b7,
    kp_law_draws := k7,
    g_law_draws := PySem.W.mg_of X H a7,
    a_law_name_by := f8,
    fd_law_name_by := _,
    F_law_name_by := F8,
    b_law_name_by := b8,
    kp_law_name_by := k8,
    g_law_name_by := PySem.W.mg_of X H a8,
    a_law_pool := f9,
    fd_law_pool := _,
    F_law_pool := F9,
    b_law_pool := b9,
    kp_law_pool := k9,
    g_law_pool := PySem.W.mg_of X H a9,
    a_law_is_list := f10,
    fd_law_is_list := _,
    F_law_is_list := F10,
    b_law_is_list := b10,
    kp_law_is_list := k10,
    g_law_is_list := PySem.W.mg_of X H a10,
    a_law_done := f11,
    fd_law_done := _,
    F_law_done := F11,
    b_law_done := b11,
    kp_law_done := k11,
    g_law_done := PySem.W.mg_of X H a11,
    a_law_looked := f12,
    fd_law_looked := _,
    F_law_looked := F12,
    b_law_looked := b12,
    kp_law_looked := k12,
    g_law_looked := PySem.W.mg_of X H a12,
    a_law_stands := f13,
    fd_law_stands := _,
    F_law_stands := F13,
    b_law_stands := b13,
    kp_law_stands := k13,
    g_law_stands := PySem.W.mg_of X H a13,
    a_law := fa,
    fd_law := _,
    F_law := F14,
    b_law := b14,
    kp_law := k14,
    g_law := PySem.W.mg_of X H a14,
    g_MailError := PySem.W.mg_of X H ac0,
    g_NoName := PySem.W.mg_of X H ac1,
    x_NoName := xE1,
    kp_NoName := kE1,
    r_NoName := fun {Y} hY => raises_own (by rw [hY]; exact bE1) (by rw [hY]; exact tE1),
    g_Index := PySem.W.mg_of X H ac2,
    cl_Index := ⟨pg2, hd2, po2, sa2⟩,
    n_Index_rows_of := nf2_0,
    n_Index_holders := nf2_1,
    fz_Index := hfz2,
    z_all := PySem.W.mg_none_of X H z_all,
    z_isinstance := PySem.W.mg_none_of X H z_isinstance,
    z_len := PySem.W.mg_none_of X H z_len,
    z_list := PySem.W.mg_none_of X H z_list,
    z_range := PySem.W.mg_none_of X H z_range,
    z_repr := PySem.W.mg_none_of X H z_repr,
    z_set := PySem.W.mg_none_of X H z_set,
    z_sorted := PySem.W.mg_none_of X H z_sorted,
    z_str := PySem.W.mg_none_of X H z_str }
  refine ⟨T.fd_law, fun s v => .of_eq rfl, fun base _ _ => ((ok_law T : FnG l.prog w K mg base CX0 5 fa T.fd_law ["_law_script"] (sp_law G)).imp fun vs H Q E hh => ?_)⟩
  obtain ⟨a, ns, rfl, hs, ho, hl, hq⟩ := hh
  exact ⟨.ref a, ⟨ns⟩, star [], rfl, im_of_only (G := G) ho hs, Sep.unstar (M := []) (Sep.nil H), R.wp_of (law_ok ⟨ns⟩ hl) fun H' _ => hq H'⟩
theorem says_mk {l : PySem.W.OpenLaw} {w : World} {K : PySem.W.Frag} {h : Heap} {mg : Str → Option Value} {fa : Addr} (X : K.In h) (H : h.Ns mainGlobals mg) (hfa : mg "law" = some (.ref fa)) (c : obsK K = valK)
    : ∃ fd : FuncData, (∀ (s : Shared) (v : Value), BindsTo s fd ⟨[v], []⟩ [("_law_script", v)]) ∧ ∀ base : Heap, K.In base → base.Ns mainGlobals mg → FnG l.prog w K mg base CX0 5 fa fd ["_law_script"] (sp_top K) := by
  have hb : ((fb0 K).all id && (fb1 K).all id) = true := congrArg (fun z : ObT => z.1) c
  simp only [Bool.and_eq_true] at hb
  obtain ⟨g0, g1⟩ := hb
  have cD0 : obsD dfns0 K = valD dfns0 := congrArg (fun z : ObT => z.2) c
  have ac0 : PySem.W.nsIn K mainGlobals "MailError" = some (some (.ref 24)) := of_decide_eq_true (fxM g0 0 rfl)
  have ac1 : PySem.W.nsIn K mainGlobals "NoName" = some (some (.ref 37)) := of_decide_eq_true (fxM g0 1 rfl)
  have ac2 : PySem.W.nsIn K mainGlobals "Index" = some (some (.ref 98)) := of_decide_eq_true (fxM g0 2 rfl)
  have a0_2 : PySem.W.findIn K (.ref 98) "__init__" = some (some (.ref 53)) := of_decide_eq_true (fxM g0 3 rfl)
  have i0 : PySem.W.isFn K (.ref 53) = true := of_decide_eq_true (fxM g0 4 rfl)
  have mk2 : PySem.W.makesIn K 98 = true := of_decide_eq_true (fxM g0 5 rfl)
  have kc2 : PySem.W.keepIn K (.ref 98) = true := of_decide_eq_true (fxM g0 6 rfl)
  have a1_2 : PySem.W.findIn K (.ref 98) "sure" = some (some (.ref 60)) := of_decide_eq_true (fxM g0 7 rfl)
  have i1 : PySem.W.isFn K (.ref 60) = true := of_decide_eq_true (fxM g0 8 rfl)
  have a2_2 : PySem.W.findIn K (.ref 98) "add" = some (some (.ref 67)) := of_decide_eq_true (fxM g0 9 rfl)
  have i2 : PySem.W.isFn K (.ref 67) = true := of_decide_eq_true (fxM g0 10 rfl)
  have a3_2 : PySem.W.findIn K (.ref 98) "take_out" = some (some (.ref 74)) := of_decide_eq_true (fxM g0 11 rfl)
  have i3 : PySem.W.isFn K (.ref 74) = true := of_decide_eq_true (fxM g0 12 rfl)
  have a4_2 : PySem.W.findIn K (.ref 98) "having" = some (some (.ref 81)) := of_decide_eq_true (fxM g0 13 rfl)
  have i4 : PySem.W.isFn K (.ref 81) = true := of_decide_eq_true (fxM g0 14 rfl)
  have a5_2 : PySem.W.findIn K (.ref 98) "words" = some (some (.ref 88)) := of_decide_eq_true (fxM g0 15 rfl)
  have i5 : PySem.W.isFn K (.ref 88) = true := of_decide_eq_true (fxM g0 16 rfl)
  have a6_2 : PySem.W.findIn K (.ref 98) "all_words" = some (some (.ref 95)) := of_decide_eq_true (fxM g0 17 rfl)
  have i6 : PySem.W.isFn K (.ref 95) = true := of_decide_eq_true (fxM g0 18 rfl)
  have a7 : PySem.W.nsIn K mainGlobals "_law_draws" = some (some (.ref 109)) := of_decide_eq_true (fxM g0 19 rfl)
  have a8 : PySem.W.nsIn K mainGlobals "_law_name_by" = some (some (.ref 116)) := of_decide_eq_true (fxM g0 20 rfl)
  have a9 : PySem.W.nsIn K mainGlobals "_law_pool" = some (some (.ref 121)) := of_decide_eq_true (fxM g0 21 rfl)
  have a10 : PySem.W.nsIn K mainGlobals "_law_is_list" = some (some (.ref 126)) := of_decide_eq_true (fxM g0 22 rfl)
  have a11 : PySem.W.nsIn K mainGlobals "_law_done" = some (some (.ref 131)) := of_decide_eq_true (fxM g0 23 rfl)
  have a12 : PySem.W.nsIn K mainGlobals "_law_looked" = some (some (.ref 136)) := of_decide_eq_true (fxM g0 24 rfl)
  have a13 : PySem.W.nsIn K mainGlobals "_law_stands" = some (some (.ref 143)) := of_decide_eq_true (fxM g0 25 rfl)
  have a14 : PySem.W.nsIn K mainGlobals "law" = some (some (.ref 148)) := of_decide_eq_true (fxM g0 26 rfl)
  have xE1 : PySem.W.excIn K 37 [.type "ValueError", .type "Exception", .type "BaseException", .type "object"] "ValueError.__new__" = true := of_decide_eq_true (fxM g0 27 rfl)
  have kE1 : PySem.W.keepIn K (.ref 37) = true := of_decide_eq_true (fxM g0 28 rfl)
  have bE1 : PySem.W.subIn K (.ref 37) (.type "BaseException") = some true := of_decide_eq_true (fxM g0 29 rfl)
  have tE1 : PySem.W.typeIn K (.ref 37) = some (.type "type") := of_decide_eq_true (fxM g0 30 rfl)
  have pg2 : PySem.W.plainGet K 98 Str.empty = true := of_decide_eq_true (fxM g0 31 rfl)
  have hd2 : PySem.W.hasDictIn K 98 = true := of_decide_eq_true (fxM g0 32 rfl)
  have po2 : PySem.W.plainOver K 98 = true := of_decide_eq_true (fxM g0 33 rfl)
  have sa2 : PySem.W.findIn K (.ref 98) "__setattr__" = some (some (.builtin "object.__setattr__")) := of_decide_eq_true (fxM g0 34 rfl)
  have nf2_0 : PySem.W.findIn K (.ref 98) "rows_of" = some none := of_decide_eq_true (fxM g0 35 rfl)
  have nf2_1 : PySem.W.findIn K (.ref 98) "holders" = some none := of_decide_eq_true (fxM g0 36 rfl)
  have z_all : PySem.W.nsIn K mainGlobals "all" = some none := of_decide_eq_true (fxM g0 37 rfl)
  have z_isinstance : PySem.W.nsIn K mainGlobals "isinstance" = some none := of_decide_eq_true (fxM g0 38 rfl)
  have z_len : PySem.W.nsIn K mainGlobals "len" = some none := of_decide_eq_true (fxM g0 39 rfl)
  have z_list : PySem.W.nsIn K mainGlobals "list" = some none := of_decide_eq_true (fxM g1 0 rfl)
  have z_range : PySem.W.nsIn K mainGlobals "range" = some none := of_decide_eq_true (fxM g1 1 rfl)
  have z_repr : PySem.W.nsIn K mainGlobals "repr" = some none := of_decide_eq_true (fxM g1 2 rfl)
  have z_set : PySem.W.nsIn K mainGlobals "set" = some none := of_decide_eq_true (fxM g1 3 rfl)
  have z_sorted : PySem.W.nsIn K mainGlobals "sorted" = some none := of_decide_eq_true (fxM g1 4 rfl)
  have z_str : PySem.W.nsIn K mainGlobals "str" = some none := of_decide_eq_true (fxM g1 5 rfl)
  obtain ⟨fd0, F0⟩ : ∃ fd, FunD K "__init__" "Index.__init__" (defArgs s_Index___init__) (defBody s_Index___init__) (defScope s_Index___init__) [] [] 53 fd := defM cD0 0 (d := dfn0) rfl
  obtain ⟨⟨oc0, od0, kV0, dc0, pm0, an0, cd0, ct0, sl0, rfl, l0, cc0⟩, k0⟩ := He5.fun_of F0
  obtain ⟨fd1, F1⟩ : ∃ fd, FunD K "sure" "Index.sure" (defArgs s_Index_sure) (defBody s_Index_sure) (defScope s_Index_sure) [] [] 60 fd := defM cD0 1 (d := dfn1) rfl
  obtain ⟨⟨oc1, od1, kV1, dc1, pm1, an1, cd1, ct1, sl1, rfl, l1, cc1⟩, k1⟩ := He5.fun_of F1
  obtain ⟨fd2, F2⟩ : ∃ fd, FunD K "add" "Index.add" (defArgs s_Index_add) (defBody s_Index_add) (defScope s_Index_add) [] [] 67 fd := defM cD0 2 (d := dfn2) rfl
  obtain ⟨⟨oc2, od2, kV2, dc2, pm2, an2, cd2, ct2, sl2, rfl, l2, cc2⟩, k2⟩ := He5.fun_of F2
  obtain ⟨fd3, F3⟩ : ∃ fd, FunD K "take_out" "Index.take_out" (defArgs s_Index_take_out) (defBody s_Index_take_out) (defScope s_Index_take_out) [] [] 74 fd := defM cD0 3 (d := dfn3) rfl
  obtain ⟨⟨oc3, od3, kV3, dc3, pm3, an3, cd3, ct3, sl3, rfl, l3, cc3⟩, k3⟩ := He5.fun_of F3
  obtain ⟨fd4, F4⟩ : ∃ fd, FunD K "having" "Index.having" (defArgs s_Index_having) (defBody s_Index_having) (defScope s_Index_having) [] [] 81 fd := defM cD0 4 (d := dfn4) rfl
  obtain ⟨⟨oc4, od4, kV4, dc4, pm4, an4, cd4, ct4, sl4, rfl, l4, cc4⟩, k4⟩ := He5.fun_of F4
  obtain ⟨fd5, F5⟩ : ∃ fd, FunD K "words" "Index.words" (defArgs s_Index_words) (defBody s_Index_words) (defScope s_Index_words) [] [] 88 fd := defM cD0 5 (d := dfn5) rfl
  obtain ⟨⟨oc5, od5, kV5, dc5, pm5, an5, cd5, ct5, sl5, rfl, l5, cc5⟩, k5⟩ := He5.fun_of F5
  obtain ⟨fd6, F6⟩ : ∃ fd, FunD K "all_words" "Index.all_words" (defArgs s_Index_all_words) (defBody s_Index_all_words) (defScope s_Index_all_words) [] [] 95 fd := defM cD0 6 (d := dfn6) rfl
  obtain ⟨⟨oc6, od6, kV6, dc6, pm6, an6, cd6, ct6, sl6, rfl, l6, cc6⟩, k6⟩ := He5.fun_of F6
  obtain ⟨fd7, F7⟩ : ∃ fd, FunD K "_law_draws" "_law_draws" (defArgs s_law_draws) (defBody s_law_draws) (defScope s_law_draws) [] [] 109 fd := defM cD0 7 (d := dfn7) rfl
  obtain ⟨⟨oc7, od7, kV7, dc7, pm7, an7, cd7, ct7, sl7, rfl, l7, cc7⟩, k7⟩ := He5.fun_of F7
  obtain ⟨fd8, F8⟩ : ∃ fd, FunD K "_law_name_by" "_law_name_by" (defArgs s_law_name_by) (defBody s_law_name_by) (defScope s_law_name_by) [] [] 116 fd := defM cD0 8 (d := dfn8) rfl
  obtain ⟨⟨oc8, od8, kV8, dc8, pm8, an8, cd8, ct8, sl8, rfl, l8, cc8⟩, k8⟩ := He5.fun_of F8
  obtain ⟨fd9, F9⟩ : ∃ fd, FunD K "_law_pool" "_law_pool" (defArgs s_law_pool) (defBody s_law_pool) (defScope s_law_pool) [] [] 121 fd := defM cD0 9 (d := dfn9) rfl
  obtain ⟨⟨oc9, od9, kV9, dc9, pm9, an9, cd9, ct9, sl9, rfl, l9, cc9⟩, k9⟩ := He5.fun_of F9
  obtain ⟨fd10, F10⟩ : ∃ fd, FunD K "_law_is_list" "_law_is_list" (defArgs s_law_is_list) (defBody s_law_is_list) (defScope s_law_is_list) [] [] 126 fd := defM cD0 10 (d := dfn10) rfl
  obtain ⟨⟨oc10, od10, kV10, dc10, pm10, an10, cd10, ct10, sl10, rfl, l10, cc10⟩, k10⟩ := He5.fun_of F10
  obtain ⟨fd11, F11⟩ : ∃ fd, FunD K "_law_done" "_law_done" (defArgs s_law_done) (defBody s_law_done) (defScope s_law_done) [] [] 131 fd := defM cD0 11 (d := dfn11) rfl
  obtain ⟨⟨oc11, od11, kV11, dc11, pm11, an11, cd11, ct11, sl11, rfl, l11, cc11⟩, k11⟩ := He5.fun_of F11
  obtain ⟨fd12, F12⟩ : ∃ fd, FunD K "_law_looked" "_law_looked" (defArgs s_law_looked) (defBody s_law_looked) (defScope s_law_looked) [] [] 136 fd := defM cD0 12 (d := dfn12) rfl
  obtain ⟨⟨oc12, od12, kV12, dc12, pm12, an12, cd12, ct12, sl12, rfl, l12, cc12⟩, k12⟩ := He5.fun_of F12
  obtain ⟨fd13, F13⟩ : ∃ fd, FunD K "_law_stands" "_law_stands" (defArgs s_law_stands) (defBody s_law_stands) (defScope s_law_stands) [] [] 143 fd := defM cD0 13 (d := dfn13) rfl
  obtain ⟨⟨oc13, od13, kV13, dc13, pm13, an13, cd13, ct13, sl13, rfl, l13, cc13⟩, k13⟩ := He5.fun_of F13
  obtain ⟨fd14, F14⟩ : ∃ fd, FunD K "law" "law" (defArgs s_law) (defBody s_law) (defScope s_law) [] [] 148 fd := defM cD0 14 (d := dfn14) rfl
  obtain ⟨⟨oc14, od14, kV14, dc14, pm14, an14, cd14, ct14, sl14, rfl, l14, cc14⟩, k14⟩ := He5.fun_of F14
  exact all_mk X H hfa ac0 ac1 ac2 a0_2 i0 l0 cc0 k0 mk2 kc2 a1_2 i1 l1 cc1 k1 a2_2 i2 l2 cc2 k2 a3_2 i3 l3 cc3 k3 a4_2 i4 l4 cc4 k4 a5_2 i5 l5 cc5 k5 a6_2 i6 l6 cc6 k6 a7 l7 cc7 k7 a8 l8 cc8 k8 a9 l9 cc9 k9 a10 l10 cc10 k10 a11 l11 cc11 k11 a12 l12 cc12 k12 a13 l13 cc13 k13 a14 l14 cc14 k14 xE1 kE1 bE1 tE1 pg2 hd2 po2 sa2 nf2_0 nf2_1 z_all z_isinstance z_len z_list z_range z_repr z_set z_sorted z_str
end Lw
open PySem PySem.W PyProof.Rows
set_option maxRecDepth 100000 in
set_option maxHeartbeats 0 in
theorem PySem.Challenge.cw_mailroom_k25_words_of_names_holds : PySem.Challenge.rw_mailroom_k25_words_of_names.Holds := by
  w_on; o_law
  refine HandSHeadRun.head_any (r := OpenLaw.row PySem.Challenge.rw_mailroom_k25_words_of_names) (q := view (OpenLaw.row PySem.Challenge.rw_mailroom_k25_words_of_names).prog [13]) (H := Lw.hookM) (ob := Lw.obM) (M := 40000) (loose := Lw.namesM) (d := HandSHeadRun.topDef (OpenLaw.row PySem.Challenge.rw_mailroom_k25_words_of_names).prog 13) (kwd := []) Lw.obM_eq
    (by kernel_rfl) (fun s => by kernel_rfl) Lw.runM (by kernel_rfl) (by kernel_rfl) (by kernel_rfl) (by rfl) (by first | assumption | decide +kernel) (by decide +kernel) ⟨rfl, rfl, rfl, rfl, rfl, by decide +kernel⟩ ?hw ?hc
  case hw => w_witness2
  case hc =>
    refine L2.walk_ofG (l := PySem.Challenge.rw_mailroom_k25_words_of_names) (n := 63) (k := 5) (x := "_law_script") (CX := L2.CX0) rfl (by decide) (by kernel_rfl) ⟨rfl, by decide, by decide⟩ ?F (fun _ _ _ _ z => z)
    intro w mg fa h Y G hmg0
    obtain ⟨K, KX, c⟩ := Y
    have hmg : mg ("law" : PySem.Str) = some (.ref fa) := by
      have e : (HandSHeadRun.topDef (OpenLaw.row PySem.Challenge.rw_mailroom_k25_words_of_names).prog 13).name = ("law" : PySem.Str) := by kernel_rfl
      rw [← e]
      exact hmg0
    obtain ⟨fd, hb, hF⟩ := Lw.says_mk (l := PySem.Challenge.rw_mailroom_k25_words_of_names) (w := w) KX G hmg c
    exact ⟨K, fd, Lw.sp_top K, KX, hb, fun H a ns hl hO hS => ⟨a, ns, rfl, hS, hO, hl, fun _ => rfl⟩, hF⟩
