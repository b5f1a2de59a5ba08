import PyProof.Rows.All
import Wide.All
import OpenK.AllK
import Wide.FinOn
import HandS.ForMost
import HandS.ForExc
import HandS.SetKeys
import HandS.IsInst
import HandS.Flow
import HandS.Style
import HandS.CallSlots
import HandS.TryMany
import HandS.StrMore
import HandS.Strs
import HandS.TupLe
import HandS.TupAny
import HandS.More
import HandS.Conv
import HandS.Replace
import HandS.FStr
import HandS.ExcIs
import HandS.RaiseMore
import HandS.Defaults
import HandS.DictTup
import HandS.TupSets
import HandS.SortOrd
import HandS.SortKw
import HandS.Lambda
import PyProof.Rows.StrCase
import HandS.TryOnly
import KE.DataFind
import HandS.HotCalls
import HandS.Small
import HandS.WordsDict
import KE.KEqDict
import PyProof.NeKinds
import PyProof.FactsAll.dict_1
import PyProof.FactsAll.dict_2
import PyProof.FactsAll.str
import PyProof.FactsAll.int
import PyProof.FactsAll.subtypes
import HandS.SetTxt0
import HandS.SetFor
import KE.SortData
import KE.DataCmp
import HandS.Iter
import KE.DataMinMax
import HandS.ExcInit
import HandS.ClsMeth
import HandS.ExcField
import KE.KExcIs
import HandS.ExcInitHot
import HandS.SuiteRaise
import KE.GoesEnumKw
import HandS.NoneIn
import PyProof.SeqRoads2
import HandS.Ends
import HandS.Deep
import HandS.Head0
import HandS.Head1
import HandS.Head2
import HandS.HeadEnd
import HandS.HeadHook1
import HandS.HeadHook2
import HandS.HeadNt
import PySem.Challenge.RW_mailroom_k21_threads_looked_at
set_option Elab.async false
set_option linter.all false
set_option maxRecDepth 100000
set_option maxHeartbeats 4000000
namespace Ml
open PySem L2
structure Gx where
  K : PySem.W.Frag
  fz : Addr → Option Nat
  cl : Nat → Addr
/-- what never changes once it stands -/
def per (G : Gx) : HO → Bool
  | .tup _ => true
  | .frz _ (.lst _) => true
  | .ins C _ fs => decide (G.fz C = some fs.length)
  | _ => false
/-- what sort of thing it is -/
def kindOf : HO → Nat
  | .lst _ => 0
  | .frz _ (.lst _) => 0
  | .dK _ => 1
  | .frz _ (.dK _) => 1
  | .dT _ => 6
  | .frz _ (.dT _) => 6
  | .tup _ => 2
  | .set _ _ => 3
  | .ins _ _ _ => 4
  | _ => 5
/-- all that never changes stands on, and nothing becomes another sort of thing -/
def Stab (G : Gx) (H H' : Hp) : Prop := (∀ a o, H a = some o → per G o = true → H' a = some o) ∧ ∀ a o, H a = some o → ∃ o', H' a = some o' ∧ kindOf o' = kindOf o
theorem Stab.refl {G : Gx} (H : Hp) : Stab G H H := ⟨fun _ _ h _ => h, fun _ o h => ⟨o, h, rfl⟩⟩
theorem Stab.trans {G : Gx} {H H1 H2 : Hp} (a : Stab G H H1) (b : Stab G H1 H2) : Stab G H H2 := ⟨fun x o h p => b.1 x o (a.1 x o h p) p, fun x o h => by
  obtain ⟨o1, h1, k1⟩ := a.2 x o h
  obtain ⟨o2, h2, k2⟩ := b.2 x o1 h1
  exact ⟨o2, h2, k2.trans k1⟩⟩
theorem Stab.of_same {G : Gx} {H H' : Hp} (s : Same H H') : Stab G H H' := ⟨fun a o h _ => s a o h, fun a o h => ⟨o, s a o h, rfl⟩⟩
theorem stab_put {G : Gx} {H : Hp} {a : Addr} {o o' : HO} (e : H a = some o) (n : per G o = false) (kd : kindOf o' = kindOf o) : Stab G H (upd H a o') := ⟨fun b x hb pb => by
  by_cases z : b = a
  · subst z; rw [e] at hb; cases hb; rw [n] at pb; cases pb
  · rw [upd_ne z]; exact hb, fun b x hb => by
  by_cases z : b = a
  · subst z; rw [e] at hb; cases hb; exact ⟨o', upd_same, kd⟩
  · exact ⟨x, by rw [upd_ne z]; exact hb, rfl⟩⟩
structure Asn (G : Gx) where
  sat : Hp → List Addr → Prop
  loc : ∀ H H' fp, sat H fp → (∀ a, a ∈ fp → H' a = H a) → Stab G H H' → sat H' fp
variable {G : Gx}
def satL (H : Hp) : List (Asn G) → List Addr → Prop
  | [], fp => fp = []
  | A :: L, fp => ∃ f1 f2, fp = f1 ++ f2 ∧ A.sat H f1 ∧ satL H L f2
theorem satL.loc {H H' : Hp} : ∀ {L : List (Asn G)} {fp : List Addr}, satL H L fp → (∀ a, a ∈ fp → H' a = H a) → Stab G H H' → satL H' L fp
  | [], fp, h, _, _ => h
  | A :: L, fp, ⟨f1, f2, e, h1, h2⟩, k, s => ⟨f1, f2, e, A.loc H H' f1 h1 (fun a m => k a (by rw [e]; exact List.mem_append_left _ m)) s,
      satL.loc h2 (fun a m => k a (by rw [e]; exact List.mem_append_right _ m)) s⟩
theorem satL.perm {H : Hp} {L L' : List (Asn G)} (p : L.Perm L') : ∀ {fp : List Addr}, satL H L fp → ∃ fp', fp'.Perm fp ∧ satL H L' fp' := by
  induction p with
  | nil => intro fp h; exact ⟨fp, .refl _, h⟩
  | cons x _ ih =>
    rintro fp ⟨f1, f2, e, h1, h2⟩
    obtain ⟨g, pg, hg⟩ := ih h2
    exact ⟨f1 ++ g, by rw [e]; exact List.Perm.append_left f1 pg, f1, g, rfl, h1, hg⟩
  | swap x y l =>
    rintro fp ⟨f1, f2, e, h1, g1, g2, e2, k1, k2⟩
    refine ⟨g1 ++ (f1 ++ g2), ?_, g1, f1 ++ g2, rfl, k1, f1, g2, rfl, h1, k2⟩
    rw [e, e2, ← List.append_assoc, ← List.append_assoc]
    exact List.Perm.append_right g2 List.perm_append_comm
  | trans _ _ ih1 ih2 =>
    intro fp h
    obtain ⟨g, pg, hg⟩ := ih1 h
    obtain ⟨k, pk, hk⟩ := ih2 hg
    exact ⟨k, pk.trans pg, hk⟩
theorem satL.append {H : Hp} : ∀ {L L' : List (Asn G)} {fp : List Addr}, satL H (L ++ L') fp ↔ ∃ f1 f2, fp = f1 ++ f2 ∧ satL H L f1 ∧ satL H L' f2
  | [], L', fp => ⟨fun h => ⟨[], fp, rfl, rfl, h⟩, fun ⟨f1, f2, e, h1, h2⟩ => by
      have h1' : f1 = [] := h1
      subst h1'; subst e; exact h2⟩
  | A :: L, L', fp => by
    constructor
    · rintro ⟨f1, f2, e, h1, h2⟩
      obtain ⟨g1, g2, e2, k1, k2⟩ := satL.append.mp h2
      exact ⟨f1 ++ g1, g2, by rw [e, e2, List.append_assoc], ⟨f1, g1, rfl, h1, k1⟩, k2⟩
    · rintro ⟨f1, f2, e, ⟨g1, g2, e2, h1, h2⟩, h3⟩
      exact ⟨g1, g2 ++ f2, by rw [e, e2, List.append_assoc], h1, satL.append.mpr ⟨g2, f2, rfl, h2, h3⟩⟩
/-- the assertions hold, each of its own part of the heap -/
def Sep (H : Hp) (L : List (Asn G)) : Prop := ∃ fp, satL H L fp ∧ fp.Nodup ∧ ∀ a, a ∈ fp → ∃ o, H a = some o ∧ per G o = false
theorem Sep.perm {H : Hp} {L L' : List (Asn G)} (h : Sep H L) (p : L.Perm L') : Sep H L' := by
  obtain ⟨fp, h1, h2, h3⟩ := h
  obtain ⟨g, pg, hg⟩ := satL.perm p h1
  exact ⟨g, hg, pg.nodup_iff.mpr h2, fun a m => h3 a (pg.mem_iff.mp m)⟩
theorem Sep.nil (H : Hp) : Sep H ([] : List (Asn G)) := ⟨[], rfl, List.nodup_nil, fun a m => absurd m (by simp)⟩
theorem Sep.left {H : Hp} {L L' : List (Asn G)} (h : Sep H (L ++ L')) : Sep H L := by
  obtain ⟨fp, h1, h2, h3⟩ := h
  obtain ⟨f1, f2, e, k1, k2⟩ := satL.append.mp h1
  subst e
  exact ⟨f1, k1, (List.nodup_append.mp h2).1, fun a m => h3 a (List.mem_append_left _ m)⟩
theorem Sep.tail {H : Hp} {A : Asn G} {L : List (Asn G)} (h : Sep H (A :: L)) : Sep H L := by
  have p : (A :: L).Perm (L ++ [A]) := (List.perm_append_singleton A L).symm
  exact (h.perm p).left
/-- old things stand, new ones may come -/
theorem Sep.more {H H' : Hp} {L : List (Asn G)} (h : Sep H L) (s : Same H H') : Sep H' L := by
  obtain ⟨fp, h1, h2, h3⟩ := h
  exact ⟨fp, h1.loc (fun a m => by obtain ⟨o, e, _⟩ := h3 a m; rw [e]; exact s a o e) (.of_same s), h2, fun a m => by
    obtain ⟨o, e, n⟩ := h3 a m; exact ⟨o, s a o e, n⟩⟩
theorem satL.at {H : Hp} {A : Asn G} : ∀ {L : List (Asn G)} {fp : List Addr} {i : Nat}, satL H L fp → L[i]? = some A → ∃ fp, A.sat H fp
  | [], _, _, _, e => by simp at e
  | B :: L, _, 0, ⟨f1, _, _, k1, _⟩, e => ⟨f1, by
      have : B = A := Option.some.inj e
      subst this; exact k1⟩
  | B :: L, _, i + 1, ⟨_, f2, _, _, k2⟩, e => satL.at (L := L) (i := i) k2 (by simpa using e)
theorem Sep.at {H : Hp} {L : List (Asn G)} (h : Sep H L) {i : Nat} {A : Asn G} (e : L[i]? = some A) : ∃ fp, A.sat H fp := by
  obtain ⟨fp, h1, _, _⟩ := h
  exact satL.at h1 e
/-- the i-th one ahead -/
theorem pull_perm {α : Type} : ∀ {L : List α} {i : Nat} {A : α}, L[i]? = some A → L.Perm (A :: L.eraseIdx i)
  | [], _, _, e => by simp at e
  | B :: L, 0, A, e => by
    have : B = A := Option.some.inj e
    subst this
    exact .refl _
  | B :: L, i + 1, A, e => by
    have ih := pull_perm (L := L) (i := i) (A := A) (by simpa using e)
    exact (List.Perm.cons B ih).trans (List.Perm.swap A B _)
theorem set_perm {α : Type} : ∀ {L : List α} {i : Nat} {A B : α}, L[i]? = some A → (B :: L.eraseIdx i).Perm (L.set i B)
  | [], _, _, _, e => by simp at e
  | C :: L, 0, A, B, e => .refl _
  | C :: L, i + 1, A, B, e => by
    have ih := set_perm (L := L) (i := i) (A := A) (B := B) (by simpa using e)
    exact (List.Perm.swap C B _).trans (List.Perm.cons C ih)
/-- chosen ones, in a chosen order -/
def pick {α : Type} (L : List α) (is : List Nat) : List α := is.filterMap fun i => L[i]?
theorem pick_perm {α : Type} : ∀ (is : List Nat) (L : List α), is.Nodup → ∃ R, L.Perm (pick L is ++ R)
  | [], L, _ => ⟨L, .refl _⟩
  | i :: is, L, nd => by
    obtain ⟨n1, n2⟩ := List.nodup_cons.mp nd
    cases e : L[i]? with
    | none =>
      obtain ⟨R, p⟩ := pick_perm is L n2
      refine ⟨R, ?_⟩
      have : pick L (i :: is) = pick L is := by unfold pick; rw [List.filterMap_cons, e]
      rw [this]; exact p
    | some A =>
      -- the others by their places without i
      have key : ∀ (js : List Nat), i ∉ js → pick L js = pick (L.eraseIdx i) (js.map fun j => if j < i then j else j - 1) := by
        intro js hj
        unfold pick
        rw [List.filterMap_map]
        have gen : ∀ js : List Nat, i ∉ js → js.filterMap (fun i => L[i]?) = js.filterMap ((fun j => (L.eraseIdx i)[j]?) ∘ fun j => if j < i then j else j - 1) := by
          intro js
          induction js with
          | nil => intro _; rfl
          | cons j js ih =>
            intro hm
            have hji : j ≠ i := fun z => hm (by rw [z]; exact List.mem_cons_self)
            have ih' := ih fun z => hm (List.mem_cons_of_mem _ z)
            have ej : L[j]? = ((fun j => (L.eraseIdx i)[j]?) ∘ fun j => if j < i then j else j - 1) j := by
              show L[j]? = (L.eraseIdx i)[if j < i then j else j - 1]?
              rw [List.getElem?_eraseIdx]
              by_cases c : j < i
              · rw [if_pos c, if_pos c]
              · rw [if_neg c, if_neg (by omega)]
                congr 1; omega
            rw [List.filterMap_cons, List.filterMap_cons, ih', ej]
        exact gen js hj
      have nd2 : (is.map fun j => if j < i then j else j - 1).Nodup := by
        refine List.pairwise_map.mpr (List.Pairwise.imp_of_mem ?_ n2)
        intro a b ha hb hab z
        have ha' : a ≠ i := fun q => n1 (q ▸ ha)
        have hb' : b ≠ i := fun q => n1 (q ▸ hb)
        split at z <;> split at z <;> omega
      obtain ⟨R, p⟩ := pick_perm (is.map fun j => if j < i then j else j - 1) (L.eraseIdx i) nd2
      refine ⟨R, ?_⟩
      have e2 : pick L (i :: is) = A :: pick L is := by unfold pick; rw [List.filterMap_cons, e]
      rw [e2, key is n1]
      exact (pull_perm e).trans (List.Perm.cons A p)
termination_by is => is.length
theorem Sep.sel {H : Hp} {L L' : List (Asn G)} (h : Sep H L) (is : List Nat) (nd : is.Nodup) (e : pick L is = L') : Sep H L' := by
  obtain ⟨R, p⟩ := pick_perm is L nd
  rw [e] at p
  exact (h.perm p).left
/-- at a stands o, owned -/
def cell (a : Addr) (o : HO) : Asn G := ⟨fun H fp => fp = [a] ∧ H a = some o, fun H H' fp h k _ => ⟨h.1, by rw [k a (by rw [h.1]; simp)]; exact h.2⟩⟩
/-- a fact that stays -/
def fact (p : Hp → Prop) (st : ∀ H H', p H → Stab G H H' → p H') : Asn G := ⟨fun H fp => fp = [] ∧ p H, fun H H' fp h _ s => ⟨h.1, st H H' h.2 s⟩⟩
/-- several as one -/
def star (L : List (Asn G)) : Asn G := ⟨fun H fp => satL H L fp, fun H H' fp h k s => h.loc k s⟩
/-- some one of them -/
def exA {α : Type} (f : α → Asn G) : Asn G := ⟨fun H fp => ∃ x, (f x).sat H fp, fun H H' fp ⟨x, h⟩ k s => ⟨x, (f x).loc H H' fp h k s⟩⟩
/-- and a plain truth -/
def andA (p : Prop) (A : Asn G) : Asn G := ⟨fun H fp => p ∧ A.sat H fp, fun H H' fp ⟨x, h⟩ k s => ⟨x, A.loc H H' fp h k s⟩⟩
theorem Sep.star {H : Hp} {L M : List (Asn G)} (h : Sep H (M ++ [Ml.star L])) : Sep H (M ++ L) := by
  obtain ⟨fp, h1, h2, h3⟩ := h
  obtain ⟨f1, f2, e, k1, g1, g2, e2, k2, k3⟩ := satL.append.mp h1
  have k3' : g2 = [] := k3
  subst k3'
  rw [List.append_nil] at e2
  subst e2
  exact ⟨fp, satL.append.mpr ⟨f1, f2, e, k1, k2⟩, h2, h3⟩
theorem Sep.unstar {H : Hp} {L M : List (Asn G)} (h : Sep H (M ++ L)) : Sep H (M ++ [Ml.star L]) := by
  obtain ⟨fp, h1, h2, h3⟩ := h
  obtain ⟨f1, f2, e, k1, k2⟩ := satL.append.mp h1
  exact ⟨fp, satL.append.mpr ⟨f1, f2, e, k1, f2, [], by simp, k2, rfl⟩, h2, h3⟩
theorem Sep.star1 {H : Hp} {L M : List (Asn G)} (h : Sep H (Ml.star L :: M)) : Sep H (L ++ M) := by
  obtain ⟨fp, ⟨f1, f2, e, h1, k⟩, h2, h3⟩ := h
  exact ⟨fp, satL.append.mpr ⟨f1, f2, e, h1, k⟩, h2, h3⟩
theorem Sep.unstar1 {H : Hp} {L M : List (Asn G)} (h : Sep H (L ++ M)) : Sep H (Ml.star L :: M) := by
  obtain ⟨fp, h1, h2, h3⟩ := h
  obtain ⟨f1, f2, e, k1, k2⟩ := satL.append.mp h1
  exact ⟨fp, ⟨f1, f2, e, k1, k2⟩, h2, h3⟩
theorem Sep.ex {α : Type} {f : α → Asn G} {H : Hp} {M : List (Asn G)} (h : Sep H (exA f :: M)) : ∃ x, Sep H (f x :: M) := by
  obtain ⟨fp, ⟨f1, f2, e, ⟨x, h1⟩, k⟩, h2, h3⟩ := h
  exact ⟨x, fp, ⟨f1, f2, e, h1, k⟩, h2, h3⟩
theorem Sep.exI {α : Type} {f : α → Asn G} {H : Hp} {M : List (Asn G)} (x : α) (h : Sep H (f x :: M)) : Sep H (exA f :: M) := by
  obtain ⟨fp, ⟨f1, f2, e, h1, k⟩, h2, h3⟩ := h
  exact ⟨fp, ⟨f1, f2, e, ⟨x, h1⟩, k⟩, h2, h3⟩
theorem Sep.and {p : Prop} {A : Asn G} {H : Hp} {M : List (Asn G)} (h : Sep H (andA p A :: M)) : p ∧ Sep H (A :: M) := by
  obtain ⟨fp, ⟨f1, f2, e, ⟨x, h1⟩, k⟩, h2, h3⟩ := h
  exact ⟨x, fp, ⟨f1, f2, e, h1, k⟩, h2, h3⟩
theorem Sep.andI {p : Prop} {A : Asn G} {H : Hp} {M : List (Asn G)} (x : p) (h : Sep H (A :: M)) : Sep H (andA p A :: M) := by
  obtain ⟨fp, ⟨f1, f2, e, h1, k⟩, h2, h3⟩ := h
  exact ⟨fp, ⟨f1, f2, e, ⟨x, h1⟩, k⟩, h2, h3⟩
/-- another view of the first one, over the same part -/
theorem Sep.view {A B : Asn G} {H : Hp} {M : List (Asn G)} (h : Sep H (A :: M)) (v : ∀ fp, A.sat H fp → B.sat H fp) : Sep H (B :: M) := by
  obtain ⟨fp, ⟨f1, f2, e, h1, k⟩, h2, h3⟩ := h
  exact ⟨fp, ⟨f1, f2, e, v f1 h1, k⟩, h2, h3⟩
theorem Sep.addFact {p : Hp → Prop} {st : ∀ H H', p H → Stab G H H' → p H'} {H : Hp} {M : List (Asn G)} (h : Sep H M) (x : p H) : Sep H (fact p st :: M) := by
  obtain ⟨fp, h1, h2, h3⟩ := h
  exact ⟨fp, ⟨[], fp, rfl, ⟨rfl, x⟩, h1⟩, h2, h3⟩
theorem Sep.getFact {p : Hp → Prop} {st : ∀ H H', p H → Stab G H H' → p H'} {H : Hp} {M : List (Asn G)} (h : Sep H M) {i : Nat} (e : M[i]? = some (fact p st)) : p H := by
  obtain ⟨fp, _, x⟩ := h.at e
  exact x
theorem Sep.getCell {H : Hp} {M : List (Asn G)} (h : Sep H M) {i : Nat} {a : Addr} {o : HO} (e : M[i]? = some (cell a o)) : H a = some o := by
  obtain ⟨fp, _, x⟩ := h.at e
  exact x
theorem same_new {H : Hp} {p : Addr} {o : HO} (h : H p = none) : Same H (upd H p o) := fun b u e => by
  rw [upd_ne (ne_of_none e h)]; exact e
/-- a new thing -/
theorem Sep.new {H : Hp} {M : List (Asn G)} (h : Sep H M) {p : Addr} {o : HO} (hp : H p = none) (n : per G o = false) : Sep (upd H p o) (cell p o :: M) := by
  have h' := h.more (same_new (o := o) hp)
  obtain ⟨fp, h1, h2, h3⟩ := h
  obtain ⟨_, k1, _, _⟩ := (⟨fp, h1, h2, h3⟩ : Sep H M)
  have q : satL (upd H p o) M fp := h1.loc (fun a m => by obtain ⟨u, e, _⟩ := h3 a m; exact upd_ne (ne_of_none e hp)) (.of_same (same_new hp))
  refine ⟨p :: fp, ⟨[p], fp, rfl, ⟨rfl, upd_same⟩, q⟩, List.nodup_cons.mpr ⟨fun m => ?_, h2⟩, fun a m => ?_⟩
  · obtain ⟨u, e, _⟩ := h3 p m
    rw [hp] at e; cases e
  · rcases List.mem_cons.mp m with rfl | m
    · exact ⟨o, upd_same, n⟩
    · obtain ⟨u, e, z⟩ := h3 a m
      exact ⟨u, by rw [upd_ne (ne_of_none e hp)]; exact e, z⟩
/-- a store at the first one's place -/
theorem Sep.put1 {H : Hp} {M : List (Asn G)} {a : Addr} {o o' : HO} (h : Sep H (cell a o :: M)) (n : per G o' = false) (kd : kindOf o' = kindOf o) : Sep (upd H a o') (cell a o' :: M) := by
  obtain ⟨fp, ⟨f1, f2, e, ⟨e1, ho⟩, k⟩, h2, h3⟩ := h
  subst e1; subst e
  have nd : ¬ a ∈ f2 := (List.nodup_cons.mp h2).1
  obtain ⟨u, hu, nu⟩ := h3 a (by simp)
  have st : Stab G H (upd H a o') := stab_put ho (by rw [hu] at ho; cases ho; exact nu) kd
  refine ⟨a :: f2, ⟨[a], f2, rfl, ⟨rfl, upd_same⟩, k.loc (fun b m => upd_ne fun z => nd (z ▸ m)) st⟩, h2, fun b m => ?_⟩
  rcases List.mem_cons.mp m with rfl | m
  · exact ⟨o', upd_same, n⟩
  · obtain ⟨x, hx, nx⟩ := h3 b (by simp [m])
    exact ⟨x, by rw [upd_ne (fun z => nd (by rw [← z]; exact m))]; exact hx, nx⟩
theorem Sep.put {H : Hp} {M : List (Asn G)} {i : Nat} {a : Addr} {o o' : HO} (h : Sep H M) (e : M[i]? = some (cell a o)) (n : per G o' = false) (kd : kindOf o' = kindOf o) : Sep (upd H a o') (M.set i (cell a o')) :=
  ((h.perm (pull_perm e)).put1 n kd).perm (set_perm e)
/-- another view of the i-th one -/
theorem Sep.viewAt {A B : Asn G} {H : Hp} {M : List (Asn G)} {i : Nat} (h : Sep H M) (e : M[i]? = some A) (v : ∀ fp, A.sat H fp → B.sat H fp) : Sep H (M.set i B) :=
  ((h.perm (pull_perm e)).view v).perm (set_perm e)
end Ml
namespace Ml
open PySem L2
structure Exc where
  cls : Nat
  row : Int
  deriving DecidableEq, Repr
inductive R (α : Type) where
  | ok (a : α) | exc (x : Exc) | bad
  deriving DecidableEq, Repr
namespace R
variable {α β σ ρ : Type}
def bind : R α → (α → R β) → R β
  | .ok a, f => f a
  | .exc x, _ => .exc x
  | .bad, _ => .bad
@[simp] theorem bind_ok (a : α) (f : α → R β) : (R.ok a).bind f = f a := rfl
@[simp] theorem bind_exc (x : Exc) (f : α → R β) : (R.exc x : R α).bind f = .exc x := rfl
@[simp] theorem bind_bad (f : α → R β) : (R.bad : R α).bind f = .bad := rfl
def need (p : Prop) [Decidable p] (k : R α) : R α := if p then k else .bad
@[simp] theorem need_pos {p : Prop} [Decidable p] (h : p) (k : R α) : need p k = k := if_pos h
/-- what holds of the answer, or of the error -/
def wp : R α → (α → Prop) → (Exc → Prop) → Prop
  | .ok a, q, _ => q a
  | .exc x, _, e => e x
  | .bad, _, _ => False
theorem wp_bind {m : R α} {f : α → R β} {q : β → Prop} {e : Exc → Prop} (h : wp (m.bind f) q e) : wp m (fun a => wp (f a) q e) e := by
  cases m <;> exact h
theorem wp_need {p : Prop} [Decidable p] {k : R α} {q : α → Prop} {e : Exc → Prop} (h : wp (need p k) q e) : p ∧ wp k q e := by
  unfold need at h
  by_cases c : p
  · rw [if_pos c] at h; exact ⟨c, h⟩
  · rw [if_neg c] at h; exact h.elim
theorem wp_mono {m : R α} {q q' : α → Prop} {e e' : Exc → Prop} (h : wp m q e) (hq : ∀ a, q a → q' a) (he : ∀ x, e x → e' x) : wp m q' e' := by
  cases m with
  | ok a => exact hq a h
  | exc x => exact he x h
  | bad => exact h
theorem wp_of {m : R α} {a : α} {q : α → Prop} {e : Exc → Prop} (h : m = .ok a) (k : q a) : wp m q e := by rw [h]; exact k
theorem wp_if {c : Prop} [Decidable c] {a b : R α} {q : α → Prop} {e : Exc → Prop} (h : wp (if c then a else b) q e) : (c → wp a q e) ∧ (¬ c → wp b q e) := by
  by_cases x : c
  · rw [if_pos x] at h; exact ⟨fun _ => h, fun n => absurd x n⟩
  · rw [if_neg x] at h; exact ⟨fun y => absurd y x, fun _ => h⟩
end R
/-- a turn's end: on with s, out of the loop with s, out of the def with r -/
inductive Fl (σ ρ : Type) where
  | go (s : σ) | brk (s : σ) | out (r : ρ)
  deriving DecidableEq, Repr
section
variable {α β σ ρ : Type}
def forR (f : σ → α → R σ) : List α → σ → R σ
  | [], s => .ok s
  | x :: xs, s => (f s x).bind fun s => forR f xs s
def forF (f : σ → α → R (Fl σ ρ)) : List α → σ → R (Fl σ ρ)
  | [], s => .ok (.go s)
  | x :: xs, s => (f s x).bind fun r => match r with
    | .go s => forF f xs s
    | .brk s => .ok (.go s)
    | .out r => .ok (.out r)
/-- a comprehension: what each item gives, the state carried -/
def compR (f : σ → α → R (σ × Option β)) : List α → σ → R (σ × List β)
  | [], s => .ok (s, [])
  | x :: xs, s => (f s x).bind fun r => (compR f xs r.1).bind fun t => .ok (t.1, match r.2 with
    | some y => y :: t.2
    | none => t.2)
end
class Im (G : Gx) (α : Type) where
  im : Hp → V → α → Prop
  st : ∀ {H H' : Hp} {v : V} {x : α}, im H v x → Stab G H H' → im H' v x
class Fv (G : Gx) (α : Type) extends Im G α where
  enc : α → V
  im_iff : ∀ {H : Hp} {v : V} {x : α}, im H v x ↔ v = enc x
variable {G : Gx}
instance imInt : Im G Int := ⟨fun _ v x => v = .int x, fun h _ => h⟩
instance imBool : Im G Bool := ⟨fun _ v x => v = .bl x, fun h _ => h⟩
instance imStr : Im G Str := ⟨fun _ v x => v = .str x, fun h _ => h⟩
instance imUnit : Im G Unit := ⟨fun _ v _ => v = .non, fun h _ => h⟩
instance fInt : Fv G Int := { enc := .int, im_iff := .rfl }
instance fBool : Fv G Bool := { enc := .bl, im_iff := .rfl }
instance fStr : Fv G Str := { enc := .str, im_iff := .rfl }
instance fUnit : Fv G Unit := { enc := fun _ => .non, im_iff := .rfl }
/-- the script -/
structure Script where
  ns : List Int
instance : Im G Script := ⟨fun H v x => ∃ a, v = .ref a ∧ ((∃ o, H a = some (.frz o (.lst (x.ns.map V.int)))) ∨ ∃ o its n, List.lookup a G.K = some o ∧ o.cls = Value.type "list" ∧ o.dict = none ∧ o.data = Data.seq its n ∧ its.size ≤ sizeLine ∧ Vals (x.ns.map V.int) its.toList),
  fun ⟨a, e, h⟩ s => ⟨a, e, h.imp (fun ⟨o, h⟩ => ⟨o, s.1 a _ h rfl⟩) id⟩⟩
theorem im_script {H : Hp} {v : V} {x : Script} (h : Im.im G H v x) : ∃ a, v = .ref a ∧ SqL G.K H a (x.ns.map V.int) := by
  obtain ⟨a, e, h⟩ := h
  refine ⟨a, e, ?_⟩
  rcases h with ⟨o, h⟩ | h
  · exact .inl (.inr ⟨o, h⟩)
  · exact .inr h
theorem sq_script {H : Hp} {a : Addr} {x : Script} (h : Im.im G H (.ref a) x) : SqL G.K H a (x.ns.map V.int) := by
  obtain ⟨b, e, h⟩ := im_script h
  cases e; exact h
def imL {α : Type} [Im G α] (H : Hp) : List V → List α → Prop
  | [], [] => True
  | v :: vs, x :: xs => Im.im G H v x ∧ imL H vs xs
  | _, _ => False
section
variable {α : Type} [Im G α] {H H' : Hp}
theorem imL.st : ∀ {vs : List V} {xs : List α}, imL (G := G) H vs xs → Stab G H H' → imL (G := G) H' vs xs
  | [], [], _, _ => True.intro
  | v :: vs, x :: xs, h, s => ⟨Im.st h.1 s, imL.st h.2 s⟩
  | [], _ :: _, h, _ => h
  | _ :: _, [], h, _ => h
theorem imL.len : ∀ {vs : List V} {xs : List α}, imL (G := G) H vs xs → vs.length = xs.length
  | [], [], _ => rfl
  | v :: vs, x :: xs, h => by rw [List.length_cons, List.length_cons, imL.len h.2]
  | [], _ :: _, h => h.elim
  | _ :: _, [], h => h.elim
theorem imL.app : ∀ {vs ws : List V} {xs ys : List α}, imL (G := G) H vs xs → imL (G := G) H ws ys → imL (G := G) H (vs ++ ws) (xs ++ ys)
  | [], _, [], _, _, h => h
  | v :: vs, _, x :: xs, _, h, k => ⟨h.1, imL.app h.2 k⟩
  | [], _, _ :: _, _, h, _ => h.elim
  | _ :: _, _, [], _, h, _ => h.elim
theorem imL.get : ∀ {vs : List V} {xs : List α} {i : Nat} {x : α}, imL (G := G) H vs xs → xs[i]? = some x → ∃ v, vs[i]? = some v ∧ Im.im G H v x
  | [], [], _, _, _, e => by simp at e
  | v :: vs, x :: xs, 0, y, h, e => by
    have : x = y := Option.some.inj e
    subst this
    exact ⟨v, rfl, h.1⟩
  | v :: vs, x :: xs, i + 1, y, h, e => by
    obtain ⟨u, h1, h2⟩ := imL.get (i := i) (x := y) h.2 (by simpa using e)
    exact ⟨u, by simpa using h1, h2⟩
  | [], _ :: _, _, _, h, _ => h.elim
  | _ :: _, [], _, _, h, _ => h.elim
theorem imL.set : ∀ {vs : List V} {xs : List α} {i : Nat} {x : α} {v : V}, imL (G := G) H vs xs → Im.im G H v x → imL (G := G) H (vs.set i v) (xs.set i x)
  | [], [], _, _, _, _, _ => True.intro
  | v :: vs, x :: xs, 0, y, u, h, k => ⟨k, h.2⟩
  | v :: vs, x :: xs, i + 1, y, u, h, k => ⟨h.1, imL.set h.2 k⟩
  | [], _ :: _, _, _, _, h, _ => h.elim
  | _ :: _, [], _, _, _, h, _ => h.elim
theorem imL.take : ∀ {vs : List V} {xs : List α} (n : Nat), imL (G := G) H vs xs → imL (G := G) H (vs.take n) (xs.take n)
  | [], [], n, _ => by simp [imL]
  | v :: vs, x :: xs, 0, h => True.intro
  | v :: vs, x :: xs, n + 1, h => ⟨h.1, imL.take n h.2⟩
  | [], _ :: _, _, h => h.elim
  | _ :: _, [], _, h => h.elim
theorem imL.drop : ∀ {vs : List V} {xs : List α} (n : Nat), imL (G := G) H vs xs → imL (G := G) H (vs.drop n) (xs.drop n)
  | [], [], n, _ => by simp [imL]
  | v :: vs, x :: xs, 0, h => h
  | v :: vs, x :: xs, n + 1, h => imL.drop n h.2
  | [], _ :: _, _, h => h.elim
  | _ :: _, [], _, h => h.elim
end
section
variable {α : Type} [Fv G α] {H H' : Hp}
theorem imL.flat : ∀ {vs : List V} {xs : List α}, imL (G := G) H vs xs ↔ vs = xs.map (Fv.enc G)
  | [], [] => ⟨fun _ => rfl, fun _ => True.intro⟩
  | v :: vs, x :: xs => by
    show (Im.im G H v x ∧ imL (G := G) H vs xs) ↔ _
    rw [Fv.im_iff, imL.flat]
    simp
  | [], _ :: _ => by simp [imL]
  | _ :: _, [] => by simp [imL]
end
section
variable {α : Type} [Im G α]
def lstA (a : Addr) (xs : List α) : Asn G := ⟨fun H fp => fp = [a] ∧ ∃ vs, H a = some (.lst vs) ∧ imL (G := G) H vs xs,
  fun H H' fp ⟨e, vs, h, m⟩ k s => ⟨e, vs, by rw [k a (by rw [e]; simp)]; exact h, m.st s⟩⟩
/-- a value's fact -/
def imA (v : V) (x : α) : Asn G := fact (fun H => Im.im G H v x) fun H H' h s => Im.st h s
variable {H : Hp} {L : List (Asn G)}
theorem Sep.lst (h : Sep H L) {i : Nat} {a : Addr} {xs : List α} (e : L[i]? = some (lstA a xs)) : ∃ vs, H a = some (.lst vs) ∧ imL (G := G) H vs xs := by
  obtain ⟨fp, _, x⟩ := h.at e
  exact x
theorem Sep.im (h : Sep H L) {i : Nat} {v : V} {x : α} (e : L[i]? = some (imA v x)) : Im.im G H v x := h.getFact e
theorem Sep.addIm (h : Sep H L) {v : V} {x : α} (e : Im.im G H v x) : Sep H (imA v x :: L) := h.addFact e
/-- the list's own cell, and back -/
theorem Sep.openL (h : Sep H L) {i : Nat} {a : Addr} {xs : List α} (e : L[i]? = some (lstA a xs)) : ∃ vs, imL (G := G) H vs xs ∧ Sep H (L.set i (cell a (.lst vs))) := by
  obtain ⟨vs, e1, m⟩ := h.lst e
  exact ⟨vs, m, h.viewAt e fun fp ⟨q, _⟩ => ⟨q, e1⟩⟩
theorem Sep.closeL {i : Nat} {a : Addr} {vs : List V} {xs : List α} (h : Sep H L) (e : L[i]? = some (cell a (.lst vs))) (m : imL (G := G) H vs xs) : Sep H (L.set i (lstA a xs)) :=
  h.viewAt e fun fp ⟨q, r⟩ => ⟨q, vs, r, m⟩
theorem Sep.newL (h : Sep H L) {p : Addr} {vs : List V} {xs : List α} (hp : H p = none) (m : imL (G := G) H vs xs) : Sep (upd H p (.lst vs)) (lstA p xs :: L) :=
  (h.new (o := .lst vs) hp rfl).view fun fp ⟨q, r⟩ => ⟨q, vs, r, m.st (.of_same (same_new hp))⟩
theorem set_set {β : Type} {l : List β} {i : Nat} {x y : β} : (l.set i x).set i y = l.set i y := by simp
theorem get_set {β : Type} {l : List β} {i : Nat} {x y : β} (h : l[i]? = some x) : (l.set i y)[i]? = some y := by
  have : i < l.length := by
    have := List.getElem?_eq_some_iff.mp h
    exact this.1
  simp [this]
theorem Sep.putL (h : Sep H L) {i : Nat} {a : Addr} {xs ys : List α} {vs : List V} (e : L[i]? = some (lstA a xs)) (m : imL (G := G) H vs ys) : Sep (upd H a (.lst vs)) (L.set i (lstA a ys)) := by
  obtain ⟨us, mu, h1⟩ := h.openL e
  have e1 := get_set (y := cell (G := G) a (.lst us)) e
  have h2 := h1.put (o' := .lst vs) e1 rfl rfl
  rw [set_set] at h2
  have st : Stab G H (upd H a (.lst vs)) := stab_put (h1.getCell e1) rfl rfl
  have h3 := h2.closeL (get_set e) (m.st st)
  rw [set_set] at h3
  exact h3
end
end Ml
namespace Ml
open PySem L2
variable {G : Gx}
def Ev (te : TE) (σ : St) (H : Hp) (v : V) : Prop := ∀ Q : VK, Q v H → te σ H Q
def Et (t : TT) (σ : St) (H : Hp) (b : Bool) : Prop := ∀ Q : Bool → Hp → Prop, Q b H → t σ H Q
def Ea (t : TA) (σ : St) (H : Hp) (vs : List V) : Prop := ∀ Q : List V → Hp → Prop, Q vs H → t σ H Q
def Eo (t : TO) (σ : St) (H : Hp) (o : Option Int) : Prop := ∀ Q : Option Int → Hp → Prop, Q o H → t σ H Q
section
variable {σ : St} {H : Hp} {ta tb tc te : TE} {t u : TT} {x y v : V} {i j : Int} {a b : Bool} {s z : Str} {vs : List V}
theorem ev_var {k : Nat} (h : σ[k]? = some (some v)) : Ev (tVar k) σ H v := fun _ q => ⟨v, h, q⟩
theorem ev_c : Ev (tC v) σ H v := fun _ q => q
theorem ev_op {r : R2} (ha : Ev ta σ H x) (hb : Ev tb σ H y) (hr : ∀ Q : VK, Q v H → r x y H Q) : Ev (tOp r ta tb) σ H v := fun Q q => ha _ (hb _ (hr _ q))
theorem ev_un {r : V → Hp → VK → Prop} (ha : Ev ta σ H x) (hr : ∀ Q : VK, Q v H → r x H Q) : Ev (tUn r ta) σ H v := fun Q q => ha _ (hr _ q)
theorem r_I0 {g : Int → Int → V} (Q : VK) (q : Q (g i j) H) : rI0 g (.int i) (.int j) H Q := ⟨i, j, rfl, rfl, q⟩
theorem r_I {C : Int → Int → Prop} {g : Int → Int → V} (c : C i j) (Q : VK) (q : Q (g i j) H) : rI C g (.int i) (.int j) H Q := ⟨i, j, rfl, rfl, c, q⟩
theorem ev_i0 {g : Int → Int → V} (ha : Ev ta σ H (.int i)) (hb : Ev tb σ H (.int j)) : Ev (tOp (rI0 g) ta tb) σ H (g i j) := ev_op ha hb fun Q q => r_I0 Q q
theorem ev_i {C : Int → Int → Prop} {g : Int → Int → V} (ha : Ev ta σ H (.int i)) (hb : Ev tb σ H (.int j)) (c : C i j) : Ev (tOp (rI C g) ta tb) σ H (g i j) := ev_op ha hb fun Q q => r_I c Q q
theorem ev_mul (ha : Ev ta σ H (.int i)) (hb : Ev tb σ H (.int j)) (c : CMul i j) : Ev (tOp (rI CMul fun i j => .int (i * j)) ta tb) σ H (.int (i * j)) := ev_i ha hb c
theorem ev_fdiv (ha : Ev ta σ H (.int i)) (hb : Ev tb σ H (.int j)) (c : 0 < j ∧ j < 1073741824) : Ev (tOp (rI CDiv fun i j => .int (i / j)) ta tb) σ H (.int (i / j)) := ev_i ha hb c
theorem ev_mod (ha : Ev ta σ H (.int i)) (hb : Ev tb σ H (.int j)) (c : 0 < j) : Ev (tOp (rI (fun _ j => 0 < j) fun i j => .int (i % j)) ta tb) σ H (.int (i % j)) := ev_i ha hb c
theorem ev_add (ha : Ev ta σ H (.int i)) (hb : Ev tb σ H (.int j)) : Ev (tOp (rI0 fun i j => .int (i + j)) ta tb) σ H (.int (i + j)) := ev_i0 ha hb
theorem ev_sub (ha : Ev ta σ H (.int i)) (hb : Ev tb σ H (.int j)) : Ev (tOp (rI0 fun i j => .int (i - j)) ta tb) σ H (.int (i - j)) := ev_i0 ha hb
theorem r_eqI (Q : VK) (q : Q (.bl (decide (i = j))) H) : rEq (.int i) (.int j) H Q := ⟨rfl, by
  have : decide (V.int i = V.int j) = decide (i = j) := by simp
  rw [this]; exact q⟩
theorem r_eqS (Q : VK) (q : Q (.bl (decide (s = z))) H) : rEq (.str s) (.str z) H Q := ⟨rfl, by
  have : decide (V.str s = V.str z) = decide (s = z) := by simp
  rw [this]; exact q⟩
theorem r_neS (Q : VK) (q : Q (.bl (!decide (s = z))) H) : rNe (.str s) (.str z) H Q := ⟨rfl, by
  have : decide (V.str s = V.str z) = decide (s = z) := by simp
  rw [this]; exact q⟩
theorem ev_eqI (ha : Ev ta σ H (.int i)) (hb : Ev tb σ H (.int j)) : Ev (tOp rEq ta tb) σ H (.bl (decide (i = j))) := ev_op ha hb fun Q q => r_eqI Q q
theorem ev_eqS (ha : Ev ta σ H (.str s)) (hb : Ev tb σ H (.str z)) : Ev (tOp rEq ta tb) σ H (.bl (decide (s = z))) := ev_op ha hb fun Q q => r_eqS Q q
theorem ev_neS (ha : Ev ta σ H (.str s)) (hb : Ev tb σ H (.str z)) : Ev (tOp rNe ta tb) σ H (.bl (!decide (s = z))) := ev_op ha hb fun Q q => r_neS Q q
def rCatS : R2 := fun x y H Q => ∃ i j, x = .str i ∧ y = .str j ∧ i.length + j.length ≤ sizeLine ∧ Q (.str (i ++ j)) H
theorem op_catS {X : Cx} : OpR X (binaryOp .Add) rCatS := op_add_str
theorem r_catS (c : s.length + z.length ≤ sizeLine) (Q : VK) (q : Q (.str (s ++ z)) H) : rCatS (.str s) (.str z) H Q := ⟨s, z, rfl, rfl, c, q⟩
theorem ev_catS (ha : Ev ta σ H (.str s)) (hb : Ev tb σ H (.str z)) (c : s.length + z.length ≤ sizeLine) : Ev (tOp rCatS ta tb) σ H (.str (s ++ z)) := ev_op ha hb fun Q q => r_catS c Q q
theorem et_test (h : Ev te σ H (.bl b)) : Et (tTest te) σ H b := fun _ q => h _ ⟨b, rfl, q⟩
theorem et_B (h : Ev te σ H (.bl b)) : Et (tB te) σ H b := fun _ q => h _ ⟨b, rfl, q⟩
theorem et_not (h : Et t σ H a) : Et (tNot t) σ H (!a) := fun _ q => h _ q
theorem ev_andV (h1 : Ev ta σ H (.bl a)) (h2 : a = true → Ev tb σ H (.bl b)) : Ev (tAndV ta tb) σ H (.bl (a && b)) := fun Q q => h1 _ ⟨a, rfl, by
  cases a with
  | true => exact h2 rfl _ q
  | false => exact q⟩
theorem ev_orV (h1 : Ev ta σ H (.bl a)) (h2 : a = false → Ev tb σ H (.bl b)) : Ev (tOrV ta tb) σ H (.bl (a || b)) := fun Q q => h1 _ ⟨a, rfl, by
  cases a with
  | true => exact q
  | false => exact h2 rfl _ q⟩
theorem ea_nil : Ea tNil σ H [] := fun _ q => q
theorem ea_cons {tr : TA} (h : Ev ta σ H x) (hr : Ea tr σ H vs) : Ea (tCons ta tr) σ H (x :: vs) := fun _ q => h _ (hr _ q)
theorem eo_some (h : Ev te σ H (.int i)) : Eo (tPart te) σ H (some i) := fun _ q => h _ ⟨i, rfl, q⟩
theorem ev_cb {r : List V → Hp → VK → Prop} {tr : TA} (h : Ea tr σ H vs) (hr : ∀ Q : VK, Q v H → r vs H Q) : Ev (tCB r tr) σ H v := fun Q q => h _ (hr _ q)
variable {K : PySem.W.Frag} {α : Type}
theorem ev_ixSq {p : Addr} {ws : List V} (ha : Ev ta σ H (.ref p)) (hb : Ev tb σ H (.int i)) (hs : SqL K H p ws) (e : atI ws i = some v) : Ev (tOp (rIxL K) ta tb) σ H v := ev_op ha hb fun _ q => ⟨p, ws, i, v, rfl, rfl, hs, e, q⟩
theorem ev_ixS {c : Nat} (ha : Ev ta σ H (.str z)) (hb : Ev tb σ H (.int i)) (hl : z.length ≤ sizeLine) (e : atI z.cps.toList i = some c) : Ev (tOp rIxS ta tb) σ H (.str ⟨#[c]⟩) := ev_op ha hb fun _ q => ⟨z, i, c, rfl, rfl, hl, e, q⟩
def rLenSq (K : PySem.W.Frag) : List V → Hp → VK → Prop := fun xs H Q => ∃ p ys, xs = [.ref p] ∧ (SqL K H p ys ∨ SqT K H p ys) ∧ Q (.int ys.length) H
theorem call_lenSq {X : Cx} : CallR X (.builtin "len") (rLenSq X.K) := call_len_seq
def rLenS : List V → Hp → VK → Prop := fun xs H Q => ∃ z, xs = [.str z] ∧ z.length ≤ sizeLine ∧ Q (.int z.length) H
theorem call_lenS {X : Cx} : CallR X (.builtin "len") rLenS := call_len_str
theorem ev_lenL {p : Addr} {ws : List V} (ha : Ev ta σ H (.ref p)) (hs : SqL K H p ws) : Ev (tCB (rLenSq K) (tCons ta tNil)) σ H (.int ws.length) := ev_cb (ea_cons ha ea_nil) fun _ q => ⟨p, ws, rfl, .inl hs, q⟩
theorem ev_lenS (ha : Ev ta σ H (.str z)) (hl : z.length ≤ sizeLine) : Ev (tCB rLenS (tCons ta tNil)) σ H (.int z.length) := ev_cb (ea_cons ha ea_nil) fun _ q => ⟨z, rfl, hl, q⟩
end
section
variable {σ σ' : St} {H : Hp} {te : TE} {t : TT} {D : Ends} {t1 t2 tb : TS} {v : V} {b : Bool}
theorem ev_to (h : Ev te σ H v) {Q : VK} (q : Q v H) : te σ H Q := h Q q
theorem ea_to {t : TA} {vs : List V} (h : Ea t σ H vs) {Q : List V → Hp → Prop} (q : Q vs H) : t σ H Q := h Q q
theorem eo_to {t : TO} {o : Option Int} (h : Eo t σ H o) {Q : Option Int → Hp → Prop} (q : Q o H) : t σ H Q := h Q q
theorem et_to (h : Et t σ H b) {Q : Bool → Hp → Prop} (q : Q b H) : t σ H Q := h Q q
end
section
variable {α β τ ρ : Type} {H : Hp} {σ : St} {D : Ends} {tb : TS} {g : TG} {K : PySem.W.Frag}
/-- a walk J over the items xs: at turn i it yields a v of which the i-th item holds -/
structure Wk (J : It) (I : St → Hp → Prop) (im : Hp → V → α → Prop) (xs : List α) : Prop where
  go : ∀ i σ H, I σ H → i < xs.length → J.go i H
  yl : ∀ i σ H v H' x, I σ H → xs[i]? = some x → J.yld i H v H' → I σ H' ∧ im H' v x
  sp : ∀ σ H, I σ H → J.stop xs.length H
/-- for .. in ..: the state s : τ, I s its place in slots and heap; each turn reckons f -/
theorem for_walk {J : It} {I : τ → St → Hp → Prop} {im : Hp → V → α → Prop} {xs : List α} {f : τ → α → R τ} {k : τ → Prop} {e : Exc → Prop} {s : τ}
    (w : ∀ s, Wk J (I s) im xs) (h0 : I s σ H) (hm : R.wp (forR f xs s) k e)
    (turn : ∀ (s : τ) (x : α) (v : V) (σ : St) (H : Hp) (q : τ → Prop) (N : St → Hp → Prop), I s σ H → im H v x → R.wp (f s x) q e → (∀ s' σ' H', q s' → I s' σ' H' → N σ' H') → g v σ H fun σ2 H2 => tb { D with nx := N, ct := N, bk := D.nx } σ2 H2)
    (done : ∀ s σ H, k s → I s σ H → D.nx σ H) :
    ∃ W : Nat → Nat → St → Hp → Prop, (∃ m, W 0 m σ H) ∧ ∀ i m σ H, W i m σ H →
      (J.stop i H ∧ D.nx σ H) ∨ (J.go i H ∧ ∃ N : St → Hp → Prop, (∀ σ' H', N σ' H' → ∃ m', m' < m ∧ W (i + 1) m' σ' H') ∧ ∀ x H', J.yld i H x H' → g x σ H' fun σ2 H2 => tb { D with nx := N, ct := N, bk := D.nx } σ2 H2) := by
  refine ⟨fun i m σ H => m = xs.length - i ∧ i ≤ xs.length ∧ ∃ s, I s σ H ∧ R.wp (forR f (xs.drop i) s) k e, ⟨xs.length, by simp, Nat.zero_le _, s, h0, by simpa using hm⟩, ?_⟩
  rintro i m σ H ⟨rfl, hi, s, hI, hw⟩
  by_cases c : i < xs.length
  · have ed : xs.drop i = xs[i] :: xs.drop (i + 1) := List.drop_eq_getElem_cons c
    rw [ed] at hw
    refine .inr ⟨(w s).go i σ H hI c, fun σ' H' => ∃ s', I s' σ' H' ∧ R.wp (forR f (xs.drop (i + 1)) s') k e, fun σ' H' ⟨s', h1, h2⟩ => ⟨xs.length - (i + 1), by omega, rfl, c, s', h1, h2⟩, fun v H' y => ?_⟩
    obtain ⟨hI', hv⟩ := (w s).yl i σ H v H' xs[i] hI (List.getElem?_eq_getElem c) y
    exact turn s xs[i] v σ H' _ _ hI' hv (R.wp_bind hw) fun s' σ' H'' q hI'' => ⟨s', hI'', q⟩
  · have ei : i = xs.length := by omega
    subst ei
    rw [List.drop_length] at hw
    exact .inl ⟨(w s).sp σ H hI, done s σ H hw hI⟩
/-- .. whose turns may leave it -/
theorem for_walkF {J : It} {I : τ → St → Hp → Prop} {im : Hp → V → α → Prop} {xs : List α} {f : τ → α → R (Fl τ ρ)} {k : Fl τ ρ → Prop} {e : Exc → Prop} {s : τ}
    (w : ∀ s, Wk J (I s) im xs) (h0 : I s σ H) (hm : R.wp (forF f xs s) k e)
    (turn : ∀ (s : τ) (x : α) (v : V) (σ : St) (H : Hp) (q : Fl τ ρ → Prop) (N B : St → Hp → Prop), I s σ H → im H v x → R.wp (f s x) q e → (∀ s' σ' H', q (.go s') → I s' σ' H' → N σ' H') → (∀ s' σ' H', q (.brk s') → I s' σ' H' → B σ' H') → (∀ r, q (.out r) → k (.out r)) →
      g v σ H fun σ2 H2 => tb { D with nx := N, ct := N, bk := B } σ2 H2)
    (done : ∀ s σ H, k (.go s) → I s σ H → D.nx σ H) :
    ∃ W : Nat → Nat → St → Hp → Prop, (∃ m, W 0 m σ H) ∧ ∀ i m σ H, W i m σ H →
      (J.stop i H ∧ D.nx σ H) ∨ (J.go i H ∧ ∃ N : St → Hp → Prop, (∀ σ' H', N σ' H' → ∃ m', m' < m ∧ W (i + 1) m' σ' H') ∧ ∀ x H', J.yld i H x H' → g x σ H' fun σ2 H2 => tb { D with nx := N, ct := N, bk := D.nx } σ2 H2) := by
  refine ⟨fun i m σ H => m = xs.length - i ∧ i ≤ xs.length ∧ ∃ s, I s σ H ∧ R.wp (forF f (xs.drop i) s) k e, ⟨xs.length, by simp, Nat.zero_le _, s, h0, by simpa using hm⟩, ?_⟩
  rintro i m σ H ⟨rfl, hi, s, hI, hw⟩
  by_cases c : i < xs.length
  · have ed : xs.drop i = xs[i] :: xs.drop (i + 1) := List.drop_eq_getElem_cons c
    rw [ed] at hw
    refine .inr ⟨(w s).go i σ H hI c, fun σ' H' => ∃ s', I s' σ' H' ∧ R.wp (forF f (xs.drop (i + 1)) s') k e, fun σ' H' ⟨s', h1, h2⟩ => ⟨xs.length - (i + 1), by omega, rfl, c, s', h1, h2⟩, fun v H' y => ?_⟩
    obtain ⟨hI', hv⟩ := (w s).yl i σ H v H' xs[i] hI (List.getElem?_eq_getElem c) y
    have hw' := R.wp_bind hw
    exact turn s xs[i] v σ H' _ _ _ hI' hv hw' (fun s' σ' H'' q hI'' => ⟨s', hI'', q⟩) (fun s' σ' H'' q hI'' => done s' σ' H'' q hI'') fun r q => q
  · have ei : i = xs.length := by omega
    subst ei
    rw [List.drop_length] at hw
    exact .inl ⟨(w s).sp σ H hI, done s σ H hw hI⟩
/-- a comprehension -/
theorem lc_walk {J : It} {I : Addr → τ → List β → Hp → Prop} {im : Hp → V → α → Prop} [Im G β] {xs : List α} {f : τ → α → R (τ × Option β)} {k : τ × List β → Prop} {e : Exc → Prop} {s : τ} {tt : TT} {te : TE} {vs : List Nat} {Q : VK} {Dr : Addr}
    (w : ∀ s ys, Wk J (fun _ H => I Dr s ys H) im xs) (h0 : I Dr s [] (upd H Dr (.lst []))) (hm : R.wp (compR f xs s) k e) (hl : xs.length ≤ sizeLine)
    (turn : ∀ (s : τ) (ys : List β) (x : α) (v : V) (H : Hp) (q : τ × Option β → Prop) (Nx : Hp → Prop), I Dr s ys H → im H v x → R.wp (f s x) q e → ys.length < sizeLine →
      (∀ s' y u H', q (s', some y) → Im.im G H' u y → I Dr s' ys H' → ∃ acc, H' Dr = some (.lst acc) ∧ acc.length < sizeLine ∧ Nx (upd H' Dr (.lst (acc ++ [u])))) → (∀ s' H', q (s', none) → I Dr s' ys H' → Nx H') →
      g v (wipe σ vs) H fun σ2 H2 => wipe σ2 vs = wipe σ vs ∧ tt σ2 H2 fun b H3 => if b = true then te σ2 H3 fun y H4 => ∃ acc, H4 Dr = some (.lst acc) ∧ acc.length < sizeLine ∧ Nx (upd H4 Dr (.lst (acc ++ [y]))) else Nx H3)
    (app : ∀ s ys y u H, I Dr s ys H → Im.im G H u y → ∃ acc, H Dr = some (.lst acc) ∧ acc.length = ys.length ∧ I Dr s (ys ++ [y]) (upd H Dr (.lst (acc ++ [u]))))
    (done : ∀ s ys H, k (s, ys) → I Dr s ys H → Q (.ref Dr) H) :
    ∃ W : Nat → Nat → Hp → Prop, (∃ m, W 0 m (upd H Dr (.lst []))) ∧ ∀ i m H, W i m H →
      (J.stop i H ∧ Q (.ref Dr) H) ∨ (J.go i H ∧ ∃ Nx : Hp → Prop, (∀ H', Nx H' → ∃ m', m' < m ∧ W (i + 1) m' H') ∧ ∀ x H', J.yld i H x H' → g x (wipe σ vs) H' fun σ2 H2 => wipe σ2 vs = wipe σ vs ∧ tt σ2 H2 fun b H3 =>
        if b = true then te σ2 H3 fun y H4 => ∃ acc, H4 Dr = some (.lst acc) ∧ acc.length < sizeLine ∧ Nx (upd H4 Dr (.lst (acc ++ [y]))) else Nx H3) := by
  refine ⟨fun i m H => m = xs.length - i ∧ i ≤ xs.length ∧ ∃ s ys, ys.length ≤ i ∧ I Dr s ys H ∧ R.wp (compR f (xs.drop i) s) (fun t => k (t.1, ys ++ t.2)) e, ⟨xs.length, by simp, Nat.zero_le _, s, [], Nat.le_refl _, h0, by simpa using hm⟩, ?_⟩
  rintro i m H ⟨rfl, hi, s, ys, hy, hI, hw⟩
  by_cases c : i < xs.length
  · have ed : xs.drop i = xs[i] :: xs.drop (i + 1) := List.drop_eq_getElem_cons c
    rw [ed] at hw
    refine .inr ⟨(w s ys).go i [] H hI c, fun H' => ∃ s' ys', ys'.length ≤ i + 1 ∧ I Dr s' ys' H' ∧ R.wp (compR f (xs.drop (i + 1)) s') (fun t => k (t.1, ys' ++ t.2)) e,
      fun H' ⟨s', ys', h0, h1, h2⟩ => ⟨xs.length - (i + 1), by omega, rfl, c, s', ys', h0, h1, h2⟩, fun v H' y => ?_⟩
    obtain ⟨hI', hv⟩ := (w s ys).yl i [] H v H' xs[i] hI (List.getElem?_eq_getElem c) y
    have hw' := R.wp_bind hw
    refine turn s ys xs[i] v H' _ _ hI' hv hw' (by omega) (fun s' y u H'' q hu hI'' => ?_) (fun s' H'' q hI'' => ?_)
    · have q' := R.wp_bind q
      obtain ⟨acc, ea, la, hI3⟩ := app s' ys y u H'' hI'' hu
      refine ⟨acc, ea, by omega, s', ys ++ [y], by simp; omega, hI3, ?_⟩
      refine R.wp_mono q' (fun t ht => ?_) fun _ z => z
      have ht' : k (t.1, ys ++ y :: t.2) := ht
      rw [List.append_assoc]; exact ht'
    · have q' := R.wp_bind q
      exact ⟨s', ys, by omega, hI'', R.wp_mono q' (fun t ht => ht) fun _ z => z⟩
  · have ei : i = xs.length := by omega
    subst ei
    rw [List.drop_length] at hw
    have hw : k (s, ys ++ []) := hw
    rw [List.append_nil] at hw
    exact .inl ⟨(w s ys).sp [] H hI, done s ys H hw hI⟩
end
end Ml
namespace Ml
open PySem L2
variable {G : Gx}
def idxR {α : Type} (xs : List α) (i : Int) : R α := match atI xs i with
  | some x => .ok x
  | none => .bad
theorem wp_idx {α ρ : Type} {xs : List α} {i : Int} {f : α → R ρ} {q : ρ → Prop} {e : Exc → Prop} (h : R.wp ((idxR xs i).bind f) q e) : ∃ x, atI xs i = some x ∧ R.wp (f x) q e := by
  unfold idxR at h
  cases c : atI xs i with
  | some x => rw [c] at h; exact ⟨x, rfl, h⟩
  | none => rw [c] at h; exact h.elim
theorem atI_map {α β : Type} {xs : List α} {f : α → β} {i : Int} {x : α} (h : atI xs i = some x) : atI (xs.map f) i = some (f x) := by
  unfold atI at h ⊢
  rw [List.length_map]
  cases e : ixN xs.length i with
  | none => rw [e] at h; cases h
  | some j =>
    rw [e] at h
    show (xs.map f)[j]? = some (f x)
    have h : xs[j]? = some x := h
    rw [List.getElem?_map, h]; rfl
theorem atI_im {α : Type} [Im G α] {H : Hp} {vs : List V} {xs : List α} {i : Int} {x : α} (m : imL (G := G) H vs xs) (h : atI xs i = some x) : ∃ v, atI vs i = some v ∧ Im.im G H v x := by
  unfold atI at h ⊢
  rw [m.len]
  cases e : ixN xs.length i with
  | none => rw [e] at h; cases h
  | some j =>
    rw [e] at h
    exact m.get h
theorem atI_ok {α : Type} {xs : List α} {i : Int} (h0 : 0 ≤ i) (h1 : i < xs.length) : ∃ x, xs[i.toNat]? = some x ∧ atI xs i = some x := by
  have hj : i.toNat < xs.length := by omega
  refine ⟨xs[i.toNat], List.getElem?_eq_getElem hj, ?_⟩
  unfold atI ixN
  rw [if_pos h0, if_pos h1]
  exact List.getElem?_eq_getElem hj
theorem idxR_ok {α : Type} {xs : List α} {i : Int} {x : α} (h0 : 0 ≤ i) (h1 : xs[i.toNat]? = some x) : idxR xs i = .ok x := by
  have hl : i.toNat < xs.length := (List.getElem?_eq_some_iff.mp h1).1
  obtain ⟨y, hy, h⟩ := atI_ok (xs := xs) h0 (by omega)
  rw [h1] at hy; cases hy
  unfold idxR; rw [h]
/-- one sign as a text -/
abbrev sg (c : Nat) : Str := ⟨#[c]⟩
def mulOk (i j : Int) : Prop := (-(2 ^ 64) < i ∧ i < 2 ^ 64) ∨ (-(2 ^ 64) < j ∧ j < 2 ^ 64)
instance (i j : Int) : Decidable (mulOk i j) := by unfold mulOk; infer_instance
def rngL (lo : Int) (n : Nat) : List Int := (List.range n).map fun (i : Nat) => lo + (i : Int)
theorem rngL_len (lo : Int) (n : Nat) : (rngL lo n).length = n := by simp [rngL]
theorem rngL_get {lo : Int} {n i : Nat} {x : Int} (h : (rngL lo n)[i]? = some x) : x = lo + (i : Int) ∧ i < n := by
  have hl : i < (rngL lo n).length := (List.getElem?_eq_some_iff.mp h).1
  rw [rngL_len] at hl
  unfold rngL at h
  rw [List.getElem?_map, List.getElem?_range hl] at h
  exact ⟨(Option.some.inj h).symm, hl⟩
section
variable {α τ : Type} {I : St → Hp → Prop} {K : PySem.W.Frag} {a : Addr}
theorem wk_list [Im G α] {xs : List α} (h : ∀ σ H, I σ H → ∃ vs, SqL K H a vs ∧ imL (G := G) H vs xs) : Wk (Itl K a) I (Im.im G) xs where
  go := fun i σ H hI hi => by
    obtain ⟨vs, s, m⟩ := h σ H hI
    have hl : i < vs.length := by rw [m.len]; exact hi
    exact ⟨vs, vs[i], s, List.getElem?_eq_getElem hl⟩
  yl := fun i σ H v H' x hI hx y => by
    obtain ⟨vs, s, m⟩ := h σ H hI
    obtain ⟨rfl, y⟩ := y
    obtain ⟨u, hu, im⟩ := m.get hx
    have e := y vs s
    rw [hu] at e; cases e
    exact ⟨hI, im⟩
  sp := fun σ H hI => by
    obtain ⟨vs, s, m⟩ := h σ H hI
    exact ⟨vs, s, by rw [m.len]; exact Nat.le_refl _⟩
theorem wk_range {lo : Int} {n : Nat} : Wk (Itr lo n) I (fun _ v (x : Int) => v = .int x) (rngL lo n) where
  go := fun i σ H _ hi => by rw [rngL_len] at hi; exact hi
  yl := fun i σ H v H' x hI hx y => by
    obtain ⟨rfl, y⟩ := y
    obtain ⟨e, _⟩ := rngL_get hx
    exact ⟨hI, by rw [y, e]⟩
  sp := fun σ H _ => by rw [rngL_len]; exact Nat.le_refl _
end
theorem Sep.sq {α : Type} [Im G α] {H : Hp} {L : List (Asn G)} (h : Sep H L) {i : Nat} {a : Addr} {xs : List α} (e : L[i]? = some (lstA a xs)) : ∃ vs, SqL G.K H a vs ∧ imL (G := G) H vs xs := by
  obtain ⟨vs, e, m⟩ := h.lst e
  exact ⟨vs, .inl (.inl e), m⟩
theorem Sep.sqF {α : Type} [Fv G α] {H : Hp} {L : List (Asn G)} (h : Sep H L) {i : Nat} {a : Addr} {xs : List α} (e : L[i]? = some (lstA a xs)) : SqL G.K H a (xs.map (Fv.enc G)) := by
  obtain ⟨vs, e, m⟩ := h.sq e
  rw [imL.flat.mp m] at e
  exact e
section
variable {σ σ' : St} {H : Hp} {L L' : List (Asn G)} {D : Ends} {Q : VK} {te ta tb : TE} {α β : Type}
theorem c_op {r : R2} (h : ta σ H fun x H1 => tb σ H1 fun y H2 => r x y H2 Q) : tOp r ta tb σ H Q := h
theorem c_cons {tr : TA} {P : List V → Hp → Prop} (h : ta σ H fun x H1 => tr σ H1 fun xs H2 => P (x :: xs) H2) : tCons ta tr σ H P := h
theorem c_nil {P : List V → Hp → Prop} (h : P [] H) : tNil σ H P := h
theorem c_call {sp : Sp} {dvs : List V} {E : XK} {t : TA} (h : t σ H fun vs H1 => sp (vs ++ dvs) H1 Q E) : tCall sp dvs E t σ H Q := h
theorem c_cb {r : List V → Hp → VK → Prop} {t : TA} (h : t σ H fun vs H1 => r vs H1 Q) : tCB r t σ H Q := h
theorem c_asg {i : Nat} (h : te σ H fun v H1 => D.nx (σ.set i (some v)) H1) : tAsg te (gName i) D σ H := h
theorem c_ret (h : te σ H D.rt) : tRet te D σ H := h
theorem c_drop (h : te σ H fun _ H1 => D.nx σ H1) : tDrop te D σ H := h
theorem c_set {i : Nat} {v : V} (e : σ.set i (some v) = σ') (h : D.nx σ' H) : D.nx (σ.set i (some v)) H := by rw [e]; exact h
/-- a new list of written items -/
def lstK (Q : VK) : List V → Hp → Prop := fun xs H1 => xs.length ≤ sizeLine ∧ ∀ p, H1 p = none → Q (.ref p) (upd H1 p (.lst xs))
def tupK (Q : VK) : List V → Hp → Prop := fun xs H1 => xs.length ≤ sizeLine ∧ ∀ p, H1 p = none → Q (.ref p) (upd H1 p (.tup xs))
theorem k_lst [Im G α] {vs : List V} {xs : List α} (hS : Sep H L) (m : imL (G := G) H vs xs) (z : vs.length ≤ sizeLine) (k : ∀ p H', Sep H' (lstA p xs :: L) → Q (.ref p) H') :
    lstK Q vs H := ⟨z, fun p hp => k p _ (hS.newL hp m)⟩
theorem c_lst {t : TA} (h : t σ H (lstK Q)) : tLst t σ H Q := h
theorem c_tup {t : TA} (h : t σ H (tupK Q)) : tTup t σ H Q := h
theorem c_bm {K : PySem.W.Frag} {T : String} {r : V → List V → Hp → VK → Prop} {to : TE} {t : TA} (h : to σ H fun x H1 => tyV K T x H1 ∧ t σ H1 fun xs H2 => r x xs H2 Q) : tBM K T r to t σ H Q := h
theorem tyL [Im G α] {i : Nat} {a : Addr} {xs : List α} (hS : Sep H L) (e : L[i]? = some (lstA a xs)) : tyV G.K "list" (.ref a) H := by
  obtain ⟨vs, h, _⟩ := hS.sq e
  exact .inl ⟨rfl, vs, h⟩
theorem k_append [Im G α] {i : Nat} {a : Addr} {xs : List α} {x : α} {v : V} (hS : Sep H L) (e : L[i]? = some (lstA a xs)) (hv : Im.im G H v x) (z : xs.length < sizeLine) (e2 : L.set i (lstA a (xs ++ [x])) = L')
    (k : ∀ H', Sep H' L' → Q .non H') : rAppend (.ref a) [v] H Q := by
  obtain ⟨vs, h, m⟩ := hS.lst e
  refine ⟨a, vs, v, rfl, rfl, h, by rw [m.len]; exact z, k _ ?_⟩
  subst e2
  exact hS.putL e (m.app (vs := vs) (ws := [v]) ⟨hv, True.intro⟩)
def cutL (xs : List α) (lo hi : Option Int) : List α := (xs.drop (HT.sIx xs.length 0 lo)).take (HT.sIx xs.length xs.length hi - HT.sIx xs.length 0 lo)
theorem cutL_im [Im G α] {vs : List V} {xs : List α} {lo hi : Option Int} (m : imL (G := G) H vs xs) : imL (G := G) H (cutV vs lo hi) (cutL xs lo hi) := by
  unfold cutV cutL
  rw [m.len]
  exact (m.drop _).take _
theorem c_sl {r : V → Option Int → Option Int → Hp → VK → Prop} {tl th : TO} (h : te σ H fun x H1 => tl σ H1 fun l H2 => th σ H2 fun u H3 => r x l u H3 Q) : tSl r te tl th σ H Q := h
end
end Ml
namespace Ml
open PySem L2
variable {G : Gx}
section
variable {κ β : Type} [DecidableEq κ]
def dget (kvs : List (κ × β)) (k : κ) : Option β := (kvs.find? fun kv => decide (kv.1 = k)).map (·.2)
def dput (kvs : List (κ × β)) (k : κ) (v : β) : List (κ × β) :=
  if (kvs.any fun kv => decide (kv.1 = k)) = true then kvs.map (fun kv => if kv.1 = k then (kv.1, v) else kv) else kvs ++ [(k, v)]
def ddrop (kvs : List (κ × β)) (k : κ) : List (κ × β) := kvs.filter fun kv => decide (kv.1 ≠ k)
def dhas (kvs : List (κ × β)) (k : κ) : Bool := (dget kvs k).isSome
end
class Kx (κ : Type) where
  key : κ → Key
  inj : ∀ {a b : κ}, key a = key b → a = b
instance : Kx Int := ⟨Sum.inl, fun h => Sum.inl.inj h⟩
instance : Kx Str := ⟨Sum.inr, fun h => Sum.inr.inj h⟩
section
variable {κ β : Type} [DecidableEq κ] [Kx κ] [Im G β]
def imD (H : Hp) : List (Key × V) → List (κ × β) → Prop
  | [], [] => True
  | p :: ps, q :: qs => (p.1 = Kx.key q.1 ∧ Im.im G H p.2 q.2) ∧ imD H ps qs
  | _, _ => False
variable {H H' : Hp}
theorem imD.st : ∀ {ps : List (Key × V)} {qs : List (κ × β)}, imD (G := G) H ps qs → Stab G H H' → imD (G := G) H' ps qs
  | [], [], _, _ => True.intro
  | p :: ps, q :: qs, h, s => ⟨⟨h.1.1, Im.st h.1.2 s⟩, imD.st h.2 s⟩
  | [], _ :: _, h, _ => h
  | _ :: _, [], h, _ => h
theorem imD.len : ∀ {ps : List (Key × V)} {qs : List (κ × β)}, imD (G := G) H ps qs → ps.length = qs.length
  | [], [], _ => rfl
  | p :: ps, q :: qs, h => by rw [List.length_cons, List.length_cons, imD.len h.2]
  | [], _ :: _, h => h.elim
  | _ :: _, [], h => h.elim
theorem key_dec (a b : κ) : decide (Kx.key a = Kx.key b) = decide (a = b) := by
  by_cases h : a = b
  · subst h; simp
  · have : ¬ Kx.key a = Kx.key b := fun e => h (Kx.inj e)
    simp [h, this]
theorem imD.val : ∀ {ps : List (Key × V)} {qs : List (κ × β)} (k : κ), imD (G := G) H ps qs → (∀ y, dget qs k = some y → ∃ v, valV ps (Kx.key k) = some v ∧ Im.im G H v y) ∧ (dget qs k = none → valV ps (Kx.key k) = none)
  | [], [], _, _ => ⟨fun y e => (by cases (show (none : Option β) = some y from e)), fun _ => rfl⟩
  | p :: ps, q :: qs, k, ⟨⟨e1, e2⟩, h⟩ => by
    have ih := imD.val k h
    by_cases c : q.1 = k
    · have c1 : p.1 = Kx.key k := by rw [e1, c]
      have d : dget (q :: qs) k = some q.2 := by simp [dget, List.find?_cons, c]
      rw [d, valV_pos c1]
      exact ⟨fun y e => ⟨p.2, rfl, by cases e; exact e2⟩, fun e => by cases e⟩
    · have c1 : ¬ p.1 = Kx.key k := fun z => c (Kx.inj (e1.symm.trans z))
      have d : dget (q :: qs) k = dget qs k := by simp [dget, List.find?_cons, c]
      rw [d, valV_neg c1]
      exact ih
  | [], _ :: _, _, h => h.elim
  | _ :: _, [], _, h => h.elim
theorem imD.any : ∀ {ps : List (Key × V)} {qs : List (κ × β)} (k : κ), imD (G := G) H ps qs → (ps.any fun kv => decide (kv.1 = Kx.key k)) = qs.any fun kv => decide (kv.1 = k)
  | [], [], _, _ => rfl
  | p :: ps, q :: qs, k, ⟨⟨e1, e2⟩, h⟩ => by
    rw [List.any_cons, List.any_cons, imD.any k h, e1, key_dec]
  | [], _ :: _, _, h => h.elim
  | _ :: _, [], _, h => h.elim
theorem imD.app : ∀ {ps rs : List (Key × V)} {qs ts : List (κ × β)}, imD (G := G) H ps qs → imD (G := G) H rs ts → imD (G := G) H (ps ++ rs) (qs ++ ts)
  | [], _, [], _, _, h => h
  | _ :: _, _, _ :: _, _, h, k => ⟨h.1, imD.app h.2 k⟩
  | [], _, _ :: _, _, h, _ => h.elim
  | _ :: _, _, [], _, h, _ => h.elim
theorem imD.rep : ∀ {ps : List (Key × V)} {qs : List (κ × β)} {k : κ} {v : V} {y : β}, imD (G := G) H ps qs → Im.im G H v y →
    imD (G := G) H (ps.map fun kv => if kv.1 = Kx.key k then (kv.1, v) else kv) (qs.map fun kv => if kv.1 = k then (kv.1, y) else kv)
  | [], [], _, _, _, _, _ => True.intro
  | p :: ps, q :: qs, k, v, y, ⟨⟨e1, e2⟩, h⟩, hv => by
    refine ⟨?_, imD.rep h hv⟩
    show (if p.1 = Kx.key k then (p.1, v) else p).1 = Kx.key (if q.1 = k then (q.1, y) else q).1 ∧ Im.im G H (if p.1 = Kx.key k then (p.1, v) else p).2 (if q.1 = k then (q.1, y) else q).2
    by_cases c : q.1 = k
    · have c1 : p.1 = Kx.key k := by rw [e1, c]
      rw [if_pos c, if_pos c1]; exact ⟨e1, hv⟩
    · have c1 : ¬ p.1 = Kx.key k := fun z => c (Kx.inj (e1.symm.trans z))
      rw [if_neg c, if_neg c1]; exact ⟨e1, e2⟩
  | [], _ :: _, _, _, _, h, _ => h.elim
  | _ :: _, [], _, _, _, h, _ => h.elim
theorem imD.put {ps : List (Key × V)} {qs : List (κ × β)} {k : κ} {v : V} {y : β} (h : imD (G := G) H ps qs) (hv : Im.im G H v y) : imD (G := G) H (putK ps (Kx.key k) v) (dput qs k y) := by
  unfold putK dput
  rw [h.any k]
  split
  · exact h.rep hv
  · exact h.app (rs := [(Kx.key k, v)]) (ts := [(k, y)]) ⟨⟨rfl, hv⟩, True.intro⟩
theorem imD.drop : ∀ {ps : List (Key × V)} {qs : List (κ × β)} (k : κ), imD (G := G) H ps qs → imD (G := G) H (dropK ps (Kx.key k)) (ddrop qs k)
  | [], [], _, _ => True.intro
  | p :: ps, q :: qs, k, ⟨⟨e1, e2⟩, h⟩ => by
    have ih := imD.drop k h
    unfold dropK ddrop at ih ⊢
    rw [List.filter_cons, List.filter_cons]
    by_cases c : q.1 = k
    · have c1 : p.1 = Kx.key k := by rw [e1, c]
      simp only [c, c1, ne_eq, not_true_eq_false, decide_false, Bool.false_eq_true, if_false]
      exact ih
    · have c1 : ¬ p.1 = Kx.key k := fun z => c (Kx.inj (e1.symm.trans z))
      simp only [c, c1, ne_eq, not_false_eq_true, decide_true, if_true]
      exact ⟨⟨e1, e2⟩, ih⟩
  | [], _ :: _, _, h => h.elim
  | _ :: _, [], _, h => h.elim
theorem imD.keys : ∀ {ps : List (Key × V)} {qs : List (κ × β)}, imD (G := G) H ps qs → ps.map (·.1) = qs.map fun q => Kx.key q.1
  | [], [], _ => rfl
  | p :: ps, q :: qs, h => by rw [List.map_cons, List.map_cons, imD.keys h.2, h.1.1]
  | [], _ :: _, h => h.elim
  | _ :: _, [], h => h.elim
def dictA (a : Addr) (kvs : List (κ × β)) : Asn G := ⟨fun H fp => fp = [a] ∧ ∃ ps, H a = some (.dK ps) ∧ imD (G := G) H ps kvs,
  fun H H' fp ⟨e, ps, h, m⟩ k s => ⟨e, ps, by rw [k a (by rw [e]; simp)]; exact h, m.st s⟩⟩
variable {L L' : List (Asn G)}
theorem Sep.dict (h : Sep H L) {i : Nat} {a : Addr} {kvs : List (κ × β)} (e : L[i]? = some (dictA a kvs)) : ∃ ps, H a = some (.dK ps) ∧ imD (G := G) H ps kvs := by
  obtain ⟨fp, _, x⟩ := h.at e
  exact x
theorem Sep.newD (h : Sep H L) {p : Addr} (hp : H p = none) : Sep (upd H p (.dK [])) (dictA p ([] : List (κ × β)) :: L) :=
  (h.new (o := .dK []) hp rfl).view fun fp ⟨q, r⟩ => ⟨q, [], r, True.intro⟩
theorem Sep.putD (h : Sep H L) {i : Nat} {a : Addr} {xs ys : List (κ × β)} {ps : List (Key × V)} (e : L[i]? = some (dictA a xs)) (m : imD (G := G) H ps ys) : Sep (upd H a (.dK ps)) (L.set i (dictA a ys)) := by
  obtain ⟨us, e0, mu⟩ := h.dict e
  have h1 : Sep H (L.set i (cell a (.dK us))) := h.viewAt e fun fp ⟨q, _⟩ => ⟨q, e0⟩
  have e1 := get_set (y := cell (G := G) a (.dK us)) e
  have h2 := h1.put (o' := .dK ps) e1 rfl rfl
  rw [set_set] at h2
  have st : Stab G H (upd H a (.dK ps)) := stab_put (h1.getCell e1) rfl rfl
  have h3 := h2.viewAt (B := dictA a ys) (get_set e) fun fp ⟨q, r⟩ => ⟨q, ps, r, m.st st⟩
  rw [set_set] at h3
  exact h3
variable {σ : St} {Q : VK} {td ty tx : TE} {k : κ} {a : Addr} {xs : List (κ × β)} {i : Nat}
theorem k_dnew (hS : Sep H L) (q : ∀ p H', Sep H' (dictA p ([] : List (κ × β)) :: L) → Q (.ref p) H') : tDNewK σ H Q := fun p hp => q p _ (hS.newD hp)
theorem dget_at (hS : Sep H L) (e : L[i]? = some (dictA a xs)) {o : Option β} (ho : dget xs k = o) : ∃ r, DGet H a (kV (Kx.key k)) r ∧ (∀ y, o = some y → ∃ v, r = some v ∧ Im.im G H v y) ∧ (o = none → r = none) := by
  obtain ⟨ps, h, m⟩ := hS.dict e
  obtain ⟨v1, v2⟩ := m.val k
  exact ⟨_, DGet.k h, fun y q => v1 y (ho.trans q), fun q => v2 (ho.trans q)⟩
theorem ev_din (hS : Sep H L) (e : L[i]? = some (dictA a xs)) (hy : Ev ty σ H (kV (Kx.key k))) (hd : Ev td σ H (.ref a)) : Ev (tDIn ty td) σ H (.bl (dhas xs k)) := fun Q q => hy _ (hd _ (by
  obtain ⟨r, g, h1, h2⟩ := dget_at hS e (k := k) rfl
  refine ⟨a, r, rfl, g, ?_⟩
  have : r.isSome = dhas xs k := by
    unfold dhas
    cases c : dget xs k with
    | none => rw [h2 c]; rfl
    | some y => obtain ⟨v, e, _⟩ := h1 y c; rw [e]; rfl
  rw [this]; exact q))
theorem ev_dnotin (hS : Sep H L) (e : L[i]? = some (dictA a xs)) (hy : Ev ty σ H (kV (Kx.key k))) (hd : Ev td σ H (.ref a)) : Ev (tDNotIn ty td) σ H (.bl (!dhas xs k)) := fun Q q => hy _ (hd _ (by
  obtain ⟨r, g, h1, h2⟩ := dget_at hS e (k := k) rfl
  refine ⟨a, r, rfl, g, ?_⟩
  have : r.isSome = dhas xs k := by
    unfold dhas
    cases c : dget xs k with
    | none => rw [h2 c]; rfl
    | some y => obtain ⟨v, e, _⟩ := h1 y c; rw [e]; rfl
  rw [this]; exact q))
theorem isD_of (hS : Sep H L) (e : L[i]? = some (dictA a xs)) : IsD H a := by
  obtain ⟨ps, h, _⟩ := hS.dict e
  exact .inl ⟨ps, .inl h⟩
end
class Lay (α : Type) where
  lay : α → Bool
instance : Lay Int := ⟨fun _ => true⟩
instance : Lay Bool := ⟨fun _ => true⟩
instance : Lay Str := ⟨fun x => PyData.strOk x⟩
def layAllB {α : Type} [Lay α] (xs : List α) : Bool := xs.all Lay.lay
class Pd (G : Gx) (α : Type) [Im G α] [DecidableEq α] [Lay α] where
  pd : α → PyData
  dep : Nat
  dp : ∀ {H : Hp} {v : V} {x : α}, Im.im G H v x → Dp G.K H v (pd x)
  lay_ok : ∀ x, Lay.lay x = true → (pd x).canLay0 = true
  dep_ok : ∀ x, (pd x).depth ≤ dep
  eqv : ∀ x y, PyData.eqv (pd x) (pd y) = decide (x = y)
instance pInt : Pd G Int where
  pd := .int
  dep := 0
  dp := fun {H v x} h => by
    have h : v = .int x := h
    subst h; exact .int x
  lay_ok := fun _ _ => rfl
  dep_ok := fun _ => Nat.le_refl _
  eqv := fun x y => by
    show (x == y) = decide (x = y)
    rfl
instance pBool : Pd G Bool where
  pd := .bool
  dep := 0
  dp := fun {H v x} h => by
    have h : v = .bl x := h
    subst h; exact .bl x
  lay_ok := fun _ _ => rfl
  dep_ok := fun _ => Nat.le_refl _
  eqv := fun x y => by cases x <;> cases y <;> rfl
theorem str_beq (x y : Str) : (x == y) = decide (x = y) := by
  by_cases h : x = y
  · subst h; simp
  · simp [h]
instance pStr : Pd G Str where
  pd := .str
  dep := 0
  dp := fun {H v x} h => by
    have h : v = .str x := h
    subst h; exact .str x
  lay_ok := fun _ h => h
  dep_ok := fun _ => Nat.le_refl _
  eqv := fun x y => str_beq x y
section
variable {α : Type} [Im G α] [DecidableEq α] [Lay α] [Pd G α] {H : Hp} {L : List (Asn G)}
theorem dpAll : ∀ {vs : List V} {xs : List α}, imL (G := G) H vs xs → DpAll G.K H vs (xs.map (Pd.pd G))
  | [], [], _ => .nil
  | v :: vs, x :: xs, h => .cons (Pd.dp h.1) (dpAll h.2)
  | [], _ :: _, h => h.elim
  | _ :: _, [], h => h.elim
theorem layAll : ∀ {xs : List α}, layAllB xs = true → PyData.canLayAll0 (xs.map (Pd.pd G)) = true
  | [], _ => rfl
  | x :: xs, h => by
    unfold layAllB at h
    rw [List.all_cons, Bool.and_eq_true] at h
    show ((Pd.pd G x).canLay0 && PyData.canLayAll0 (xs.map (Pd.pd G))) = true
    rw [Pd.lay_ok x h.1, layAll h.2]; rfl
theorem depAll : ∀ (xs : List α), PyData.depthAll (xs.map (Pd.pd G)) ≤ Pd.dep G α
  | [] => Nat.zero_le _
  | x :: xs => by
    show max (Pd.pd G x).depth (PyData.depthAll (xs.map (Pd.pd G))) ≤ _
    exact Nat.max_le.mpr ⟨Pd.dep_ok x, depAll xs⟩
theorem eqvAll_is : ∀ (xs ys : List α), PyData.eqvAll (xs.map (Pd.pd G)) (ys.map (Pd.pd G)) = decide (xs = ys)
  | [], [] => rfl
  | x :: xs, y :: ys => by
    show (PyData.eqv (Pd.pd G x) (Pd.pd G y) && PyData.eqvAll (xs.map (Pd.pd G)) (ys.map (Pd.pd G))) = _
    rw [Pd.eqv, eqvAll_is xs ys]
    simp
  | [], _ :: _ => rfl
  | _ :: _, [] => rfl
variable {a b : Addr} {xs ys : List α} {i j : Nat} {σ : St} {ta tb : TE}
end
section
variable {H : Hp} {L : List (Asn G)} {σ : St} {ta tb : TE} {a : Addr} {i : Nat}
theorem ev_isi {x : V} {T U : String} {b : Bool} (ha : Ev ta σ H x) (hb : Ev tb σ H (.ty U)) (t : TyX G.K H x (.type T)) (e : kitB T U = some b) : Ev (tCB (rIsi G.K) (tCons ta (tCons tb tNil))) σ H (.bl b) :=
  ev_cb (ea_cons ha (ea_cons hb ea_nil)) fun Q q => ⟨x, .ty U, _, _, b, rfl, .ty U, t, kit_ty e, q⟩
theorem ty_lst {α : Type} [Im G α] {xs : List α} (hS : Sep H L) (e : L[i]? = some (lstA a xs)) : TyX G.K H (.ref a) (.type "list") := by
  obtain ⟨vs, h, _⟩ := hS.lst e
  exact .base (.lst h)
end
end Ml
namespace Ml
open PySem L2
variable {G : Gx}
section
variable {σ σ' : St} {H : Hp} {L L' M : List (Asn G)} {D : Ends} {Q : VK} {te : TE} {tt : TT} {tb : TS} {α β τ ρ : Type} {i : Nat} {v : V} {vs : List Nat}
theorem c_gN {P : St → Hp → Prop} (e : σ.set i (some v) = σ') (h : P σ' H) : gName i v σ H P := by
  show P (σ.set i (some v)) H
  rw [e]; exact h
theorem c_gLc {P : Bool → Hp → Prop} (e : (wipe σ vs).set i (some v) = σ') (hw : wipe σ' vs = wipe σ vs) (h : tt σ' H P) : gName i v (wipe σ vs) H fun σ2 H2 => wipe σ2 vs = wipe σ vs ∧ tt σ2 H2 P := by
  show wipe ((wipe σ vs).set i (some v)) vs = wipe σ vs ∧ tt ((wipe σ vs).set i (some v)) H P
  rw [e]; exact ⟨hw, h⟩
theorem c_yes {A B : Hp → Prop} (h : A H) : tYes σ H fun b H3 => if b = true then A H3 else B H3 := h
theorem lc_app [Im G β] {Dr : Addr} {ys : List β} {y : β} {u : V} (hS : Sep H (lstA Dr ys :: M)) (hu : Im.im G H u y) : ∃ acc, H Dr = some (.lst acc) ∧ acc.length = ys.length ∧ Sep (upd H Dr (.lst (acc ++ [u]))) (lstA Dr (ys ++ [y]) :: M) := by
  obtain ⟨acc, h, m⟩ := hS.lst (i := 0) rfl
  exact ⟨acc, h, m.len, hS.putL (i := 0) rfl (m.app (vs := acc) (ws := [u]) ⟨hu, True.intro⟩)⟩
theorem st_nx (h : D.nx σ H) : tNext D σ H := h
def sq (t : TS) (D : Ends) : Ends := { D with nx := t D }
theorem f_seq {t1 t2 : TS} (h : t1 (sq t2 D) σ H) : tSeq t1 t2 D σ H := h
theorem sq_nx {t2 : TS} (h : t2 D σ H) : (sq t2 D).nx σ H := h
def forK (g : TG) (tb : TS) (D : Ends) (σ : L2.St) : It → Hp → Prop := fun J H1 => ∃ W : Nat → Nat → L2.St → Hp → Prop, (∃ m, W 0 m σ H1) ∧ ∀ i m σ H, W i m σ H →
  (J.stop i H ∧ D.nx σ H) ∨ (J.go i H ∧ ∃ N : L2.St → Hp → Prop, (∀ σ' H', N σ' H' → ∃ m', m' < m ∧ W (i + 1) m' σ' H') ∧ ∀ x H', J.yld i H x H' → g x σ H' fun σ2 H2 => tb { D with nx := N, ct := N, bk := D.nx } σ2 H2)
def loopD (D : Ends) (N B : L2.St → Hp → Prop) : Ends := { D with nx := N, ct := N, bk := B }
theorem c_for {wi : TI} {g : TG} (h : wi σ H (forK g tb D σ)) : tFor wi g tb D σ H := h
def lcK (g : TG) (tt : TT) (te : TE) (vs : List Nat) (σ : L2.St) (Q : VK) : It → Hp → Prop := fun J H1 => ∀ D, H1 D = none → ∃ W : Nat → Nat → Hp → Prop, (∃ m, W 0 m (upd H1 D (.lst []))) ∧ ∀ i m H, W i m H →
  (J.stop i H ∧ Q (.ref D) H) ∨ (J.go i H ∧ ∃ Nx : Hp → Prop, (∀ H', Nx H' → ∃ m', m' < m ∧ W (i + 1) m' H') ∧ ∀ x H', J.yld i H x H' → g x (wipe σ vs) H' fun σ2 H2 => wipe σ2 vs = wipe σ vs ∧ tt σ2 H2 fun b H3 =>
    if b = true then te σ2 H3 fun y H4 => ∃ acc, H4 D = some (.lst acc) ∧ acc.length < sizeLine ∧ Nx (upd H4 D (.lst (acc ++ [y]))) else Nx H3)
theorem c_lc {wi : TI} {g : TG} (h : wi σ H (lcK g tt te vs σ Q)) : tLc wi g tt te vs σ H Q := h
def rng1K (R : It → Hp → Prop) : List V → Hp → Prop := fun vs H1 => ∃ j : Int, vs = [.int j] ∧ -(2 ^ 62) ≤ j ∧ j < 2 ^ 62 ∧ R (Itr 0 j.toNat) H1
def ilK (K : PySem.W.Frag) (R : It → Hp → Prop) : VK := fun x H1 => ∃ a, x = .ref a ∧ (∃ xs, SqL K H1 a xs) ∧ R (Itl K a) H1
theorem c_rng1 {ta : TA} {R : It → Hp → Prop} (h : ta σ H (rng1K R)) : iRng1 ta σ H R := h
theorem c_il {K : PySem.W.Frag} {R : It → Hp → Prop} (h : te σ H (ilK K R)) : iList K te σ H R := h
theorem k_rng1 {R : It → Hp → Prop} {j : Int} (h1 : -(2 ^ 62) ≤ j) (h2 : j < 2 ^ 62) (h : R (Itr 0 j.toNat) H) : rng1K R [.int j] H := ⟨j, rfl, h1, h2, h⟩
theorem k_il [Im G α] {a : Addr} {xs : List α} {R : It → Hp → Prop} (hS : Sep H L) (e : L[i]? = some (lstA a xs)) (h : R (Itl G.K a) H) : ilK G.K R (.ref a) H := by
  obtain ⟨vs, s, _⟩ := hS.sq e
  exact ⟨a, rfl, ⟨vs, s⟩, h⟩
/-- for .. in .. -/
theorem k_for {J : It} {g : TG} {im : Hp → V → α → Prop} {xs : List α} {f : τ → α → R τ} {rest : τ → R ρ} {q : ρ → Prop} {e : Exc → Prop} {s : τ} (I : τ → L2.St → Hp → Prop)
    (w : ∀ s, Wk J (I s) im xs) (h0 : I s σ H) (hm : R.wp ((forR f xs s).bind rest) q e)
    (turn : ∀ (s : τ) (x : α) (v : V) (σ : L2.St) (H : Hp) (q : τ → Prop) (N : L2.St → Hp → Prop), I s σ H → im H v x → R.wp (f s x) q e → (∀ s' σ' H', q s' → I s' σ' H' → N σ' H') → g v σ H fun σ2 H2 => tb (loopD D N D.nx) σ2 H2)
    (done : ∀ s σ H, R.wp (rest s) q e → I s σ H → D.nx σ H) : forK g tb D σ J H :=
  for_walk (I := I) w h0 (R.wp_bind hm) turn done
theorem lp_ct {N B : L2.St → Hp → Prop} (h : N σ H) : tCont (loopD D N B) σ H := h
/-- a comprehension over owned things -/
theorem lc_sep [Im G β] {J : It} {im : Hp → V → α → Prop} {xs : List α} {f : τ → α → R (τ × Option β)} {rest : τ × List β → R ρ} {q : ρ → Prop} {e : Exc → Prop} {s : τ} (M : τ → List (Asn G))
    (hS : Sep H (M s)) (w : ∀ (Dr : Addr) (s : τ) (ys : List β), Wk J (fun (_ : St) H => Sep H (lstA Dr ys :: M s)) im xs) (hl : xs.length ≤ sizeLine) (hm : R.wp ((compR f xs s).bind rest) q e)
    (turn : ∀ (Dr : Addr) (s : τ) (ys : List β) (x : α) (v : V) (H : Hp) (q : τ × Option β → Prop) (Nx : Hp → Prop), Sep H (lstA Dr ys :: M s) → im H v x → R.wp (f s x) q e →
      (∀ s' y u H', q (s', some y) → Im.im G H' u y → Sep H' (lstA Dr ys :: M s') → ∃ acc, H' Dr = some (.lst acc) ∧ acc.length < sizeLine ∧ Nx (upd H' Dr (.lst (acc ++ [u])))) → (∀ s' H', q (s', none) → Sep H' (lstA Dr ys :: M s') → Nx H') →
      gName i v (wipe σ vs) H fun σ2 H2 => wipe σ2 vs = wipe σ vs ∧ tt σ2 H2 fun b H3 => if b = true then te σ2 H3 fun y H4 => ∃ acc, H4 Dr = some (.lst acc) ∧ acc.length < sizeLine ∧ Nx (upd H4 Dr (.lst (acc ++ [y]))) else Nx H3)
    (done : ∀ (Dr : Addr) (t : τ × List β) H, R.wp (rest t) q e → Sep H (lstA Dr t.2 :: M t.1) → Q (.ref Dr) H) :
    lcK (gName i) tt te vs σ Q J H := fun Dr hD =>
  lc_walk (G := G) (I := fun Dr s ys H => Sep H (lstA Dr ys :: M s)) (im := im) (xs := xs) (f := f) (k := fun t => R.wp (rest t) q e) (e := e) (s := s) (w Dr)
    (hS.newL (vs := []) (xs := ([] : List β)) hD True.intro) (R.wp_bind hm) hl
    (fun s ys x v H q Nx hI hv hw _ k1 k2 => turn Dr s ys x v H q Nx hI hv hw k1 k2)
    (fun s ys y u H hI hu => lc_app hI hu)
    (fun s ys H hk hI => done Dr (s, ys) H hk hI)
theorem c_asgS {to ti : TE} {t : TSet} (h : te σ H fun v H1 => to σ H1 fun o H2 => ti σ H2 fun j H3 => t o j v H3 fun H4 => D.nx σ H4) : tAsg te (gSub to ti t) D σ H := h
theorem m2 {X : Cx} {o : Expr} {m : Str} {apos : Pos} {e f : Expr} {cpos : Pos} (base : attributeBase o m X.env (eval o X.env) = eval o X.env := by rfl)
  (few : ((backTo cpos (starEach [e, f] X.env)).all (fun x => !x.1) && (backToKw cpos (keywordEach [] X.env)).all (fun x => x.1.isSome)
    && decide (([e, f] : List Expr).length + ([] : List Keyword).length + (if ([] : List Keyword).isEmpty then 0 else 1) < 30)) = true := by rfl)
  (line : (apos.endLine == cpos.line) = true := by rfl) (trees : backTo cpos (starEach [e, f] X.env) = [(false, eval e X.env), (false, eval f X.env)] := by rfl) : M2 X o m apos e f cpos := ⟨base, few, line, trees⟩
theorem ev_lenLm {K : PySem.W.Frag} {ta : TE} {p : Addr} {xs : List α} {f : α → V} (ha : Ev ta σ H (.ref p)) (hs : SqL K H p (xs.map f)) : Ev (tCB (rLenSq K) (tCons ta tNil)) σ H (.int xs.length) := by
  have := ev_lenL ha hs
  rw [List.length_map] at this
  exact this
end
end Ml
namespace Ml
open PySem L2
variable {G : Gx}
def andK (u : TT) (σ : St) (P : Bool → Hp → Prop) : Bool → Hp → Prop := fun c H => if c = true then u σ H P else P false H
def orK (u : TT) (σ : St) (P : Bool → Hp → Prop) : Bool → Hp → Prop := fun c H => if c = true then P true H else u σ H P
def notK (P : Bool → Hp → Prop) : Bool → Hp → Prop := fun c H => P (!c) H
def ifK (t1 t2 : TS) (D : Ends) (σ : St) : Bool → Hp → Prop := fun c H => if c = true then t1 D σ H else t2 D σ H
/-- a value that is a Bool -/
def blK (P : Bool → Hp → Prop) : VK := fun x H => ∃ k, x = .bl k ∧ P k H
section
variable {σ : St} {H : Hp} {L : List (Asn G)} {D : Ends} {Q : VK} {P : Bool → Hp → Prop} {t u : TT} {t1 t2 : TS} {ta tb te : TE} {ρ τ : Type} {a b : Bool} {v w : V}
theorem f_and (h : t σ H (andK u σ P)) : tAnd t u σ H P := h
theorem f_or (h : t σ H (orK u σ P)) : tOr t u σ H P := h
theorem f_not (h : t σ H (notK P)) : tNot t σ H P := h
theorem f_if (h : t σ H (ifK t1 t2 D σ)) : tIfS t t1 t2 D σ H := h
theorem f_test (h : te σ H (blK P)) : tTest te σ H P := h
theorem f_B (h : te σ H (blK P)) : tB te σ H P := h
theorem f_bl (h : P b H) : blK P (.bl b) H := ⟨b, rfl, h⟩
theorem f_nK (h : P (!b) H) : notK P b H := h
theorem orK_f (h : u σ H P) : orK u σ P false H := h
variable {A B : R Bool} {rest : Bool → R ρ} {q : ρ → Prop} {e : Exc → Prop}
theorem andK_J (hm : R.wp ((if a = true then A else .ok false).bind rest) q e) (hS : Sep H L)
    (h1 : a = true → ∀ q' : Bool → Prop, R.wp A q' e → (∀ b H', q' b → Sep H' L → P b H') → u σ H P) (k : ∀ b H', R.wp (rest b) q e → Sep H' L → P b H') : andK u σ P a H := by
  have hm' := R.wp_bind hm
  cases a with
  | true => exact h1 rfl _ hm' k
  | false => exact k false H hm' hS
theorem ifK_2 (h1 : a = true → t1 D σ H) (h2 : a = false → t2 D σ H) : ifK t1 t2 D σ a H := by
  cases a with
  | true => exact h1 rfl
  | false => exact h2 rfl
theorem ifK_J {A B : R τ} {rest : τ → R ρ} (J : τ → St → Hp → Prop) (hm : R.wp ((if a = true then A else B).bind rest) q e)
    (h1 : a = true → ∀ q' : τ → Prop, R.wp A q' e → (∀ s σ' H', q' s → J s σ' H' → D.nx σ' H') → t1 D σ H)
    (h2 : a = false → ∀ q' : τ → Prop, R.wp B q' e → (∀ s σ' H', q' s → J s σ' H' → D.nx σ' H') → t2 D σ H)
    (k : ∀ s σ' H', R.wp (rest s) q e → J s σ' H' → D.nx σ' H') : ifK t1 t2 D σ a H := by
  have hm' := R.wp_bind hm
  cases a with
  | true => exact h1 rfl _ hm' k
  | false => exact h2 rfl _ hm' k
theorem wp_let {α : Type} {x : α} {f : α → R ρ} (hm : R.wp ((R.ok x).bind f) q e) : ∃ y, x = y ∧ R.wp (f y) q e := ⟨x, rfl, hm⟩
theorem n_is {i : Nat} (e : v = w) (h : D.nx (σ.set i (some w)) H) : D.nx (σ.set i (some v)) H := by rw [e]; exact h
/-- [elt ..] with a test: the two ways -/
theorem lc_if {A B : Prop} (h1 : a = true → A) (h2 : a = false → B) : if a = true then A else B := by
  cases a with
  | true => exact h1 rfl
  | false => exact h2 rfl
end
end Ml
namespace Ml
open PySem L2
section
variable {X : Cx} (K : PySem.W.Frag) (hK : X.K = K := by rfl)
include hK
theorem ix_listK : IxR X (rIxL K) := by subst hK; exact ix_list
theorem ix_tupK : IxR X (rIxT K) := by subst hK; exact ix_tup
theorem sl_listK : SlR X (rSlL K) := by subst hK; exact sl_list
theorem lenSqK : CallR X (.builtin "len") (rLenSq K) := by subst hK; exact call_lenSq
theorem isiK : CallR X (.builtin "isinstance") (rIsi K) := by subst hK; exact call_isi
end
theorem eqDK {X : Cx} (K : PySem.W.Frag) (hu : X.A.units + 64 < cLine) (hK : X.K = K := by rfl) : OpR X (compareOp .Eq) (rEqD K) := by subst hK; exact op_eqD hu
theorem neDK {X : Cx} (K : PySem.W.Frag) (hu : X.A.units + 64 < cLine) (hK : X.K = K := by rfl) : OpR X (compareOp .NotEq) (rNeD K) := by subst hK; exact op_neD hu
theorem allK {X : Cx} (K : PySem.W.Frag) (hc : X.calm = true) (hK : X.K = K := by rfl) : CallR X (.builtin "all") (rAll K) := by subst hK; exact cr_all hc
theorem pi_listK {X : Cx} {tg e : Expr} {tl : TE} (K : PySem.W.Frag) (h : PE X e tl) (hK : X.K = K := by rfl) : PI X tg e (iList K tl) := by subst hK; exact pi_list h
section
variable {X : Cx} {T : String} {name : Str} {id : String} {r : V → List V → Hp → VK → Prop} {o e : Expr} {es : List Expr} {to : TE} {t : TA} {apos cpos : Pos}
theorem pe_bmK (K : PySem.W.Frag) (pa : PlainAttrs T) (slot : Slot T name id) (hty : typeOf (.builtin id) = pure (.type "method_descriptor")) (hm : MtR X id r) (ho : PE X o to) (ha : PA X (e :: es) t) (hK : X.K = K := by rfl)
    (hbase : attributeBase o name X.env (eval o X.env) = eval o X.env := by rfl)
    (hfew : ((backTo cpos (starEach (e :: es) X.env)).all (fun x => !x.1) && (backToKw cpos (keywordEach [] X.env)).all (fun x => x.1.isSome)
      && decide ((e :: es).length + ([] : List Keyword).length + (if ([] : List Keyword).isEmpty then 0 else 1) < 30)) = true := by rfl)
    (hline : (apos.endLine == cpos.line) = true := by rfl) (hs : starEach (e :: es) X.env = (false, eval e X.env) :: starEach es X.env := by rfl) (hplain : (backTo cpos (starEach es X.env)).any (·.1) = false := by rfl) :
    PE X (.Call (.Attribute o name apos) (e :: es) [] cpos) (tBM K T r to t) := by subst hK; exact pe_bm pa slot hty hm ho ha hbase hfew hline hs hplain
end
end Ml
namespace Ml
open PySem L2
theorem im_of_only {G : Gx} {H : Hp} {a : Addr} {ns : List Int} (hO : Only H) (hS : SqL G.K H a (ns.map V.int)) : Im.im G H (.ref a) (⟨ns⟩ : Script) := by
  refine ⟨a, rfl, ?_⟩
  rcases hS with (h | ⟨o, h⟩) | h
  · rcases hO a with z | ⟨o, xs, z⟩
    · rw [h] at z; cases z
    · rw [h] at z; cases z
  · exact .inl ⟨o, h⟩
  · exact .inr h
end Ml
namespace Ml
open PySem L2
end Ml
namespace Ml
open PySem L2
def fzK (Q : VK) : VK := fun v H => Q v H ∨ ∃ a u, v = .ref a ∧ H a = some u ∧ Mut (some u) ∧ ∀ o, Q v (upd H a (.frz o u))
def tFz (t : TE) : TE := fun σ H Q => t σ H (fzK Q)
theorem pe_fz {X : Cx} {e : Expr} {t : TE} (h : PE X e t) : PE X e (tFz t) := by
  refine ⟨fun pins s σ H Q I hw => ?_⟩
  refine thn (h.run pins s σ H _ I hw) fun v s1 ⟨x, H1, I1, r, q⟩ => ?_
  rcases q with q | ⟨a, u, e, ha, mu, q⟩
  · exact ⟨x, H1, I1, r, q⟩
  · obtain ⟨od, I2⟩ := I1.lock ha mu
    exact ⟨x, _, I2, r, q od⟩
variable {G : Gx}
section
variable {σ : St} {H : Hp} {L : List (Asn G)} {te : TE} {Q : VK} {v : V} {α : Type}
theorem c_fz (h : te σ H (fzK Q)) : tFz te σ H Q := h
theorem fz_no (h : Q v H) : fzK Q v H := .inl h
theorem ev_fz (h : Ev te σ H v) : Ev (tFz te) σ H v := fun Q q => h _ (.inl q)
/-- a locked list: a value -/
instance imList [Im G α] : Im G (List α) := ⟨fun H v xs => ∃ a vs, v = .ref a ∧ (∃ o, H a = some (.frz o (.lst vs))) ∧ imL (G := G) H vs xs,
  fun ⟨a, vs, e, ⟨o, h⟩, m⟩ s => ⟨a, vs, e, ⟨o, s.1 a _ h rfl⟩, m.st s⟩⟩
/-- the i-th thing is dropped, the rest stays while its cell changes -/
theorem Sep.drop1 {a : Addr} {o o' : HO} {M : List (Asn G)} (h : Sep H (cell a o :: M)) (kd : kindOf o' = kindOf o) : Sep (upd H a o') M := by
  obtain ⟨fp, ⟨f1, f2, e, ⟨e1, ho⟩, k⟩, h2, h3⟩ := h
  subst e1; subst e
  have nd : ¬ a ∈ f2 := (List.nodup_cons.mp h2).1
  obtain ⟨u, hu, nu⟩ := h3 a (by simp)
  have eu : u = o := by rw [ho] at hu; cases hu; rfl
  have st : Stab G H (upd H a o') := stab_put hu nu (by rw [eu]; exact kd)
  refine ⟨f2, k.loc (fun b m => upd_ne fun z => nd (z ▸ m)) st, (List.nodup_cons.mp h2).2, fun b m => ?_⟩
  obtain ⟨x, hx, nx⟩ := h3 b (by simp [m])
  exact ⟨x, by rw [upd_ne (fun z => nd (by rw [← z]; exact m))]; exact hx, nx⟩
theorem fz_yes [Im G α] {i : Nat} {a : Addr} {xs : List α} (hS : Sep H L) (e : L[i]? = some (lstA a xs)) (k : ∀ H', Sep H' (imA (.ref a) xs :: L.eraseIdx i) → Q (.ref a) H') : fzK Q (.ref a) H := by
  obtain ⟨vs, m, h1⟩ := hS.openL e
  have h0 := h1.getCell (get_set e)
  refine .inr ⟨a, .lst vs, rfl, h0, True.intro, fun o => k _ ?_⟩
  have h2 := h1.perm (pull_perm (get_set (y := cell (G := G) a (.lst vs)) e))
  have e3 : (L.set i (cell a (.lst vs))).eraseIdx i = L.eraseIdx i := by simp [List.eraseIdx_set_eq]
  rw [e3] at h2
  obtain ⟨fp, ⟨f1, f2, _, ⟨ef, _⟩, _⟩, nd0, nper⟩ := id h2
  have nu : per G (.lst vs) = false := rfl
  have st : Stab G H (upd H a (.frz o (.lst vs))) := stab_put h0 nu rfl
  have h4 := h2.drop1 (o' := .frz o (.lst vs)) rfl
  exact h4.addIm ⟨a, vs, rfl, ⟨o, upd_same⟩, m.st st⟩
end
structure T3 (α β γ : Type) where
  a : α
  b : β
  c : γ
  deriving DecidableEq, Repr
structure T4 (α β γ δ : Type) where
  a : α
  b : β
  c : γ
  d : δ
  deriving DecidableEq, Repr
structure T5 (α β γ δ ε : Type) where
  a : α
  b : β
  c : γ
  d : δ
  e : ε
  deriving DecidableEq, Repr
structure T1 (α : Type) where
  a : α
  deriving DecidableEq, Repr
section
variable {α β γ δ ε : Type} [Im G α] [Im G β] [Im G γ] [Im G δ] [Im G ε] {H H' : Hp} {a : Addr} {u1 u2 u3 u4 u5 : V}
instance imT1 : Im G (T1 α) := ⟨fun H v x => ∃ a u1, v = .ref a ∧ H a = some (.tup [u1]) ∧ Im.im G H u1 x.a,
  fun ⟨a, u1, e, h, i1⟩ s => ⟨a, u1, e, s.1 a _ h rfl, Im.st i1 s⟩⟩
instance imT2 : Im G (α × β) := ⟨fun H v x => ∃ a u1 u2, v = .ref a ∧ H a = some (.tup [u1, u2]) ∧ Im.im G H u1 x.1 ∧ Im.im G H u2 x.2,
  fun ⟨a, u1, u2, e, h, i1, i2⟩ s => ⟨a, u1, u2, e, s.1 a _ h rfl, Im.st i1 s, Im.st i2 s⟩⟩
instance imT3 : Im G (T3 α β γ) := ⟨fun H v x => ∃ a u1 u2 u3, v = .ref a ∧ H a = some (.tup [u1, u2, u3]) ∧ Im.im G H u1 x.a ∧ Im.im G H u2 x.b ∧ Im.im G H u3 x.c,
  fun ⟨a, u1, u2, u3, e, h, i1, i2, i3⟩ s => ⟨a, u1, u2, u3, e, s.1 a _ h rfl, Im.st i1 s, Im.st i2 s, Im.st i3 s⟩⟩
instance imT4 : Im G (T4 α β γ δ) := ⟨fun H v x => ∃ a u1 u2 u3 u4, v = .ref a ∧ H a = some (.tup [u1, u2, u3, u4]) ∧ Im.im G H u1 x.a ∧ Im.im G H u2 x.b ∧ Im.im G H u3 x.c ∧ Im.im G H u4 x.d,
  fun ⟨a, u1, u2, u3, u4, e, h, i1, i2, i3, i4⟩ s => ⟨a, u1, u2, u3, u4, e, s.1 a _ h rfl, Im.st i1 s, Im.st i2 s, Im.st i3 s, Im.st i4 s⟩⟩
instance imT5 : Im G (T5 α β γ δ ε) := ⟨fun H v x => ∃ a u1 u2 u3 u4 u5, v = .ref a ∧ H a = some (.tup [u1, u2, u3, u4, u5]) ∧ Im.im G H u1 x.a ∧ Im.im G H u2 x.b ∧ Im.im G H u3 x.c ∧ Im.im G H u4 x.d ∧ Im.im G H u5 x.e,
  fun ⟨a, u1, u2, u3, u4, u5, e, h, i1, i2, i3, i4, i5⟩ s => ⟨a, u1, u2, u3, u4, u5, e, s.1 a _ h rfl, Im.st i1 s, Im.st i2 s, Im.st i3 s, Im.st i4 s, Im.st i5 s⟩⟩
theorem im2 {x : α × β} (h : Im.im G H (.ref a) x) : ∃ u1 u2, H a = some (.tup [u1, u2]) ∧ Im.im G H u1 x.1 ∧ Im.im G H u2 x.2 := by
  obtain ⟨b, u1, u2, e, h⟩ := h; cases e; exact ⟨u1, u2, h⟩
theorem mk2 {x : α × β} (i1 : Im.im G H u1 x.1) (i2 : Im.im G H u2 x.2) (h : H' a = some (.tup [u1, u2])) (s : Stab G H H') : Im.im G H' (.ref a) x := ⟨a, u1, u2, rfl, h, Im.st i1 s, Im.st i2 s⟩
end
class IsRef (G : Gx) (α : Type) [Im G α] : Prop where
  isref : ∀ {H : Hp} {v : V} {x : α}, Im.im G H v x → ∃ a, v = .ref a
theorem isref {α : Type} [Im G α] [IsRef G α] {H : Hp} {v : V} {x : α} (h : Im.im G H v x) : ∃ a, v = .ref a := IsRef.isref h
section
variable {α β γ δ ε : Type} [Im G α] [Im G β] [Im G γ] [Im G δ] [Im G ε]
instance : IsRef G (List α) := ⟨fun h => by obtain ⟨a, _, e, _⟩ := h; exact ⟨a, e⟩⟩
instance : IsRef G (T1 α) := ⟨fun h => by obtain ⟨a, _, e, _⟩ := h; exact ⟨a, e⟩⟩
instance : IsRef G (α × β) := ⟨fun h => by obtain ⟨a, _, _, e, _⟩ := h; exact ⟨a, e⟩⟩
instance : IsRef G (T3 α β γ) := ⟨fun h => by obtain ⟨a, _, _, _, e, _⟩ := h; exact ⟨a, e⟩⟩
instance : IsRef G (T4 α β γ δ) := ⟨fun h => by obtain ⟨a, _, _, _, _, e, _⟩ := h; exact ⟨a, e⟩⟩
instance : IsRef G (T5 α β γ δ ε) := ⟨fun h => by obtain ⟨a, _, _, _, _, _, e, _⟩ := h; exact ⟨a, e⟩⟩
end
section
variable {σ σ' : St} {H : Hp} {L : List (Asn G)} {D : Ends} {Q : VK} {te ta tb : TE} {α : Type} {K : PySem.W.Frag} {v : V}
/-- a tuple is laid -/
theorem k_tupP [Im G α] {vs : List V} {x : α} (hS : Sep H L) (mk : ∀ (H' : Hp) (p : Addr), H' p = some (.tup vs) → Stab G H H' → Im.im G H' (.ref p) x) (hl : vs.length ≤ sizeLine)
    (k : ∀ p H', Sep H' (imA (.ref p) x :: L) → Q (.ref p) H') : tupK Q vs H :=
  ⟨hl, fun p hp => k p _ ((hS.more (same_new hp)).addIm (mk _ p upd_same (.of_same (same_new hp))))⟩
theorem ev_ixT {a : Addr} {i : Int} {us : List V} (ha : Ev ta σ H (.ref a)) (hb : Ev tb σ H (.int i)) (h : H a = some (.tup us)) (e : atI us i = some v) : Ev (tOp (rIxT K) ta tb) σ H v :=
  ev_op ha hb fun _ q => ⟨a, us, i, v, rfl, rfl, SqT.of h, e, q⟩
theorem r_ixT {a : Addr} {i : Int} {us : List V} (h : H a = some (.tup us)) (e : atI us i = some v) (q : Q v H) : rIxT K (.ref a) (.int i) H Q := ⟨a, us, i, v, rfl, rfl, SqT.of h, e, q⟩
/-- a field -/
theorem ev_fld {a C dx : Addr} {fs : List (Str × V)} {f : Str} (ha : Ev ta σ H (.ref a)) (h : H a = some (.ins C dx fs)) (c : Cls K C) (n : NoAttr K C f) (l : fs.lookup f = some v) : Ev (tFld K ta f) σ H v :=
  fun _ q => ha _ ⟨a, C, dx, fs, v, rfl, h, c, n, l, q⟩
end
end Ml
namespace Ml
open PySem L2
inductive Any where
  | str (s : Str) | int (i : Int) | bl (b : Bool) | non | tup (xs : List Any) | lst (xs : List Any) | oth (k : Nat)
section
variable (G : Gx)
mutual
def imAny (H : Hp) : V → Any → Prop
  | v, .str s => v = .str s
  | v, .int i => v = .int i
  | v, .bl b => v = .bl b
  | v, .non => v = .non
  | v, .tup xs => ∃ a vs, v = .ref a ∧ H a = some (.tup vs) ∧ imAnyL H vs xs
  | v, .lst xs => ∃ a vs, v = .ref a ∧ (∃ o, H a = some (.frz o (.lst vs))) ∧ imAnyL H vs xs
  | v, .oth k => ∃ a o, v = .ref a ∧ H a = some o ∧ kindOf o = k ∧ (k = 0 ∨ k = 1)
def imAnyL (H : Hp) : List V → List Any → Prop
  | [], [] => True
  | v :: vs, x :: xs => imAny H v x ∧ imAnyL H vs xs
  | _, _ => False
end
variable {G} {H H' : Hp}
mutual
theorem imAny.st : ∀ {v : V} {x : Any}, imAny H v x → Stab G H H' → imAny H' v x
  | v, .str s, h, _ => by rw [imAny] at h ⊢; exact h
  | v, .int i, h, _ => by rw [imAny] at h ⊢; exact h
  | v, .bl b, h, _ => by rw [imAny] at h ⊢; exact h
  | v, .non, h, _ => by rw [imAny] at h ⊢; exact h
  | v, .tup xs, h, s => by
    rw [imAny] at h ⊢
    obtain ⟨a, vs, e, g, m⟩ := h
    exact ⟨a, vs, e, s.1 a _ g rfl, imAnyL.st m s⟩
  | v, .lst xs, h, s => by
    rw [imAny] at h ⊢
    obtain ⟨a, vs, e, ⟨o, g⟩, m⟩ := h
    exact ⟨a, vs, e, ⟨o, s.1 a _ g rfl⟩, imAnyL.st m s⟩
  | v, .oth k, h, s => by
    rw [imAny] at h ⊢
    obtain ⟨a, o, e, g, q, z⟩ := h
    obtain ⟨o', g', q'⟩ := s.2 a o g
    exact ⟨a, o', e, g', q'.trans q, z⟩
theorem imAnyL.st : ∀ {vs : List V} {xs : List Any}, imAnyL H vs xs → Stab G H H' → imAnyL H' vs xs
  | [], [], h, _ => h
  | v :: vs, x :: xs, h, s => by
    rw [imAnyL] at h ⊢
    exact ⟨imAny.st h.1 s, imAnyL.st h.2 s⟩
  | [], _ :: _, h, _ => by rw [imAnyL] at h; exact h.elim; all_goals simp
  | _ :: _, [], h, _ => by rw [imAnyL] at h; exact h.elim; all_goals simp
end
instance imAnyI : Im G Any := ⟨fun H v x => imAny H v x, fun h s => imAny.st h s⟩
end
variable {G : Gx} {H : Hp} {L : List (Asn G)}
theorem any_str {v : V} {s : Str} : Im.im G H v (Any.str s) ↔ v = .str s := by show imAny H v (.str s) ↔ _; rw [imAny]
theorem any_int {v : V} {s : Int} : Im.im G H v (Any.int s) ↔ v = .int s := by show imAny H v (.int s) ↔ _; rw [imAny]
theorem any_bl {v : V} {s : Bool} : Im.im G H v (Any.bl s) ↔ v = .bl s := by show imAny H v (.bl s) ↔ _; rw [imAny]
theorem any_non {v : V} : Im.im G H v Any.non ↔ v = .non := by show imAny H v .non ↔ _; rw [imAny]
theorem imAnyL_eq : ∀ {vs : List V} {xs : List Any}, imAnyL H vs xs ↔ imL (G := G) H vs xs
  | [], [] => by rw [imAnyL]; exact Iff.rfl
  | v :: vs, x :: xs => by
    rw [imAnyL]
    exact and_congr_right fun _ => imAnyL_eq (vs := vs) (xs := xs)
  | [], _ :: _ => ⟨fun h => by rw [imAnyL] at h; exact h.elim; all_goals simp, fun h => h.elim⟩
  | _ :: _, [] => ⟨fun h => by rw [imAnyL] at h; exact h.elim; all_goals simp, fun h => h.elim⟩
theorem any_tup {v : V} {xs : List Any} : Im.im G H v (Any.tup xs) ↔ ∃ a vs, v = .ref a ∧ H a = some (.tup vs) ∧ imL (G := G) H vs xs := by
  show imAny H v (.tup xs) ↔ _
  rw [imAny]
  exact exists_congr fun a => exists_congr fun vs => and_congr_right fun _ => and_congr_right fun _ => imAnyL_eq
theorem any_lsts {v : V} {xs : List Any} : Im.im G H v (Any.lst xs) ↔ ∃ a vs, v = .ref a ∧ (∃ o, H a = some (.frz o (.lst vs))) ∧ imL (G := G) H vs xs := by
  show imAny H v (.lst xs) ↔ _
  rw [imAny]
  exact exists_congr fun a => exists_congr fun vs => and_congr_right fun _ => and_congr_right fun _ => imAnyL_eq
theorem any_oth {v : V} {k : Nat} : Im.im G H v (Any.oth k) ↔ ∃ a o, v = .ref a ∧ H a = some o ∧ kindOf o = k ∧ (k = 0 ∨ k = 1) := by
  show imAny H v (.oth k) ↔ _
  rw [imAny]
def Any.ty : Any → String
  | .str _ => "str"
  | .int _ => "int"
  | .bl _ => "bool"
  | .non => "NoneType"
  | .tup _ => "tuple"
  | .lst _ => "list"
  | .oth 0 => "list"
  | .oth _ => "dict"
theorem ty_of_kind {K : PySem.W.Frag} {a : Addr} {o : HO} {k : Nat} (h : H a = some o) (e : kindOf o = k) (z : k = 0 ∨ k = 1) : TyX K H (.ref a) (.type (Any.oth k).ty) := by
  rcases z with rfl | rfl
  · cases o with
    | lst xs => exact .base (.lst h)
    | frz o x => cases x with
      | lst xs => exact .base (.frz h)
      | _ => cases e
    | _ => cases e
  · cases o with
    | dK xs => exact .base (.dK h)
    | frz o x => cases x with
      | dK xs => exact .fDict h
      | _ => cases e
    | _ => cases e
theorem ty_any {v : V} {x : Any} (h : Im.im G H v x) : TyX G.K H v (.type x.ty) := by
  cases x with
  | str s => rw [any_str] at h; subst h; exact .base (.str s)
  | int s => rw [any_int] at h; subst h; exact .base (.int s)
  | bl s => rw [any_bl] at h; subst h; exact .base (.bl s)
  | non => rw [any_non] at h; subst h; exact .base .non
  | tup xs => rw [any_tup] at h; obtain ⟨a, vs, rfl, g, _⟩ := h; exact .base (.tup g)
  | lst xs => rw [any_lsts] at h; obtain ⟨a, vs, rfl, ⟨o, g⟩, _⟩ := h; exact .base (.frz g)
  | oth k => rw [any_oth] at h; obtain ⟨a, o, rfl, g, q, z⟩ := h; exact ty_of_kind g q z
/-- isinstance of a plain type -/
def Any.is (x : Any) (t : String) : Bool := x.ty == t || (x.ty == "bool" && t == "int")
theorem any_kit (x : Any) (t : String) (ht : t ∈ ["str", "int", "bool", "tuple", "list", "dict"]) : kitB x.ty t = some (x.is t) := by
  have : ∀ u, u ∈ ["str", "int", "bool", "tuple", "list", "dict", "NoneType"] → ∀ t, t ∈ ["str", "int", "bool", "tuple", "list", "dict"] → kitB u t = some (u == t || (u == "bool" && t == "int")) := by decide +kernel
  refine this _ ?_ t ht
  unfold Any.ty
  split <;> decide
end Ml
namespace Ml
open PySem L2
end Ml
namespace Ml
open PySem L2
variable {G : Gx}
section
variable {α β γ δ ε : Type} [Lay α] [Lay β] [Lay γ] [Lay δ] [Lay ε]
instance layList : Lay (List α) := ⟨layAllB⟩
instance layT1 : Lay (T1 α) := ⟨fun x => Lay.lay x.a⟩
instance layT2 : Lay (α × β) := ⟨fun x => Lay.lay x.1 && Lay.lay x.2⟩
instance layT3 : Lay (T3 α β γ) := ⟨fun x => Lay.lay x.a && (Lay.lay x.b && Lay.lay x.c)⟩
instance layT4 : Lay (T4 α β γ δ) := ⟨fun x => Lay.lay x.a && (Lay.lay x.b && (Lay.lay x.c && Lay.lay x.d))⟩
instance layT5 : Lay (T5 α β γ δ ε) := ⟨fun x => Lay.lay x.a && (Lay.lay x.b && (Lay.lay x.c && (Lay.lay x.d && Lay.lay x.e)))⟩
end
section
variable {α β γ δ ε : Type} [Im G α] [DecidableEq α] [Lay α] [Pd G α] [Im G β] [DecidableEq β] [Lay β] [Pd G β] [Im G γ] [DecidableEq γ] [Lay γ] [Pd G γ] [Im G δ] [DecidableEq δ] [Lay δ] [Pd G δ] [Im G ε] [DecidableEq ε] [Lay ε] [Pd G ε]
instance pdList : Pd G (List α) where
  pd := fun xs => .list (xs.map (Pd.pd G))
  dep := Pd.dep G α + 1
  dp := fun {H v x} h => by
    obtain ⟨a, vs, rfl, ⟨o, g⟩, m⟩ := h
    exact .lst (.inl (.inr ⟨o, g⟩)) (dpAll m)
  lay_ok := fun x h => layAll (G := G) h
  dep_ok := fun x => Nat.succ_le_succ (depAll (G := G) x)
  eqv := fun x y => eqvAll_is x y
theorem canTup (ds : List PyData) : (PyData.tuple ds).canLay0 = PyData.canLayAll0 ds := rfl
theorem canCons (d : PyData) (ds : List PyData) : PyData.canLayAll0 (d :: ds) = (d.canLay0 && PyData.canLayAll0 ds) := rfl
theorem depTup (ds : List PyData) : (PyData.tuple ds).depth = PyData.depthAll ds + 1 := rfl
theorem depCons (d : PyData) (ds : List PyData) : PyData.depthAll (d :: ds) = max d.depth (PyData.depthAll ds) := rfl
theorem depNil : PyData.depthAll [] = 0 := rfl
theorem eqvTup (ds es : List PyData) : PyData.eqv (.tuple ds) (.tuple es) = PyData.eqvAll ds es := rfl
theorem eqvCons (d e : PyData) (ds es : List PyData) : PyData.eqvAll (d :: ds) (e :: es) = (PyData.eqv d e && PyData.eqvAll ds es) := rfl
theorem eqvNil : PyData.eqvAll [] [] = true := rfl
instance pdT1 : Pd G (T1 α) where
  pd := fun x => .tuple [Pd.pd G x.a]
  dep := Pd.dep G α + 1
  dp := fun {H v x} h => by
    obtain ⟨a, u1, rfl, g, i1⟩ := h
    exact .tup (SqT.of g) (.cons (Pd.dp i1) .nil)
  lay_ok := fun x h => by rw [canTup, canCons, Pd.lay_ok x.a h]; rfl
  dep_ok := fun x => by
    rw [depTup, depCons, depNil]
    have := Pd.dep_ok (G := G) x.a
    omega
  eqv := fun x y => by
    rw [eqvTup, eqvCons, eqvNil, Pd.eqv]
    obtain ⟨a⟩ := x; obtain ⟨b⟩ := y
    simp
instance pdT2 : Pd G (α × β) where
  pd := fun x => .tuple [Pd.pd G x.1, Pd.pd G x.2]
  dep := max (Pd.dep G α) (Pd.dep G β) + 1
  dp := fun {H v x} h => by
    obtain ⟨a, u1, u2, rfl, g, i1, i2⟩ := h
    exact .tup (SqT.of g) (.cons (Pd.dp i1) (.cons (Pd.dp i2) .nil))
  lay_ok := fun x h => by
    have h : (Lay.lay x.1 && Lay.lay x.2) = true := h
    rw [Bool.and_eq_true] at h
    rw [canTup, canCons, canCons, Pd.lay_ok x.1 h.1, Pd.lay_ok x.2 h.2]; rfl
  dep_ok := fun x => by
    rw [depTup, depCons, depCons, depNil]
    have := Pd.dep_ok (G := G) x.1
    have := Pd.dep_ok (G := G) x.2
    omega
  eqv := fun x y => by
    rw [eqvTup, eqvCons, eqvCons, eqvNil, Pd.eqv, Pd.eqv]
    obtain ⟨a, b⟩ := x; obtain ⟨c, d⟩ := y
    simp
instance pdT3 : Pd G (T3 α β γ) where
  pd := fun x => .tuple [Pd.pd G x.a, Pd.pd G x.b, Pd.pd G x.c]
  dep := max (Pd.dep G α) (max (Pd.dep G β) (Pd.dep G γ)) + 1
  dp := fun {H v x} h => by
    obtain ⟨a, u1, u2, u3, rfl, g, i1, i2, i3⟩ := h
    exact .tup (SqT.of g) (.cons (Pd.dp i1) (.cons (Pd.dp i2) (.cons (Pd.dp i3) .nil)))
  lay_ok := fun x h => by
    have h : (Lay.lay x.a && (Lay.lay x.b && Lay.lay x.c)) = true := h
    simp only [Bool.and_eq_true] at h
    rw [canTup, canCons, canCons, canCons, Pd.lay_ok x.a h.1, Pd.lay_ok x.b h.2.1, Pd.lay_ok x.c h.2.2]; rfl
  dep_ok := fun x => by
    rw [depTup, depCons, depCons, depCons, depNil]
    have := Pd.dep_ok (G := G) x.a
    have := Pd.dep_ok (G := G) x.b
    have := Pd.dep_ok (G := G) x.c
    omega
  eqv := fun x y => by
    rw [eqvTup, eqvCons, eqvCons, eqvCons, eqvNil, Pd.eqv, Pd.eqv, Pd.eqv]
    obtain ⟨a, b, c⟩ := x; obtain ⟨d, e, f⟩ := y
    simp
instance pdT4 : Pd G (T4 α β γ δ) where
  pd := fun x => .tuple [Pd.pd G x.a, Pd.pd G x.b, Pd.pd G x.c, Pd.pd G x.d]
  dep := max (Pd.dep G α) (max (Pd.dep G β) (max (Pd.dep G γ) (Pd.dep G δ))) + 1
  dp := fun {H v x} h => by
    obtain ⟨a, u1, u2, u3, u4, rfl, g, i1, i2, i3, i4⟩ := h
    exact .tup (SqT.of g) (.cons (Pd.dp i1) (.cons (Pd.dp i2) (.cons (Pd.dp i3) (.cons (Pd.dp i4) .nil))))
  lay_ok := fun x h => by
    have h : (Lay.lay x.a && (Lay.lay x.b && (Lay.lay x.c && Lay.lay x.d))) = true := h
    simp only [Bool.and_eq_true] at h
    rw [canTup, canCons, canCons, canCons, canCons, Pd.lay_ok x.a h.1, Pd.lay_ok x.b h.2.1, Pd.lay_ok x.c h.2.2.1, Pd.lay_ok x.d h.2.2.2]; rfl
  dep_ok := fun x => by
    rw [depTup, depCons, depCons, depCons, depCons, depNil]
    have := Pd.dep_ok (G := G) x.a
    have := Pd.dep_ok (G := G) x.b
    have := Pd.dep_ok (G := G) x.c
    have := Pd.dep_ok (G := G) x.d
    omega
  eqv := fun x y => by
    rw [eqvTup, eqvCons, eqvCons, eqvCons, eqvCons, eqvNil, Pd.eqv, Pd.eqv, Pd.eqv, Pd.eqv]
    obtain ⟨a, b, c, d⟩ := x; obtain ⟨a', b', c', d'⟩ := y
    simp
instance pdT5 : Pd G (T5 α β γ δ ε) where
  pd := fun x => .tuple [Pd.pd G x.a, Pd.pd G x.b, Pd.pd G x.c, Pd.pd G x.d, Pd.pd G x.e]
  dep := max (Pd.dep G α) (max (Pd.dep G β) (max (Pd.dep G γ) (max (Pd.dep G δ) (Pd.dep G ε)))) + 1
  dp := fun {H v x} h => by
    obtain ⟨a, u1, u2, u3, u4, u5, rfl, g, i1, i2, i3, i4, i5⟩ := h
    exact .tup (SqT.of g) (.cons (Pd.dp i1) (.cons (Pd.dp i2) (.cons (Pd.dp i3) (.cons (Pd.dp i4) (.cons (Pd.dp i5) .nil)))))
  lay_ok := fun x h => by
    have h : (Lay.lay x.a && (Lay.lay x.b && (Lay.lay x.c && (Lay.lay x.d && Lay.lay x.e)))) = true := h
    simp only [Bool.and_eq_true] at h
    rw [canTup, canCons, canCons, canCons, canCons, canCons, Pd.lay_ok x.a h.1, Pd.lay_ok x.b h.2.1, Pd.lay_ok x.c h.2.2.1, Pd.lay_ok x.d h.2.2.2.1, Pd.lay_ok x.e h.2.2.2.2]; rfl
  dep_ok := fun x => by
    rw [depTup, depCons, depCons, depCons, depCons, depCons, depNil]
    have := Pd.dep_ok (G := G) x.a
    have := Pd.dep_ok (G := G) x.b
    have := Pd.dep_ok (G := G) x.c
    have := Pd.dep_ok (G := G) x.d
    have := Pd.dep_ok (G := G) x.e
    omega
  eqv := fun x y => by
    rw [eqvTup, eqvCons, eqvCons, eqvCons, eqvCons, eqvCons, eqvNil, Pd.eqv, Pd.eqv, Pd.eqv, Pd.eqv, Pd.eqv]
    obtain ⟨a, b, c, d, e⟩ := x; obtain ⟨a', b', c', d', e'⟩ := y
    simp
end
section
variable {α : Type} [Im G α] [DecidableEq α] [Lay α] [Pd G α] {H : Hp} {L : List (Asn G)} {σ : St} {ta tb : TE} {Q : VK} {v w : V} {x y : α}
theorem shapedP (h : Lay.lay x = true) (d : Pd.dep G α ≤ 64) : SeqAt.shaped (Pd.pd G x) = true := by
  unfold SeqAt.shaped
  rw [Pd.lay_ok x h, decide_eq_true (Nat.le_trans (Pd.dep_ok x) d)]; rfl
/-- the data of a list that one owns -/
theorem dpOwn {i : Nat} {a : Addr} {xs : List α} (hS : Sep H L) (e : L[i]? = some (lstA a xs)) : Dp G.K H (.ref a) (Pd.pd G xs) := by
  obtain ⟨vs, s, m⟩ := hS.sq e
  exact .lst s (dpAll m)
theorem ev_eqP (ha : Ev ta σ H v) (hb : Ev tb σ H w) (d1 : Dp G.K H v (Pd.pd G x)) (d2 : Dp G.K H w (Pd.pd G y)) (l1 : Lay.lay x = true) (l2 : Lay.lay y = true) (d : Pd.dep G α ≤ 64) :
    Ev (tOp (rEqD G.K) ta tb) σ H (.bl (decide (x = y))) := ev_op ha hb fun Q q => by
  refine ⟨_, _, d1, d2, shapedP l1 d, shapedP l2 d, ?_⟩
  rw [Pd.eqv]; exact q
theorem ev_neP (ha : Ev ta σ H v) (hb : Ev tb σ H w) (d1 : Dp G.K H v (Pd.pd G x)) (d2 : Dp G.K H w (Pd.pd G y)) (l1 : Lay.lay x = true) (l2 : Lay.lay y = true) (d : Pd.dep G α ≤ 64) :
    Ev (tOp (rNeD G.K) ta tb) σ H (.bl (!decide (x = y))) := ev_op ha hb fun Q q => by
  refine ⟨_, _, d1, d2, shapedP l1 d, shapedP l2 d, ?_⟩
  rw [Pd.eqv]; exact q
end
mutual
def pdA : Any → PyData
  | .str s => .str s
  | .int i => .int i
  | .bl b => .bool b
  | .non => .none
  | .tup xs => .tuple (pdAL xs)
  | .lst xs => .list (pdAL xs)
  | .oth _ => .none
def pdAL : List Any → List PyData
  | [] => []
  | x :: xs => pdA x :: pdAL xs
end
mutual
def plA : Any → Bool
  | .tup xs => plAL xs
  | .lst xs => plAL xs
  | .oth _ => false
  | _ => true
def plAL : List Any → Bool
  | [] => true
  | x :: xs => plA x && plAL xs
end
section
variable {H : Hp}
mutual
theorem dpA : ∀ {v : V} {x : Any}, imAny H v x → plA x = true → Dp G.K H v (pdA x)
  | v, .str s, h, _ => by rw [imAny] at h; subst h; rw [pdA]; exact .str s
  | v, .int s, h, _ => by rw [imAny] at h; subst h; rw [pdA]; exact .int s
  | v, .bl s, h, _ => by rw [imAny] at h; subst h; rw [pdA]; exact .bl s
  | v, .non, h, _ => by rw [imAny] at h; subst h; rw [pdA]; exact .non
  | v, .tup xs, h, l => by
    rw [imAny] at h; rw [plA] at l; rw [pdA]
    obtain ⟨a, vs, rfl, g, m⟩ := h
    exact .tup (SqT.of g) (dpAL m l)
  | v, .lst xs, h, l => by
    rw [imAny] at h; rw [plA] at l; rw [pdA]
    obtain ⟨a, vs, rfl, ⟨o, g⟩, m⟩ := h
    exact .lst (.inl (.inr ⟨o, g⟩)) (dpAL m l)
  | v, .oth k, h, l => by rw [plA] at l; cases l
theorem dpAL : ∀ {vs : List V} {xs : List Any}, imAnyL H vs xs → plAL xs = true → DpAll G.K H vs (pdAL xs)
  | [], [], h, _ => by rw [pdAL]; exact .nil
  | v :: vs, x :: xs, h, l => by
    rw [imAnyL] at h; rw [plAL, Bool.and_eq_true] at l; rw [pdAL]
    exact .cons (dpA h.1 l.1) (dpAL h.2 l.2)
  | [], _ :: _, h, _ => by rw [imAnyL] at h; exact h.elim; all_goals simp
  | _ :: _, [], h, _ => by rw [imAnyL] at h; exact h.elim; all_goals simp
end
end
/-- x == y of things of any sort -/
def eqA (x y : Any) : R Bool := R.need (plA x = true ∧ plA y = true ∧ SeqAt.shaped (pdA x) = true ∧ SeqAt.shaped (pdA y) = true) (.ok (PyData.eqv (pdA x) (pdA y)))
section
variable {H : Hp} {σ : St} {ta tb : TE} {Q : VK} {v w : V} {x y : Any} {ρ : Type} {q : ρ → Prop} {e : Exc → Prop}
theorem wp_eqA {f : Bool → R ρ} (h : R.wp ((eqA x y).bind f) q e) : ∃ b, (plA x = true ∧ plA y = true ∧ SeqAt.shaped (pdA x) = true ∧ SeqAt.shaped (pdA y) = true ∧ b = PyData.eqv (pdA x) (pdA y)) ∧ R.wp (f b) q e := by
  unfold eqA R.need at h
  by_cases c : plA x = true ∧ plA y = true ∧ SeqAt.shaped (pdA x) = true ∧ SeqAt.shaped (pdA y) = true
  · rw [if_pos c] at h; exact ⟨_, ⟨c.1, c.2.1, c.2.2.1, c.2.2.2, rfl⟩, h⟩
  · rw [if_neg c] at h; exact h.elim
end
end Ml
namespace L2
open PySem PySem.Spec PyProof.Rows
/-- list + list, either may be locked -/
def rCatR : R2 := fun x y H Q => ∃ l b xs zs, x = .ref l ∧ y = .ref b ∧ Rd H l (.lst xs) ∧ Rd H b (.lst zs) ∧ xs.length + zs.length ≤ sizeLine ∧ ∀ p, H p = none → Q (.ref p) (upd H p (.lst (xs ++ zs)))
theorem op_catR {X : Cx} : OpR X (binaryOp .Add) rCatR := by
  intro pins s σ H x y v u Q I rx ry h
  obtain ⟨l, b, xs, zs, rfl, rfl, hH, hB, hz, q⟩ := h
  cases rx
  cases ry
  obtain ⟨z, its, n, r, e⟩ := hH.ok I.hok
  obtain ⟨z2, its2, n2, r2, e2⟩ := hB.ok I.hok
  have hl := r.length
  have hl2 := r2.length
  refine PySem.P.add_list e e2 ?_ (by rw [List.size_toArray, List.size_toArray]; omega)
  have ea : its.toArray ++ its2.toArray = (its ++ its2).toArray := by simp
  rw [ea]
  exact ⟨.ref _, _, I.lnew (t' := s.toks) (r.append r2) (by rw [List.length_append]; omega), rfl, q _ I.fresh⟩
end L2
namespace Ml
open PySem L2
namespace R
variable {α β ρ : Type} {q : α → Prop} {e : Exc → Prop}
def noexc : R α → R α
  | .ok a => .ok a
  | _ => .bad
theorem wp_noexc {m : R α} {f : α → R β} {q : β → Prop} (h : wp ((noexc m).bind f) q e) : wp m (fun a => wp (f a) q e) (fun _ => False) := by
  cases m with
  | ok a => exact h
  | exc x => exact h.elim
  | bad => exact h.elim
end R
def contF {σ ρ β : Type} (k : σ → R β) (o : ρ → R β) : Fl σ ρ → R β
  | .go s => k s
  | .brk s => k s
  | .out r => o r
/-- an exception as it is wished for -/
def Eok (G : Gx) (x : Exc) (E : XK) (H : Hp) : Prop := E (.ref (G.cl x.cls)) none H
variable {G : Gx}
section
variable {σ σ' : St} {H : Hp} {L L' : List (Asn G)} {D : Ends} {Q : VK} {te ta tb : TE} {α β τ ρ : Type} {v w : V} {q : ρ → Prop} {e : Exc → Prop}
theorem k_catG [Im G α] {a b : Addr} {xs ys : List α} (hS : Sep H L) (h1 : ∃ vs, Rd H a (.lst vs) ∧ imL (G := G) H vs xs) (h2 : ∃ vs, Rd H b (.lst vs) ∧ imL (G := G) H vs ys) (z : xs.length + ys.length ≤ sizeLine)
    (k : ∀ p H', Sep H' (lstA p (xs ++ ys) :: L) → Q (.ref p) H') : rCatR (.ref a) (.ref b) H Q := by
  obtain ⟨vs, r1, m1⟩ := h1
  obtain ⟨ws, r2, m2⟩ := h2
  exact ⟨a, b, vs, ws, rfl, rfl, r1, r2, by rw [m1.len, m2.len]; exact z, fun p hp => k p _ (hS.newL hp (m1.app m2))⟩
theorem k_slG [Im G α] {a : Addr} {xs : List α} {lo hi : Option Int} (hS : Sep H L) (h : ∃ vs, SqL G.K H a vs ∧ imL (G := G) H vs xs)
    (k : ∀ p H', Sep H' (lstA p (cutL xs lo hi) :: L) → Q (.ref p) H') : rSlL G.K (.ref a) lo hi H Q := by
  obtain ⟨vs, h, m⟩ := h
  exact ⟨a, vs, rfl, h, fun p hp => k p _ (hS.newL hp (cutL_im m))⟩
theorem ev_lenG [Im G α] {a : Addr} {xs : List α} (ha : Ev ta σ H (.ref a)) (h : ∃ vs, SqL G.K H a vs ∧ imL (G := G) H vs xs) : Ev (tCB (rLenSq G.K) (tCons ta tNil)) σ H (.int xs.length) := by
  obtain ⟨vs, s, m⟩ := h
  have := ev_lenL ha s
  rw [m.len] at this
  exact this
theorem k_lenG [Im G α] {a : Addr} {xs : List α} (h : ∃ vs, SqL G.K H a vs ∧ imL (G := G) H vs xs) (q : Q (.int xs.length) H) : rLenSq G.K [.ref a] H Q := by
  obtain ⟨vs, s, m⟩ := h
  exact ⟨a, vs, rfl, .inl s, by rw [m.len]; exact q⟩
/-- the rule on values alone -/
theorem ev_op2 {r : R2} {x y : V} (h : Ev (tOp r (tC x) (tC y)) [] H v) (q : Q v H) : r x y H Q := h Q q
theorem imL_strs : ∀ (ys : List Str), imL (G := G) H (ys.map V.str) ys
  | [] => True.intro
  | y :: ys => ⟨rfl, imL_strs ys⟩
section
variable {acc y : Str} {ts : List TE} {te : TE} {P : Str → Hp → Prop}
theorem f_fc (h : Ev te σ H (.str y)) (z : (acc ++ y).length ≤ sizeLine) (k : tJs ts (acc ++ y) σ H P) : tJs (te :: ts) acc σ H P := h _ ⟨y, rfl, z, k⟩
theorem f_fs (h : Ev te σ H (.str y)) (l : y.length ≤ sizeLine) (z : (acc ++ y).length ≤ sizeLine) (k : tJs ts (acc ++ y) σ H P) : tJs (tFmt te :: ts) acc σ H P := h _ (.inl ⟨y, rfl, l, y, rfl, z, k⟩)
theorem f_je (k : P acc H) : tJs [] acc σ H P := k
end
theorem imL.erase [Im G α] : ∀ {vs : List V} {xs : List α} (n : Nat), imL (G := G) H vs xs → imL (G := G) H (vs.eraseIdx n) (xs.eraseIdx n)
  | [], [], n, _ => by simp [imL]
  | v :: vs, x :: xs, 0, h => h.2
  | v :: vs, x :: xs, n + 1, h => ⟨h.1, imL.erase n h.2⟩
  | [], _ :: _, _, h => h.elim
  | _ :: _, [], _, h => h.elim
theorem Sep.newI {C x dx : Addr} (h : Sep H L) (hx : H x = none) (hd : H dx = none) (ne : dx ≠ x) (n : ¬ G.fz C = some 0) : Sep (upd (upd H dx (.own x)) x (.ins C dx [])) (cell x (.ins C dx []) :: L) := by
  have h1 := h.more (same_new (o := HO.own x) hd)
  refine h1.new (o := .ins C dx []) (by rw [upd_ne (Ne.symm ne)]; exact hx) ?_
  show decide (G.fz C = some 0) = false
  exact decide_eq_false n
theorem c_sfld {K : PySem.W.Frag} {f : Str} (h : tb σ H fun y H1 => ta σ H1 fun x H2 => ∃ a C dx fs, x = .ref a ∧ H2 a = some (.ins C dx fs) ∧ Cls K C ∧ NoAttr K C f ∧ fs.length < 1000 ∧ D.nx σ (upd H2 a (.ins C dx (putF f y fs)))) : sFld K ta tb f D σ H := h
theorem k_sfld {K : PySem.W.Frag} {i : Nat} {a C dx : Addr} {fs fs' : List (Str × V)} {f : Str} {y : V} (hS : Sep H L) (e : L[i]? = some (cell a (.ins C dx fs))) (c : Cls K C) (n : NoAttr K C f) (ef : putF f y fs = fs') (hl : fs.length < 1000)
    (np : per G (.ins C dx fs') = false) (eL : L.set i (cell a (.ins C dx fs')) = L') (k : ∀ H', Sep H' L' → D.nx σ H') :
    ∃ a' C' dx' fs'', V.ref a = .ref a' ∧ H a' = some (.ins C' dx' fs'') ∧ Cls K C' ∧ NoAttr K C' f ∧ fs''.length < 1000 ∧ D.nx σ (upd H a' (.ins C' dx' (putF f y fs''))) := by
  refine ⟨a, C, dx, fs, rfl, hS.getCell e, c, n, hl, ?_⟩
  rw [ef]
  refine k _ ?_
  subst eL
  exact hS.put e np rfl
theorem c_meth {C : Addr} {m : Str} {sp : Sp} {dvs : List V} {E : XK} {t : TA} (h : ta σ H fun x H1 => ∃ a dx fs, x = .ref a ∧ H1 a = some (.ins C dx fs) ∧ fs.lookup m = none ∧ t σ H1 fun vs H2 => sp (x :: (vs ++ dvs)) H2 Q E) : tMeth C m sp dvs E ta t σ H Q := h
theorem c_make {C : Addr} {sp : Sp} {dvs : List V} {E : XK} {t : TA} (h : t σ H fun vs H1 => ∀ x dx, H1 x = none → H1 dx = none → dx ≠ x → sp (.ref x :: (vs ++ dvs)) (upd (upd H1 dx (.own x)) x (.ins C dx [])) (fun v H2 => v = .non ∧ Q (.ref x) H2) E) : tMake C sp dvs E t σ H Q := h
theorem c_retN (h : D.rt .non H) : tRetN D σ H := h
theorem k_forF {J : It} {g : TG} {tb : TS} {im : Hp → V → α → Prop} {xs : List α} {f : τ → α → R (Fl τ ρ)} {β : Type} {rest : τ → R β} {o : ρ → R β} {q : β → Prop} {e : Exc → Prop} {s : τ} (I : τ → L2.St → Hp → Prop)
    (w : ∀ s, Wk J (I s) im xs) (h0 : I s σ H) (hm : R.wp ((forF f xs s).bind (contF rest o)) q e)
    (turn : ∀ (s : τ) (x : α) (v : V) (σ : L2.St) (H : Hp) (q' : Fl τ ρ → Prop) (N B : L2.St → Hp → Prop), I s σ H → im H v x → R.wp (f s x) q' e → (∀ s' σ' H', q' (.go s') → I s' σ' H' → N σ' H') → (∀ s' σ' H', q' (.brk s') → I s' σ' H' → B σ' H') → (∀ r, q' (.out r) → R.wp (o r) q e) →
      g v σ H fun σ2 H2 => tb (loopD D N B) σ2 H2)
    (done : ∀ s σ H, R.wp (rest s) q e → I s σ H → D.nx σ H) : forK g tb D σ J H :=
  for_walkF (D := D) (I := I) (k := fun r => R.wp (contF rest o r) q e) w h0 (R.wp_bind hm) (fun s x v σ H q' N B hI hv hw h1 h2 h3 => turn s x v σ H q' N B hI hv hw h1 h2 h3) (fun s σ H h hI => done s σ H h hI)
theorem k_gT {K : PySem.W.Frag} {n : Nat} {t : TGs} {a : Addr} {us : List V} {P : St → Hp → Prop} (h : H a = some (.tup us)) (hl : us.length = n := by rfl) (k : t us σ H P) : gTup K n t (.ref a) σ H P := ⟨a, us, rfl, SqT.of h, hl, k⟩
theorem k_gC {i : Nat} {u : TGs} {us : List V} {P : St → Hp → Prop} (e : σ.set i (some v) = σ') (k : u us σ' H P) : gCons (gName i) u (v :: us) σ H P := ⟨v, us, rfl, by show u us (σ.set i (some v)) H P; rw [e]; exact k⟩
theorem k_gE {P : St → Hp → Prop} (k : P σ H) : gNil [] σ H P := ⟨rfl, k⟩
end
section
variable {X : Cx} (K : PySem.W.Frag) (hK : X.K = K := by rfl)
include hK
theorem pg_tupK {es : List Expr} {k : Nat} {pos : Pos} {t : TGs} {n : Nat} (hc : X.calm = true) (h : PGs X es t) (hn : (assignEach es X.env).length = n := by rfl) (hst : (assignEach es X.env).findIdx? (·.1) = none := by rfl) : PG X (.Tuple es k pos) (gTup K n t) := by
  subst hK; exact pg_tup hc h hn hst
end
end Ml
namespace L2
open PySem PySem.Spec PyProof.Rows
end L2
namespace Ml
open PySem PySem.Spec PyProof.Rows L2
variable {G : Gx}
theorem hu0 {k : Nat} {A : Around} (r : Room k A) : A.units + 65 < cLine := by have := r.un; omega
end Ml
namespace Ml
open PySem L2
section
variable {α β σ ρ : Type}
theorem forR_ok {f : σ → α → R σ} (I : List α → σ → Prop) : ∀ {xs : List α} {s : σ} (pre : List α), I pre s → (∀ p x q s, pre ++ xs = p ++ x :: q → I p s → ∃ s', f s x = .ok s' ∧ I (p ++ [x]) s') → ∃ s', forR f xs s = .ok s' ∧ I (pre ++ xs) s'
  | [], s, pre, h0, _ => ⟨s, rfl, by rw [List.append_nil]; exact h0⟩
  | x :: xs, s, pre, h0, hs => by
    obtain ⟨s1, e1, h1⟩ := hs pre x xs s rfl h0
    obtain ⟨s2, e2, h2⟩ := forR_ok I (xs := xs) (s := s1) (pre ++ [x]) h1 fun p y q s e => hs p y q s (by rw [← e]; simp)
    refine ⟨s2, ?_, by rw [List.append_assoc] at h2; exact h2⟩
    show (f s x).bind _ = _
    rw [e1, R.bind_ok]; exact e2
theorem forR_inv {f : σ → α → R σ} {xs : List α} {s : σ} (I : List α → σ → Prop) (h0 : I [] s) (hs : ∀ p x q s, xs = p ++ x :: q → I p s → ∃ s', f s x = .ok s' ∧ I (p ++ [x]) s') : ∃ s', forR f xs s = .ok s' ∧ I xs s' := by
  obtain ⟨s', h1, h2⟩ := forR_ok I (xs := xs) (s := s) [] h0 fun p x q s e => hs p x q s (by simpa using e)
  exact ⟨s', h1, by simpa using h2⟩
theorem forF_inv {f : σ → α → R (Fl σ ρ)} (I : List α → σ → Prop) : ∀ {xs : List α} {s : σ} (pre : List α), I pre s → (∀ p x q s, pre ++ xs = p ++ x :: q → I p s → ∃ s', f s x = .ok (.go s') ∧ I (p ++ [x]) s') → ∃ s', forF f xs s = .ok (.go s') ∧ I (pre ++ xs) s'
  | [], s, pre, h0, _ => ⟨s, rfl, by rw [List.append_nil]; exact h0⟩
  | x :: xs, s, pre, h0, hs => by
    obtain ⟨s1, e1, h1⟩ := hs pre x xs s rfl h0
    obtain ⟨s2, e2, h2⟩ := forF_inv I (xs := xs) (s := s1) (pre ++ [x]) h1 fun p y q s e => hs p y q s (by rw [← e]; simp)
    refine ⟨s2, ?_, by rw [List.append_assoc] at h2; exact h2⟩
    show (f s x).bind _ = _
    rw [e1, R.bind_ok]; exact e2
theorem compR_map {f : Unit → α → R (Unit × Option β)} {g : α → β} {xs : List α} (h : ∀ x, x ∈ xs → f () x = .ok ((), some (g x))) : compR f xs () = .ok ((), xs.map g) := by
  induction xs with
  | nil => rfl
  | cons x xs ih =>
    show (f () x).bind _ = _
    rw [h x (by simp), R.bind_ok, ih fun y hy => h y (by simp [hy])]
    rfl
theorem compR_filterMap {f : Unit → α → R (Unit × Option β)} {g : α → Option β} {xs : List α} (h : ∀ x, x ∈ xs → f () x = .ok ((), g x)) : compR f xs () = .ok ((), xs.filterMap g) := by
  induction xs with
  | nil => rfl
  | cons x xs ih =>
    show (f () x).bind _ = _
    rw [h x (by simp), R.bind_ok, ih fun y hy => h y (by simp [hy])]
    cases e : g x with
    | none => simp [e]
    | some y => simp [e]
theorem compR_all {f : Unit → α → R (Unit × Option β)} {xs : List α} (P : β → Prop) (h : ∀ x, x ∈ xs → ∃ y, f () x = .ok ((), some y) ∧ P y) : ∃ ys, compR f xs () = .ok ((), ys) ∧ ys.length = xs.length ∧ ∀ y, y ∈ ys → P y := by
  induction xs with
  | nil => exact ⟨[], rfl, rfl, by simp⟩
  | cons x xs ih =>
    obtain ⟨y, e, p⟩ := h x (by simp)
    obtain ⟨ys, e2, l, q⟩ := ih fun z hz => h z (by simp [hz])
    refine ⟨y :: ys, ?_, by simp [l], fun z hz => ?_⟩
    · show (f () x).bind _ = _
      rw [e, R.bind_ok, e2]; rfl
    · rcases List.mem_cons.mp hz with rfl | hz
      · exact p
      · exact q z hz
theorem idxR_mem {xs : List α} {i : Int} (h0 : 0 ≤ i) (h1 : i < xs.length) : ∃ x, idxR xs i = .ok x ∧ x ∈ xs ∧ xs[i.toNat]? = some x := by
  obtain ⟨x, h, _⟩ := atI_ok h0 h1
  exact ⟨x, idxR_ok h0 h, List.mem_of_getElem? h, h⟩
theorem mem_set {xs : List α} {j : Nat} {v x : α} (h : x ∈ xs.set j v) : x ∈ xs ∨ x = v := by
  rcases List.mem_or_eq_of_mem_set h with h | h
  · exact .inl h
  · exact .inr h
theorem sIx_nn {n d : Nat} {i : Int} (h : 0 ≤ i) : HT.sIx n d (some i) = min i.toNat n := by
  show (if i < 0 then (i + (n : Int)).toNat else min i.toNat n) = _
  rw [if_neg (by omega)]
theorem rngL_mem {lo x : Int} {n : Nat} (h : x ∈ rngL lo n) : lo ≤ x ∧ x < lo + n := by
  unfold rngL at h
  obtain ⟨i, hi, rfl⟩ := List.mem_map.mp h
  have := List.mem_range.mp hi
  omega
end
theorem tl_app (a b : Str) : (a ++ b).cps.toList = a.cps.toList ++ b.cps.toList := by
  show (a.cps ++ b.cps).toList = _
  rw [Array.toList_append]
theorem len_tl (x : Str) : x.length = x.cps.toList.length := by simp [Str.length]
theorem str_ext {x y : Str} (h : x.cps.toList = y.cps.toList) : x = y := Str.ext' (Array.toList_inj.mp h)
/-- all signs below 128 -/
def Asc (x : Str) : Prop := ∀ c, c ∈ x.cps.toList → c < 128
theorem Asc.app {a b : Str} (ha : Asc a) (hb : Asc b) : Asc (a ++ b) := fun c hc => by
  rw [tl_app] at hc
  rcases List.mem_append.mp hc with h | h
  · exact ha c h
  · exact hb c h
theorem Asc.lit {x : Str} (h : x.cps.toList.all (· < 128) = true) : Asc x := fun c hc => by
  have := List.all_eq_true.mp h c hc
  simpa using this
theorem Asc.lay {x : Str} (h : Asc x) : (Lay.lay x : Bool) = true := by
  show PyData.strOk x = true
  unfold PyData.strOk
  rw [← Array.all_toList]
  exact List.all_eq_true.mpr fun c hc => decide_eq_true (Nat.lt_trans (h c hc) (by decide))
theorem len_sg (c : Nat) : (sg c).length = 1 := rfl
theorem tl_num (n : Nat) : (Str.ofString (toString ((n : Nat) : Int))).cps.toList = TL.numL n := TL.tl_num n
end Ml
namespace Ml
open PySem L2
def Ok {α : Type} (m : R α) (P : α → Prop) : Prop := ∃ a, m = .ok a ∧ P a
namespace Ok
variable {α β σ ρ : Type} {P : ρ → Prop}
theorem ret {a : ρ} (h : P a) : Ok (.ok a) P := ⟨a, rfl, h⟩
theorem bind {m : R α} {f : α → R ρ} {Q : α → Prop} (h : Ok m Q) (k : ∀ a, Q a → Ok (f a) P) : Ok (m.bind f) P := by
  obtain ⟨a, e, q⟩ := h
  rw [e, R.bind_ok]; exact k a q
theorem bindE {m : R α} {f : α → R ρ} {a : α} (h : m = .ok a) (k : Ok (f a) P) : Ok (m.bind f) P := by
  rw [h, R.bind_ok]; exact k
theorem lets {a : α} {f : α → R ρ} (k : Ok (f a) P) : Ok ((R.ok a).bind f) P := k
theorem name {a : α} {f : α → R ρ} (k : ∀ y, y = a → Ok (f y) P) : Ok ((R.ok a).bind f) P := k a rfl
theorem need {p : Prop} [Decidable p] {m : R ρ} (h : p) (k : Ok m P) : Ok (R.need p m) P := by rw [R.need_pos h]; exact k
theorem ite {c : Prop} [Decidable c] {a b : R ρ} (h1 : c → Ok a P) (h2 : ¬ c → Ok b P) : Ok (if c then a else b) P := by
  by_cases h : c
  · rw [if_pos h]; exact h1 h
  · rw [if_neg h]; exact h2 h
theorem ifT {c : Prop} [Decidable c] {a b : R ρ} (h : c) (k : Ok a P) : Ok (if c then a else b) P := by rw [if_pos h]; exact k
theorem ifF {c : Prop} [Decidable c] {a b : R ρ} (h : ¬ c) (k : Ok b P) : Ok (if c then a else b) P := by rw [if_neg h]; exact k
theorem mono {Q : ρ → Prop} {m : R ρ} (h : Ok m Q) (k : ∀ a, Q a → P a) : Ok m P := by
  obtain ⟨a, e, q⟩ := h
  exact ⟨a, e, k a q⟩
theorem eq {m : R ρ} {v : ρ} (h : Ok m (· = v)) : m = .ok v := by
  obtain ⟨a, e, q⟩ := h
  rw [e, q]
theorem idx {xs : List α} {i : Int} {f : α → R ρ} (h0 : 0 ≤ i) (h1 : i < xs.length) (k : ∀ x, x ∈ xs → xs[i.toNat]? = some x → Ok (f x) P) : Ok ((idxR xs i).bind f) P := by
  obtain ⟨x, e, m, g⟩ := idxR_mem h0 h1
  rw [e, R.bind_ok]; exact k x m g
theorem forI {f : σ → α → R σ} {xs : List α} {s : σ} {rest : σ → R ρ} (I : List α → σ → Prop) (h0 : I [] s) (hs : ∀ p x q s, xs = p ++ x :: q → I p s → Ok (f s x) (I (p ++ [x]))) (k : ∀ s, I xs s → Ok (rest s) P) : Ok ((forR f xs s).bind rest) P :=
  bind (forR_inv I h0 hs) k
theorem forFI {τ : Type} {f : σ → α → R (Fl σ τ)} {xs : List α} {s : σ} {rest : Fl σ τ → R ρ} (I : List α → σ → Prop) (h0 : I [] s) (hs : ∀ p x q s, xs = p ++ x :: q → I p s → Ok (f s x) (fun r => ∃ s', r = .go s' ∧ I (p ++ [x]) s')) (k : ∀ s, I xs s → Ok (rest (.go s)) P) : Ok ((forF f xs s).bind rest) P := by
  obtain ⟨s', e, h⟩ := forF_inv (f := f) (xs := xs) I [] h0 fun p x q s hx hI => by
    obtain ⟨r, e, s', rfl, h⟩ := hs p x q s (by simpa using hx) hI
    exact ⟨s', e, h⟩
  exact bindE e (k s' (by simpa using h))
/-- a comprehension whose items all have Q -/
theorem comp {f : Unit → α → R (Unit × Option β)} {xs : List α} {rest : Unit × List β → R ρ} (Q : β → Prop) (h : ∀ x, x ∈ xs → Ok (f () x) (fun r => ∃ y, r.2 = some y ∧ Q y)) (k : ∀ ys, ys.length = xs.length → (∀ y, y ∈ ys → Q y) → Ok (rest ((), ys)) P) : Ok ((compR f xs ()).bind rest) P := by
  obtain ⟨ys, e, l, q⟩ := compR_all (f := f) (xs := xs) Q fun x hx => by
    obtain ⟨r, e, y, e2, hy⟩ := h x hx
    exact ⟨y, by rw [e, ← e2], hy⟩
  exact bindE e (k ys l q)
/-- .. whose items are told -/
theorem compM {f : Unit → α → R (Unit × Option β)} {xs : List α} {rest : Unit × List β → R ρ} (g : α → β) (h : ∀ x, x ∈ xs → Ok (f () x) (fun r => r.2 = some (g x))) (k : Ok (rest ((), xs.map g)) P) : Ok ((compR f xs ()).bind rest) P := by
  refine bindE (compR_map (g := g) fun x hx => ?_) k
  obtain ⟨r, e, e2⟩ := h x hx
  rw [e, ← e2]
theorem compF {f : Unit → α → R (Unit × Option β)} {xs : List α} {rest : Unit × List β → R ρ} (g : α → Option β) (h : ∀ x, x ∈ xs → Ok (f () x) (fun r => r.2 = g x)) (k : Ok (rest ((), xs.filterMap g)) P) : Ok ((compR f xs ()).bind rest) P := by
  refine bindE (compR_filterMap (g := g) fun x hx => ?_) k
  obtain ⟨r, e, e2⟩ := h x hx
  rw [e, ← e2]
end Ok
theorem pre_lt {α : Type} {xs p q : List α} {x : α} (e : xs = p ++ x :: q) : p.length < xs.length := by
  rw [e, List.length_append, List.length_cons]; omega
theorem lt_line {n m : Nat} (h : n ≤ m) (hm : m < 16777216) : n < sizeLine := Nat.lt_of_le_of_lt h hm
theorem le_line {n : Nat} (h : n ≤ 16777216) : n ≤ sizeLine := h
end Ml
namespace Ml
open PySem PySem.Spec PyProof.Rows L2
variable {G : Gx}
/-- a text, n times -/
def repS (a : Str) (n : Nat) : Str := ⟨(List.replicate n a.cps).foldl (· ++ ·) #[]⟩
theorem rep_tl (a : Str) (n : Nat) : (repS a n).cps.toList = (List.replicate n a.cps.toList).flatten := by
  have g : ∀ (n : Nat) (z : Array Nat), ((List.replicate n a.cps).foldl (· ++ ·) z).toList = z.toList ++ (List.replicate n a.cps.toList).flatten := by
    intro n
    induction n with
    | zero => intro z; simp
    | succ n ih => intro z; simp [List.replicate_succ, ih]
  show ((List.replicate n a.cps).foldl (· ++ ·) #[]).toList = _
  rw [g]; simp
theorem rep_len (a : Str) (n : Nat) : (repS a n).length = a.length * n := by
  rw [len_tl, rep_tl, len_tl]; simp [Nat.mul_comm]
def rRepS : R2 := fun x y H Q => ∃ (a : Str) (n : Int), x = .str a ∧ y = .int n ∧ -(2 ^ 62) ≤ n ∧ a.length * n.toNat ≤ sizeLine ∧ n < 2 ^ 62 ∧ Q (.str (repS a n.toNat)) H
theorem op_repS {X : Cx} : OpR X (binaryOp .Mult) rRepS := by
  intro pins s σ H x y v u Q I rx ry h
  obtain ⟨a, n, rfl, rfl, h1, h2, h3, q⟩ := h
  obtain ⟨t, rfl⟩ := rx
  obtain ⟨t2, rfl⟩ := ry
  refine PySem.P.mul_str (by rw [decide_eq_false (by omega), decide_eq_false (by omega)]; rfl) (fun z1 z2 => ?_) (fun z1 z2 => ?_) ?_
  · have hn : 0 < n := by omega
    intro z
    have h4 : (a.length : Int) * n ≤ 2 ^ 63 - 1 := by
      have e : ((a.length * n.toNat : Nat) : Int) = (a.length : Int) * n := by
        rw [Int.natCast_mul, Int.toNat_of_nonneg (by omega)]
      have := sizeLine_eq
      omega
    have := (Int.le_ediv_iff_mul_le hn).mpr h4
    omega
  · exact decide_eq_false (Nat.not_lt.mpr h2)
  · by_cases z : n < 1
    · rw [if_pos z]
      have e : n.toNat = 0 := by omega
      rw [e] at q
      exact ⟨by decide, ⟨.str Str.empty, H, I.tok _, ⟨_, rfl⟩, q⟩⟩
    · rw [if_neg z]
      by_cases c : (n == 1 || a.length == 0) = true
      · rw [if_pos c]
        have e : repS a n.toNat = a := by
          apply str_ext
          rw [rep_tl]
          rw [Bool.or_eq_true] at c
          rcases c with c | c
          · have : n = 1 := by simpa using c
            subst this; simp
          · have : a.length = 0 := by simpa using c
            have : a.cps.toList = [] := List.eq_nil_of_length_eq_zero (by rw [← len_tl]; exact this)
            rw [this]; simp
        rw [e] at q
        exact ⟨.str a, H, I, ⟨_, rfl⟩, q⟩
      · rw [if_neg c]
        exact ⟨by show (repS a n.toNat).length ≤ sizeLine; rw [rep_len]; exact h2, ⟨.str (repS a n.toNat), H, I.tok _, ⟨_, rfl⟩, q⟩⟩
theorem ev_repS {σ : L2.St} {H : Hp} {ta tb : TE} {a : Str} {n : Int} (ha : Ev ta σ H (.str a)) (hb : Ev tb σ H (.int n)) (h : a.length * n.toNat ≤ sizeLine ∧ -(2 ^ 62) ≤ n ∧ n < 2 ^ 62) : Ev (tOp rRepS ta tb) σ H (.str (repS a n.toNat)) :=
  ev_op ha hb fun Q q => ⟨a, n, rfl, rfl, h.2.1, h.1, h.2.2, q⟩
end Ml
namespace PySem.W
open PySem PySem.Spec PySem.Calls PyProof.Rows
end PySem.W
namespace Ml
open PySem PySem.Spec PyProof.Rows L2
variable {G : Gx}
inductive StV where
  | i (n : Int) | s (x : Script)
def stIm (G : Gx) (H : Hp) (v : V) : StV → Prop
  | .i n => v = .int n
  | .s s => Im.im G H v s
theorem stIm_st {H H' : Hp} {v : V} {x : StV} (h : stIm G H v x) (st : Stab G H H') : stIm G H' v x := by
  cases x with
  | i n => exact h
  | s s =>
    have h : Im.im G H v s := h
    exact (Im.st h st : Im.im G H' v s)
instance stvI : Im G StV := ⟨stIm G, fun h s => stIm_st h s⟩
end Ml
namespace L2
open PySem PySem.Spec PyProof.Rows
end L2
namespace Ml
open PySem PySem.Spec PyProof.Rows L2
variable {G : Gx} {H : Hp} {L : List (Asn G)} {Q : VK}
theorem imL_str : ∀ {vs : List V} {xs : List Str}, imL (G := G) H vs xs → imL (G := G) H vs (xs.map Any.str)
  | [], [], _ => True.intro
  | v :: vs, x :: xs, h => ⟨any_str.mpr h.1, imL_str h.2⟩
theorem any_lstS {v : V} {xs : List Str} (h : Im.im G H v xs) : Im.im G H v (Any.lst (xs.map Any.str)) := by
  obtain ⟨a, vs, e, g, m⟩ := h
  exact any_lsts.mpr ⟨a, vs, e, g, imL_str m⟩
end Ml
namespace Ml
open PySem PySem.Spec PyProof.Rows L2
variable {G : Gx} {κ β : Type} [Kx κ] [DecidableEq κ] [Im G β] {H : Hp} {L L' : List (Asn G)} {σ : L2.St} {Q : VK} {td ty tx : TE} {k : κ} {a : Addr} {xs : List (κ × β)} {i : Nat}
/-- d[k], k there -/
theorem ev_dget {v : V} {y : β} (hS : Sep H L) (e : L[i]? = some (dictA a xs)) (hd : Ev td σ H (.ref a)) (hy : Ev ty σ H (kV (Kx.key k))) (g : DGet H a (kV (Kx.key k)) (some v)) : Ev (tDGet td ty) σ H v :=
  fun Q q => hd _ (hy _ ⟨a, v, rfl, g, q⟩)
theorem dget_some {y : β} (hS : Sep H L) (e : L[i]? = some (dictA a xs)) (h : dget xs k = some y) : ∃ v, DGet H a (kV (Kx.key k)) (some v) ∧ Im.im G H v y := by
  obtain ⟨r, g, h1, _⟩ := dget_at hS e (k := k) h
  obtain ⟨v, rfl, m⟩ := h1 y rfl
  exact ⟨v, g, m⟩
/-- what d[k] wants: that k is there -/
def dgetR (xs : List (κ × β)) (k : κ) : R β := match dget xs k with
  | some y => .ok y
  | none => .bad
theorem wp_dget {ρ : Type} {q : ρ → Prop} {e : Exc → Prop} {f : β → R ρ} (h : R.wp ((dgetR xs k).bind f) q e) : ∃ y, dget xs k = some y ∧ R.wp (f y) q e := by
  unfold dgetR at h
  cases c : dget xs k with
  | none => rw [c] at h; exact h.elim
  | some y => rw [c] at h; exact ⟨y, rfl, h⟩
/-- d[k] = v -/
theorem k_setD {v : V} {y : β} {P : Hp → Prop} (hS : Sep H L) (e : L[i]? = some (dictA a xs)) (hv : Im.im G H v y) (hl : xs.length < sizeLine) (e2 : L.set i (dictA a (dput xs k y)) = L') (q : ∀ H', Sep H' L' → P H') : rSetD (.ref a) (kV (Kx.key k)) v H P := by
  obtain ⟨ps, h, m⟩ := hS.dict e
  refine ⟨a, _, rfl, .inl ⟨ps, Kx.key k, h, rfl, by rw [m.len]; exact hl, rfl⟩, q _ ?_⟩
  subst e2
  exact hS.putD e (m.put hv)
end Ml
namespace Ml
open PySem PySem.Spec PyProof.Rows L2
variable {G : Gx} {β : Type} {H : Hp} {M : List (Asn G)}
def elemsE (E : Addr → β → Asn G) (l : List (Addr × β)) : List (Asn G) := l.map fun q => E q.1 q.2
def listE (E : Addr → β → Asn G) (a : Addr) (xs : List β) : Asn G := exA fun (ps : List Addr) => andA (ps.length = xs.length) (star (cell a (.lst (ps.map V.ref)) :: elemsE E (ps.zip xs)))
/-- all but the j-th -/
def listH (E : Addr → β → Asn G) (a : Addr) (ps : List Addr) (xs : List β) (j : Nat) : Asn G := star (cell a (.lst (ps.map V.ref)) :: elemsE E ((ps.zip xs).eraseIdx j))
theorem erase_map {α γ : Type} (f : α → γ) : ∀ (l : List α) (j : Nat), (l.map f).eraseIdx j = (l.eraseIdx j).map f
  | [], j => by simp
  | x :: l, 0 => rfl
  | x :: l, j + 1 => by simp only [List.map_cons, List.eraseIdx_cons_succ]; rw [erase_map f l j]
theorem perm_out {α : Type} : ∀ {l : List α} {j : Nat} {x : α}, l[j]? = some x → (x :: l.eraseIdx j).Perm l
  | [], j, x, h => by cases h
  | y :: l, 0, x, h => by
    have : y = x := by simpa using h
    subst this; exact .refl _
  | y :: l, j + 1, x, h => by
    have h2 : l[j]? = some x := by simpa using h
    exact (List.Perm.swap y x _).trans ((perm_out h2).cons y)
theorem focusE {E : Addr → β → Asn G} {a : Addr} {xs : List β} {j : Nat} {x : β} (h : Sep H (listE E a xs :: M)) (hj : xs[j]? = some x) : ∃ ps p, ps.length = xs.length ∧ ps[j]? = some p ∧ Sep H (E p x :: listH E a ps xs j :: M) := by
  obtain ⟨ps, h⟩ := Sep.ex h
  obtain ⟨hl, h⟩ := Sep.and h
  have hlt : j < xs.length := (List.getElem?_eq_some_iff.mp hj).1
  have hp : ps[j]? = some ps[j] := List.getElem?_eq_getElem (by omega)
  refine ⟨ps, ps[j], hl, hp, ?_⟩
  have h := Sep.star1 h
  have hz : (ps.zip xs)[j]? = some (ps[j], x) := by
    rw [List.getElem?_zip_eq_some]; exact ⟨hp, hj⟩
  have hz2 : (elemsE E (ps.zip xs))[j]? = some (E ps[j] x) := by unfold elemsE; rw [List.getElem?_map, hz]; rfl
  have e : (elemsE E (ps.zip xs)).eraseIdx j = elemsE E ((ps.zip xs).eraseIdx j) := by unfold elemsE; rw [erase_map]
  have P := perm_out hz2
  rw [e] at P
  have h2 : Sep H (E ps[j] x :: ((cell a (.lst (ps.map V.ref)) :: elemsE E ((ps.zip xs).eraseIdx j)) ++ M)) := by
    refine h.perm ?_
    have := (P.symm.cons (cell (G := G) a (.lst (ps.map V.ref)))).append_right M
    exact this.trans (by exact List.Perm.swap _ _ _)
  have h3 : Sep H ((cell a (.lst (ps.map V.ref)) :: elemsE E ((ps.zip xs).eraseIdx j)) ++ (E ps[j] x :: M)) := h2.perm (List.perm_middle.symm)
  exact (Sep.unstar1 h3).perm (List.Perm.swap _ _ _)
theorem unfocusE {E : Addr → β → Asn G} {a : Addr} {xs : List β} {ps : List Addr} {j : Nat} {p : Addr} {y : β} (hl : ps.length = xs.length) (hp : ps[j]? = some p) (h : Sep H (E p y :: listH E a ps xs j :: M)) : Sep H (listE E a (xs.set j y) :: M) := by
  refine Sep.exI ps (Sep.andI (by rw [List.length_set]; exact hl) (Sep.unstar1 ?_))
  have hlt : j < ps.length := (List.getElem?_eq_some_iff.mp hp).1
  have hz : (ps.zip (xs.set j y))[j]? = some (p, y) := by
    rw [List.getElem?_zip_eq_some]; exact ⟨hp, by rw [List.getElem?_set_self (by omega)]⟩
  have hz2 : (elemsE E (ps.zip (xs.set j y)))[j]? = some (E p y) := by unfold elemsE; rw [List.getElem?_map, hz]; rfl
  have e0 : (ps.zip (xs.set j y)).eraseIdx j = (ps.zip xs).eraseIdx j := by
    clear h hz hz2
    induction ps generalizing xs j with
    | nil => cases hp
    | cons q ps ih =>
      cases xs with
      | nil => cases hl
      | cons x xs =>
        cases j with
        | zero => rfl
        | succ j =>
          simp only [List.set_cons_succ, List.zip_cons_cons, List.eraseIdx_cons_succ]
          rw [ih (by simpa using hl) (by simpa using hp) (by simpa using hlt)]
  have e : (elemsE E (ps.zip (xs.set j y))).eraseIdx j = elemsE E ((ps.zip xs).eraseIdx j) := by unfold elemsE; rw [erase_map, e0]
  have P := perm_out hz2
  rw [e] at P
  have h1 : Sep H ((cell a (.lst (ps.map V.ref)) :: elemsE E ((ps.zip xs).eraseIdx j)) ++ (E p y :: M)) := Sep.star1 (h.perm (List.Perm.swap _ _ _))
  have h2 : Sep H (E p y :: ((cell a (.lst (ps.map V.ref)) :: elemsE E ((ps.zip xs).eraseIdx j)) ++ M)) := h1.perm List.perm_middle
  refine h2.perm ?_
  have := (P.cons (cell (G := G) a (.lst (ps.map V.ref)))).append_right M
  exact (List.Perm.swap _ _ _).trans this
end Ml
namespace Ml
open PySem PySem.Spec PyProof.Rows L2
variable {G : Gx} {κ β : Type} [Kx κ] [DecidableEq κ] {H : Hp} {M : List (Asn G)}
def refsD (kvs : List (κ × β)) (ps : List Addr) : List (Key × V) := List.zipWith (fun kv p => (Kx.key kv.1, V.ref p)) kvs ps
def dictE (E : Addr → β → Asn G) (a : Addr) (kvs : List (κ × β)) : Asn G := exA fun (ps : List Addr) => andA (ps.length = kvs.length ∧ (kvs.map (·.1)).Nodup) (star (cell a (.dK (refsD kvs ps)) :: elemsE E (ps.zip (kvs.map (·.2)))))
theorem refs_val {kvs : List (κ × β)} {ps : List Addr} {j : Nat} {k : κ} {y : β} {p : Addr} (hl : ps.length = kvs.length) (hn : (kvs.map (·.1)).Nodup) (hj : kvs[j]? = some (k, y)) (hp : ps[j]? = some p) : valV (refsD kvs ps) (Kx.key k) = some (.ref p) := by
  induction kvs generalizing ps j with
  | nil => cases hj
  | cons kv kvs ih =>
    cases ps with
    | nil => cases hl
    | cons q ps =>
      cases j with
      | zero =>
        have h1 : kv = (k, y) := by simpa using hj
        have h2 : q = p := by simpa using hp
        subst h1 h2
        show valV ((Kx.key k, V.ref q) :: refsD kvs ps) (Kx.key k) = _
        unfold valV
        simp
      | succ j =>
        have hj' : kvs[j]? = some (k, y) := by simpa using hj
        have hp' : ps[j]? = some p := by simpa using hp
        rw [List.map_cons, List.nodup_cons] at hn
        have hk : ¬ kv.1 = k := fun e => hn.1 (List.mem_map.mpr ⟨(k, y), List.mem_of_getElem? hj', e.symm⟩)
        have := ih (ps := ps) (j := j) (by simpa using hl) hn.2 hj' hp'
        show valV ((Kx.key kv.1, V.ref q) :: refsD kvs ps) (Kx.key k) = _
        unfold valV at this ⊢
        have hk2 : ¬ Kx.key kv.1 = Kx.key k := fun e => hk (Kx.inj e)
        simpa [hk2] using this
theorem zip_hole {ps : List Addr} {xs : List β} {j : Nat} {z : β} (hl : ps.length = xs.length) : (ps.zip (xs.set j z)).eraseIdx j = (ps.zip xs).eraseIdx j := by
  induction ps generalizing xs j with
  | nil => simp
  | cons q ps ih =>
    cases xs with
    | nil => cases hl
    | cons x xs =>
      cases j with
      | zero => rfl
      | succ j =>
        simp only [List.set_cons_succ, List.zip_cons_cons, List.eraseIdx_cons_succ]
        rw [ih (by simpa using hl)]
theorem put_at {kvs : List (κ × β)} {j : Nat} {k : κ} {y z : β} (hn : (kvs.map (·.1)).Nodup) (hj : kvs[j]? = some (k, y)) : dput kvs k z = kvs.set j (k, z) := by
  have hany : (kvs.any fun kv => decide (kv.1 = k)) = true := List.any_eq_true.mpr ⟨(k, y), List.mem_of_getElem? hj, by simp⟩
  unfold dput
  rw [if_pos hany]
  clear hany
  induction kvs generalizing j with
  | nil => cases hj
  | cons kv kvs ih =>
    rw [List.map_cons, List.nodup_cons] at hn
    cases j with
    | zero =>
      have h1 : kv = (k, y) := by simpa using hj
      subst h1
      have : kvs.map (fun kv => if kv.1 = k then (kv.1, z) else kv) = kvs := by
        have : ∀ q, q ∈ kvs → (if q.1 = k then (q.1, z) else q) = q := fun q hq => by
          rw [if_neg]
          intro e
          exact hn.1 (List.mem_map.mpr ⟨q, hq, e⟩)
        conv => rhs; rw [← List.map_id kvs]
        exact List.map_congr_left this
      simp [this]
    | succ j =>
      have hj' : kvs[j]? = some (k, y) := by simpa using hj
      have hk : ¬ kv.1 = k := fun e => hn.1 (List.mem_map.mpr ⟨(k, y), List.mem_of_getElem? hj', e.symm⟩)
      rw [List.map_cons, if_neg hk, List.set_cons_succ, ih hn.2 hj']
end Ml
namespace Ml
open PySem PySem.Spec PyProof.Rows L2
variable {G : Gx} {κ β : Type} [Kx κ] [DecidableEq κ] {H : Hp} {M : List (Asn G)}
theorem refs_new {y : β} {kvs : List (κ × β)} {ps : List Addr} {k : κ} {p : Addr} (hl : ps.length = kvs.length) (hk : ¬ k ∈ kvs.map (·.1)) : putK (refsD kvs ps) (Kx.key k) (.ref p) = refsD (kvs ++ [(k, y)]) (ps ++ [p]) := by
  have h1 : (refsD kvs ps).any (fun kv => decide (kv.1 = Kx.key k)) = false := by
    rw [Bool.eq_false_iff]
    intro z
    obtain ⟨q, hq, e⟩ := List.any_eq_true.mp z
    have e := of_decide_eq_true e
    unfold refsD at hq
    induction kvs generalizing ps with
    | nil => simp at hq
    | cons kv kvs ih =>
      cases ps with
      | nil => cases hl
      | cons r ps =>
        rw [List.zipWith_cons_cons] at hq
        rcases List.mem_cons.mp hq with rfl | hq
        · exact hk (by rw [List.map_cons]; exact List.mem_cons.mpr (.inl (Kx.inj e).symm))
        · exact ih (ps := ps) (by simpa using hl) (fun m => hk (by rw [List.map_cons]; exact List.mem_cons_of_mem _ m)) (by
            refine List.any_eq_true.mpr ⟨q, hq, by simpa using e⟩) hq
  unfold putK
  rw [h1]
  unfold refsD
  rw [List.zipWith_append hl.symm]
  rfl
theorem refs_len {kvs : List (κ × β)} {ps : List Addr} (hl : ps.length = kvs.length) : (refsD kvs ps).length = kvs.length := by
  unfold refsD
  rw [List.length_zipWith]; omega
/-- d[k] = v, v an own thing, k new -/
theorem k_newE {E : Addr → β → Asn G} {a : Addr} {kvs : List (κ × β)} {k : κ} {p : Addr} {y : β} {P : Hp → Prop} (h : Sep H (dictE E a kvs :: E p y :: M)) (hk : ¬ k ∈ kvs.map (·.1)) (hz : kvs.length < sizeLine)
    (q : ∀ H', Sep H' (dictE E a (kvs ++ [(k, y)]) :: M) → P H') : rSetD (.ref a) (kV (Kx.key k)) (.ref p) H P := by
  obtain ⟨ps, h⟩ := Sep.ex h
  obtain ⟨⟨hl, hn⟩, h⟩ := Sep.and h
  have h := Sep.star1 h
  have hc : H a = some (.dK (refsD kvs ps)) := h.getCell (i := 0) rfl
  refine ⟨a, _, rfl, .inl ⟨refsD kvs ps, Kx.key k, hc, rfl, by rw [refs_len hl]; exact hz, rfl⟩, q _ ?_⟩
  have h2 := h.put (i := 0) (a := a) (o := .dK (refsD kvs ps)) (o' := .dK (putK (refsD kvs ps) (Kx.key k) (.ref p))) rfl rfl rfl
  refine Sep.exI (ps ++ [p]) (Sep.andI ⟨by rw [List.length_append, List.length_append, hl]; rfl, ?_⟩ (Sep.unstar1 ?_))
  · rw [List.map_append, List.nodup_append]
    refine ⟨hn, by simp, fun x hx z hz => ?_⟩
    rw [List.map_singleton, List.mem_singleton] at hz
    intro e
    have hz : z = k := hz
    exact hk (by rw [← hz, ← e]; exact hx)
  · have e1 : elemsE E ((ps ++ [p]).zip ((kvs ++ [(k, y)]).map (·.2))) = elemsE E (ps.zip (kvs.map (·.2))) ++ [E p y] := by
      unfold elemsE
      rw [List.map_append, List.zip_append (by rw [List.length_map]; exact hl), List.map_append]
      rfl
    rw [e1, ← refs_new (y := y) hl hk]
    have : ((cell a (.dK (putK (refsD kvs ps) (Kx.key k) (.ref p))) :: elemsE E (ps.zip (kvs.map (·.2)))) ++ (E p y :: M)) = ((cell a (.dK (putK (refsD kvs ps) (Kx.key k) (.ref p))) :: (elemsE E (ps.zip (kvs.map (·.2))) ++ [E p y])) ++ M) := by simp
    rw [← this]
    exact h2
end Ml
namespace PySem.SeqAt
open AutoSeq1 (wpAny_loadPart')
open MeetsSeq MeetsSeq2 MeetsSeq3
section
variable {prog : Program} {w : World} {A : Around} {s : Shared} {E : Value → Shared → Prop}
def DictAt (s : Shared) (d : Addr) : Prop := ∃ dd es ep sl, s.heap.get? d = some ⟨.type "dict", dd, .dict es ep, sl⟩
theorem DictAt.ty {d : Addr} (h : DictAt s d) : s.TypeIs (.ref d) "dict" := by obtain ⟨dd, es, ep, sl, h⟩ := h; exact ⟨_, h, rfl⟩
end
end PySem.SeqAt
namespace L2
open PySem PySem.Spec PyProof.Rows
end L2
namespace Ml
open PySem PySem.Spec PyProof.Rows L2
variable {G : Gx} {H : Hp} {L : List (Asn G)} {Q : VK}
theorem R.need_rev {α : Type} {p : Prop} {inst : Decidable p} {k : R α} {q : α → Prop} {e : Exc → Prop} {Z : Prop} (f : p → k.wp q e → Z) (h : (@R.need α p inst k).wp q e) : Z := f (R.wp_need h).1 (R.wp_need h).2
end Ml
namespace Ml
open PySem PySem.Spec PyProof.Rows
def leT (a b : Str) : Bool := !decide (b.cps.toList < a.cps.toList)
theorem leT_iff {a b : Str} : leT a b = true ↔ a.cps.toList ≤ b.cps.toList := by
  unfold leT
  rw [Bool.not_eq_true', decide_eq_false_iff_not]
  exact List.not_lt
theorem leT_tr (a b c : Str) (x : leT a b = true) (y : leT b c = true) : leT a c = true := leT_iff.mpr (List.le_trans (leT_iff.mp x) (leT_iff.mp y))
theorem leT_tot (a b : Str) : (leT a b || leT b a) = true := by
  rw [Bool.or_eq_true]
  exact (List.le_total a.cps.toList b.cps.toList).imp leT_iff.mpr leT_iff.mpr
theorem leT_anti {a b : Str} (x : leT a b = true) (y : leT b a = true) : a = b := by
  have e := List.le_antisymm (leT_iff.mp x) (leT_iff.mp y)
  obtain ⟨⟨xs⟩⟩ := a
  obtain ⟨⟨ys⟩⟩ := b
  cases e
  rfl
def sortT (xs : List Str) : List Str := xs.mergeSort leT
theorem sortT_perm (xs : List Str) : (sortT xs).Perm xs := List.mergeSort_perm xs leT
theorem sortT_up (xs : List Str) : (sortT xs).Pairwise (fun a b => leT a b = true) := List.pairwise_mergeSort leT_tr leT_tot xs
theorem up_one : ∀ {xs ys : List Str}, xs.Pairwise (fun a b => leT a b = true) → ys.Pairwise (fun a b => leT a b = true) → xs.Perm ys → xs = ys
  | [], ys, _, _, p => p.nil_eq
  | x :: r, [], _, _, p => absurd p.length_eq (by simp)
  | x :: r, y :: t, ux, uy, p => by
    have ex : x = y := by
      by_cases z : x = y
      · exact z
      · have mx : x ∈ t := (List.mem_cons.mp (p.mem_iff.mp List.mem_cons_self)).resolve_left z
        have my : y ∈ r := (List.mem_cons.mp (p.mem_iff.mpr List.mem_cons_self)).resolve_left (fun q => z q.symm)
        exact leT_anti (List.rel_of_pairwise_cons ux my) (List.rel_of_pairwise_cons uy mx)
    subst ex
    rw [up_one (List.pairwise_cons.mp ux).2 (List.pairwise_cons.mp uy).2 (p.cons_inv)]
theorem rising_leT : ∀ {p : Str} {xs : List Str}, risingS p xs = true → (p :: xs).Pairwise (fun a b => leT a b = true)
  | p, [], _ => List.pairwise_singleton _ _
  | p, x :: r, h => by
    have h' : (!ltCps x.cps.toList p.cps.toList && risingS x r) = true := h
    rw [Bool.and_eq_true, ltCps_eq] at h'
    have t := rising_leT h'.2
    have px : leT p x = true := h'.1
    refine List.pairwise_cons.mpr ⟨fun y hy => ?_, t⟩
    rcases List.mem_cons.mp hy with e | e
    · rw [e]; exact px
    · exact leT_tr _ _ _ px (List.rel_of_pairwise_cons t e)
theorem sorted_leT : ∀ {xs : List Str}, sortedS xs = true → xs.Pairwise (fun a b => leT a b = true)
  | [], _ => List.Pairwise.nil
  | _ :: _, h => rising_leT h
theorem sortT_of {xs ys : List Str} (p : ys.Perm xs) (h : ys.Pairwise (fun a b => leT a b = true)) : ys = sortT xs := up_one h (sortT_up xs) (p.trans (sortT_perm xs).symm)
theorem sortT_congr {xs ys : List Str} (p : xs.Perm ys) : sortT xs = sortT ys := sortT_of ((sortT_perm xs).trans p) (sortT_up xs)
theorem perm_of_len : ∀ {xs ys : List Str}, xs.Nodup → (∀ x, x ∈ xs → x ∈ ys) → ys.length ≤ xs.length → ys.Perm xs
  | [], ys, _, _, l => by
    have e : ys = [] := List.length_eq_zero_iff.mp (Nat.le_zero.mp l)
    rw [e]
  | x :: r, ys, d, m, l => by
    obtain ⟨d1, d2⟩ := List.nodup_cons.mp d
    have hx := m x List.mem_cons_self
    have pe := List.perm_cons_erase hx
    refine pe.trans (List.Perm.cons x (perm_of_len d2 (fun y hy => ?_) ?_))
    · rcases List.mem_cons.mp (pe.mem_iff.mp (m y (List.mem_cons_of_mem _ hy))) with e | e
      · rw [e] at hy; exact absurd hy d1
      · exact e
    · have q := pe.length_eq
      simp only [List.length_cons] at q l
      omega
theorem nodup_len : ∀ {xs ys : List Str}, xs.Nodup → (∀ x, x ∈ xs → x ∈ ys) → xs.length ≤ ys.length
  | [], _, _, _ => Nat.zero_le _
  | x :: r, ys, d, m => by
    obtain ⟨d1, d2⟩ := List.nodup_cons.mp d
    have pe := List.perm_cons_erase (m x List.mem_cons_self)
    have q := pe.length_eq
    have t : r.length ≤ (ys.erase x).length := nodup_len d2 fun y hy => by
      rcases List.mem_cons.mp (pe.mem_iff.mp (m y (List.mem_cons_of_mem _ hy))) with e | e
      · rw [e] at hy; exact absurd hy d1
      · exact e
    simp only [List.length_cons] at q ⊢
    omega
theorem perm_same {xs ys : List Str} (d : xs.Nodup) (e : ys.Nodup) (m : ∀ x, x ∈ xs ↔ x ∈ ys) : xs.Perm ys := perm_of_len e (fun x h => (m x).mpr h) (nodup_len d fun x h => (m x).mp h)
end Ml
namespace L2
open PySem PySem.Spec PyProof.Rows PySem.Froz Ml
end L2
namespace L2
open PySem PySem.Spec PyProof.Rows Ml
section
variable {X : Cx}
theorem sortedSK (K : PySem.W.Frag) (hK : X.K = K := by rfl) : CallR X (.builtin "sorted") (rSortedS K) := by subst hK; exact cr_sortedS
end
end L2
namespace Ml
open PySem PySem.Spec PyProof.Rows L2
variable {G : Gx} {σ : L2.St} {H : Hp} {L : List (Asn G)} {Q : VK} {te : TE} {D : Ends}
theorem k_sorted {a : Addr} {xs : List Str} (hS : Sep H L) (hq : SqL G.K H a (xs.map (Fv.enc G))) (few : xs.length < 64) (k : ∀ p H', Sep H' (lstA p (sortT xs) :: L) → Q (.ref p) H') : rSortedS G.K [.ref a] H Q :=
  ⟨a, xs, rfl, hq, few, fun ys p pm up hp => by rw [sortT_of pm (sorted_leT up)]; exact k p _ (hS.newL hp (imL_strs _))⟩
theorem Sep.rdL {α : Type} [Im G α] {i : Nat} {a : Addr} {xs : List α} (hS : Sep H L) (e : L[i]? = some (lstA a xs)) : ∃ vs, Rd H a (.lst vs) ∧ imL (G := G) H vs xs := by
  obtain ⟨vs, h, m⟩ := hS.lst e
  exact ⟨vs, .inl h, m⟩
end Ml
namespace L2
open PySem PySem.Spec PyProof.Rows PySem.W
end L2
namespace Ml
open PySem PySem.Spec PyProof.Rows L2
variable {G : Gx} {σ : L2.St} {H H' : Hp} {L L' : List (Asn G)} {Q : VK} {te td ty : TE} {D : Ends}
structure Kt where
  l : List Str
  deriving DecidableEq
def Kt.ks (k : Kt) : List Key := k.l.map Sum.inr
theorem inr_inj : ∀ {xs ys : List Str}, xs.map (Sum.inr : Str → Key) = ys.map Sum.inr → xs = ys
  | [], [], _ => rfl
  | [], _ :: _, h => by cases h
  | _ :: _, [], h => by cases h
  | x :: xs, y :: ys, h => by
    simp only [List.map_cons, List.cons.injEq] at h
    rw [Sum.inr.inj h.1, inr_inj h.2]
theorem Kt.inj {a b : Kt} (h : a.ks = b.ks) : a = b := by
  obtain ⟨xs⟩ := a
  obtain ⟨ys⟩ := b
  have : xs = ys := inr_inj h
  rw [this]
instance imKt : Im G Kt := ⟨fun H v x => ∃ a, v = .ref a ∧ H a = some (.tup (x.l.map V.str)), fun ⟨a, e, h⟩ s => ⟨a, e, s.1 a _ h rfl⟩⟩
instance : IsRef G Kt := ⟨fun h => by obtain ⟨a, e, _⟩ := h; exact ⟨a, e⟩⟩
instance : Lay Kt := ⟨fun x => layAllB x.l⟩
theorem dpStrs {K : PySem.W.Frag} : ∀ xs : List Str, DpAll K H (xs.map V.str) (xs.map PyData.str)
  | [] => .nil
  | x :: r => .cons (.str x) (dpStrs r)
theorem depStrs : ∀ xs : List Str, PyData.depthAll (xs.map PyData.str) = 0
  | [] => rfl
  | x :: r => by
    show max (PyData.depth (.str x)) (PyData.depthAll (r.map PyData.str)) = 0
    rw [depStrs r]; rfl
def pdKt (k : Kt) : PyData := .tuple (k.l.map PyData.str)
theorem canStrs : ∀ xs : List Str, layAllB xs = true → PyData.canLayAll0 (xs.map PyData.str) = true
  | [], _ => rfl
  | x :: r, h => by
    have h : (Lay.lay x && layAllB r) = true := h
    rw [Bool.and_eq_true] at h
    show ((PyData.str x).canLay0 && PyData.canLayAll0 (r.map PyData.str)) = true
    rw [canStrs r h.2, show (PyData.str x).canLay0 = true from h.1]; rfl
theorem eqvStrs : ∀ xs ys : List Str, PyData.eqvAll (xs.map PyData.str) (ys.map PyData.str) = decide (xs = ys)
  | [], [] => rfl
  | [], _ :: _ => rfl
  | _ :: _, [] => rfl
  | x :: xs, y :: ys => by
    show (PyData.eqv (.str x) (.str y) && PyData.eqvAll (xs.map PyData.str) (ys.map PyData.str)) = _
    rw [eqvStrs xs ys, show PyData.eqv (.str x) (.str y) = decide (x = y) from str_beq x y]
    simp
instance pdKtI : Pd G Kt where
  pd := pdKt
  dep := 1
  dp := fun {H v x} h => by
    obtain ⟨a, rfl, g⟩ := h
    exact .tup (SqT.of g) (dpStrs x.l)
  lay_ok := fun x h => canStrs x.l h
  dep_ok := fun x => by
    show PyData.depthAll (x.l.map PyData.str) + 1 ≤ 1
    rw [depStrs]
    exact Nat.le_refl _
  eqv := fun x y => by
    show PyData.eqvAll (x.l.map PyData.str) (y.l.map PyData.str) = _
    rw [eqvStrs]
    obtain ⟨a⟩ := x; obtain ⟨b⟩ := y
    simp
end Ml
namespace Ml
open PySem PySem.Spec PyProof.Rows L2
variable {G : Gx}
section
variable {β : Type} [Im G β]
def imDT (H : Hp) : List (List Key × V) → List (Kt × β) → Prop
  | [], [] => True
  | p :: ps, q :: qs => (p.1 = q.1.ks ∧ Im.im G H p.2 q.2 ∧ ∃ b, H b = some (.tup (q.1.ks.map kV))) ∧ imDT H ps qs
  | _, _ => False
variable {H H' : Hp}
theorem imDT.st : ∀ {ps : List (List Key × V)} {qs : List (Kt × β)}, imDT (G := G) H ps qs → Stab G H H' → imDT (G := G) H' ps qs
  | [], [], _, _ => True.intro
  | _ :: _, _ :: _, h, s => ⟨⟨h.1.1, Im.st h.1.2.1 s, by obtain ⟨b, e⟩ := h.1.2.2; exact ⟨b, s.1 b _ e rfl⟩⟩, imDT.st h.2 s⟩
  | [], _ :: _, h, _ => h
  | _ :: _, [], h, _ => h
theorem imDT.len : ∀ {ps : List (List Key × V)} {qs : List (Kt × β)}, imDT (G := G) H ps qs → ps.length = qs.length
  | [], [], _ => rfl
  | _ :: _, _ :: _, h => by rw [List.length_cons, List.length_cons, imDT.len h.2]
  | [], _ :: _, h => h.elim
  | _ :: _, [], h => h.elim
theorem kt_dec (a b : Kt) : decide (a.ks = b.ks) = decide (a = b) := by
  by_cases h : a = b
  · subst h; simp
  · have : ¬ a.ks = b.ks := fun e => h (Kt.inj e)
    simp [h, this]
theorem imDT.val : ∀ {ps : List (List Key × V)} {qs : List (Kt × β)} (k : Kt), imDT (G := G) H ps qs → (∀ y, dget qs k = some y → ∃ v, valV ps k.ks = some v ∧ Im.im G H v y) ∧ (dget qs k = none → valV ps k.ks = none)
  | [], [], _, _ => ⟨fun y e => (by cases (show (none : Option β) = some y from e)), fun _ => rfl⟩
  | p :: ps, q :: qs, k, ⟨⟨e1, e2, _⟩, h⟩ => by
    have ih := imDT.val k h
    by_cases c : q.1 = k
    · have c1 : p.1 = k.ks := by rw [e1, c]
      have d : dget (q :: qs) k = some q.2 := by simp [dget, List.find?_cons, c]
      rw [d, valV_pos c1]
      exact ⟨fun y e => ⟨p.2, rfl, by cases e; exact e2⟩, fun e => by cases e⟩
    · have c1 : ¬ p.1 = k.ks := fun z => c (Kt.inj (e1.symm.trans z))
      have d : dget (q :: qs) k = dget qs k := by simp [dget, List.find?_cons, c]
      rw [d, valV_neg c1]
      exact ih
  | [], _ :: _, _, h => h.elim
  | _ :: _, [], _, h => h.elim
theorem imDT.any : ∀ {ps : List (List Key × V)} {qs : List (Kt × β)} (k : Kt), imDT (G := G) H ps qs → (ps.any fun kv => decide (kv.1 = k.ks)) = qs.any fun kv => decide (kv.1 = k)
  | [], [], _, _ => rfl
  | p :: ps, q :: qs, k, ⟨⟨e1, _⟩, h⟩ => by
    rw [List.any_cons, List.any_cons, imDT.any k h, e1, kt_dec]
  | [], _ :: _, _, h => h.elim
  | _ :: _, [], _, h => h.elim
theorem imDT.app : ∀ {ps rs : List (List Key × V)} {qs ts : List (Kt × β)}, imDT (G := G) H ps qs → imDT (G := G) H rs ts → imDT (G := G) H (ps ++ rs) (qs ++ ts)
  | [], _, [], _, _, h => h
  | _ :: _, _, _ :: _, _, h, k => ⟨h.1, imDT.app h.2 k⟩
  | [], _, _ :: _, _, h, _ => h.elim
  | _ :: _, _, [], _, h, _ => h.elim
theorem imDT.rep : ∀ {ps : List (List Key × V)} {qs : List (Kt × β)} {k : Kt} {v : V} {y : β}, imDT (G := G) H ps qs → Im.im G H v y →
    imDT (G := G) H (ps.map fun kv => if kv.1 = k.ks then (kv.1, v) else kv) (qs.map fun kv => if kv.1 = k then (kv.1, y) else kv)
  | [], [], _, _, _, _, _ => True.intro
  | p :: ps, q :: qs, k, v, y, ⟨⟨e1, e2, e3⟩, h⟩, hv => by
    refine ⟨?_, imDT.rep h hv⟩
    dsimp only
    by_cases c : q.1 = k
    · have c1 : p.1 = k.ks := by rw [e1, c]
      rw [if_pos c, if_pos c1]; exact ⟨e1, hv, e3⟩
    · have c1 : ¬ p.1 = k.ks := fun z => c (Kt.inj (e1.symm.trans z))
      rw [if_neg c, if_neg c1]; exact ⟨e1, e2, e3⟩
  | [], _ :: _, _, _, _, h, _ => h.elim
  | _ :: _, [], _, _, _, h, _ => h.elim
theorem imDT.put {ps : List (List Key × V)} {qs : List (Kt × β)} {k : Kt} {v : V} {y : β} (h : imDT (G := G) H ps qs) (hv : Im.im G H v y) (hb : ∃ b, H b = some (.tup (k.ks.map kV))) : imDT (G := G) H (putK ps k.ks v) (dput qs k y) := by
  unfold putK dput
  rw [h.any k]
  split
  · exact h.rep hv
  · exact h.app (rs := [(k.ks, v)]) (ts := [(k, y)]) ⟨⟨rfl, hv, hb⟩, True.intro⟩
theorem imDT.at : ∀ {ps : List (List Key × V)} {qs : List (Kt × β)} {j : Nat} {k : List Key} {v : V} {x : Kt}, imDT (G := G) H ps qs → ps[j]? = some (k, v) → (qs.map (·.1))[j]? = some x → k = x.ks
  | p :: _, q :: _, 0, k, v, x, h, e1, e2 => by
    have e1 : p = (k, v) := by simpa using e1
    have e2 : q.1 = x := by simpa using e2
    have := h.1.1
    rw [e1, e2] at this
    exact this
  | _ :: ps, _ :: qs, j + 1, k, v, x, h, e1, e2 => imDT.at (ps := ps) (qs := qs) (j := j) h.2 (by simpa using e1) (by simpa using e2)
  | [], _, _, _, _, _, _, e1, _ => by simp at e1
  | _ :: _, [], _, _, _, _, h, _, _ => h.elim
variable {L L' : List (Asn G)} {σ : L2.St} {Q : VK} {te td ty tx : TE} {k : Kt} {a b : Addr} {xs : List (Kt × β)} {i : Nat}
def dgetK2 (x : V) (Q : VK) : VK := fun y H2 => ∃ a v, x = .ref a ∧ DGet H2 a y (some v) ∧ Q v H2
def dgetK (ty : TE) (σ : L2.St) (Q : VK) : VK := fun x H1 => ty σ H1 (dgetK2 x Q)
theorem c_dget (h : td σ H (dgetK ty σ Q)) : tDGet td ty σ H Q := h
theorem k_dget1 {x : V} (h : ty σ H (dgetK2 x Q)) : dgetK ty σ Q x H := h
end
end Ml
namespace Ml
open PySem PySem.Spec PyProof.Rows L2
variable {G : Gx} {σ : L2.St} {H : Hp} {M L : List (Asn G)} {Q : VK}
def bind2 {α β ρ : Type} (m : R (α × β)) (f : α → β → R ρ) : R ρ := m.bind fun t => f t.1 t.2
theorem Ok.bind2 {α β ρ : Type} {m : R (α × β)} {f : α → β → R ρ} {P : ρ → Prop} {Z : α × β → Prop} (h : Ok m Z) (k : ∀ a b, Z (a, b) → Ok (f a b) P) : Ok (Ml.bind2 m f) P := .bind h fun r hr => k r.1 r.2 hr
section
variable {β : Type}
def ixJ (xs : List β) (i : Int) : R (Nat × β) := match ixN xs.length i with
  | some j => match xs[j]? with
    | some x => .ok (j, x)
    | none => .bad
  | none => .bad
theorem wp_ixJ {ρ : Type} {xs : List β} {i : Int} {f : Nat → β → R ρ} {q : ρ → Prop} {e : Exc → Prop} (h : R.wp (bind2 (ixJ xs i) f) q e) : ∃ j x, (ixN xs.length i = some j ∧ xs[j]? = some x) ∧ R.wp (f j x) q e := by
  unfold ixJ bind2 at h
  cases c : ixN xs.length i with
  | none => rw [c] at h; exact h.elim
  | some j =>
    rw [c] at h
    cases d : xs[j]? with
    | none => simp only [d] at h; exact h.elim
    | some x => simp only [d] at h; exact ⟨j, x, ⟨rfl, d⟩, h⟩
theorem ixK {E : Addr → β → Asn G} {a : Addr} {xs : List β} {i : Int} {j : Nat} {x : β} (hS : Sep H (listE E a xs :: M)) (h : ixN xs.length i = some j ∧ xs[j]? = some x)
    (k : ∀ ps p, ps.length = xs.length → ps[j]? = some p → Sep H (E p x :: listH E a ps xs j :: M) → Q (.ref p) H) : rIxL G.K (.ref a) (.int i) H Q := by
  obtain ⟨ps, p, hl, hp, hS⟩ := focusE hS h.2
  have h2 : Sep H (listH E a ps xs j :: E p x :: M) := hS.perm (List.Perm.swap _ _ _)
  have hc : H a = some (.lst (ps.map V.ref)) := (Sep.star1 h2).getCell (i := 0) rfl
  refine ⟨a, ps.map V.ref, i, .ref p, rfl, rfl, .inl (.inl hc), ?_, k ps p hl hp hS⟩
  unfold atI
  rw [List.length_map, hl, h.1]
  show (ps.map V.ref)[j]? = _
  rw [List.getElem?_map, hp]
  rfl
theorem set_same {xs : List β} {j : Nat} {x : β} (h : xs[j]? = some x) : xs.set j x = xs := by
  obtain ⟨h1, h2⟩ := List.getElem?_eq_some_iff.mp h
  rw [← h2]
  exact List.set_getElem_self h1
theorem unfocus0 {E : Addr → β → Asn G} {a : Addr} {xs : List β} {ps : List Addr} {j : Nat} {p : Addr} {x : β} (hl : ps.length = xs.length) (hp : ps[j]? = some p) (hx : xs[j]? = some x) (h : Sep H (E p x :: listH E a ps xs j :: M)) : Sep H (listE E a xs :: M) := by
  have := unfocusE hl hp h
  rw [set_same hx] at this
  exact this
end
end Ml
namespace L2
open PySem PySem.Spec PyProof.Rows
end L2
namespace Ml
open PySem PySem.Spec PyProof.Rows L2
variable {G : Gx}
section
variable {κ β : Type} [Kx κ] [DecidableEq κ] {H : Hp} {M L : List (Asn G)} {σ : L2.St} {Q : VK} {td ty : TE} {k : κ} {a : Addr} {kvs : List (κ × β)} {E : Addr → β → Asn G}
theorem dget_idx {κ β : Type} [DecidableEq κ] {k : κ} {kvs : List (κ × β)} {y : β} (h : dget kvs k = some y) : ∃ j : Nat, kvs[j]? = some (k, y) := by
  unfold dget at h
  obtain ⟨p, hp, e⟩ := Option.map_eq_some_iff.mp h
  have h1 := List.find?_some hp
  have h1 : p.1 = k := of_decide_eq_true h1
  obtain ⟨j, hj⟩ := List.getElem?_of_mem (List.mem_of_find?_eq_some hp)
  refine ⟨j, ?_⟩
  rw [hj, ← h1, ← e]
theorem refs_keys : ∀ {kvs : List (κ × β)} {ps : List Addr}, ps.length = kvs.length → (refsD kvs ps).map (·.1) = kvs.map fun q => Kx.key q.1
  | [], [], _ => rfl
  | kv :: kvs, p :: ps, h => by
    unfold refsD
    rw [List.zipWith_cons_cons, List.map_cons, List.map_cons]
    have := refs_keys (kvs := kvs) (ps := ps) (by simpa using h)
    unfold refsD at this
    rw [this]
  | [], _ :: _, h => by cases h
  | _ :: _, [], h => by cases h
def setE (kvs : List (κ × β)) (k : κ) (z : β) : List (κ × β) := if dhas kvs k = true then kvs else kvs ++ [(k, z)]
theorem dhas_no {κ β : Type} [DecidableEq κ] {k : κ} {kvs : List (κ × β)} (h : dget kvs k = none) : ¬ k ∈ kvs.map (·.1) := fun m => by
  obtain ⟨p, hp, e⟩ := List.mem_map.mp m
  unfold dget at h
  have h := Option.map_eq_none_iff.mp h
  have := List.find?_eq_none.mp h p hp
  exact this (decide_eq_true e)
end
end Ml
namespace L2
open PySem PySem.Spec PyProof.Rows
def Dsp (P : Program) (w : World) (K : PySem.W.Frag) (mg : Str → Option Value) (base : Heap) (CX : CXT) (k : Nat) (fam : Nat → Bool) (cl : Nat → Addr) (m : Str) (ps : List Str) (sp : Nat → Sp) : Prop :=
  ∀ i, fam i = true → ∃ f fd, Cls K (cl i) ∧ Meth K (cl i) m f ∧ Binds K fd ps [] ∧ FnOk P w K mg base CX k f fd ps (sp i)
theorem Dsp.mono {P : Program} {w : World} {K : PySem.W.Frag} {mg : Str → Option Value} {base : Heap} {CX : CXT} {j k : Nat} {fam : Nat → Bool} {cl : Nat → Addr} {m : Str} {ps : List Str} {sp : Nat → Sp} (D : Dsp P w K mg base CX j fam cl m ps sp) (h : j ≤ k) : Dsp P w K mg base CX k fam cl m ps sp := fun i hi => by
  obtain ⟨f, fd, a, b, c, F⟩ := D i hi
  exact ⟨f, fd, a, b, c, F.mono h⟩
end L2
namespace L2
open PySem PySem.Spec PyProof.Rows
end L2
namespace Ml
open PySem PySem.Spec PyProof.Rows L2
end Ml
namespace Ml
open PySem PySem.Spec PyProof.Rows L2
variable {G : Gx} {σ : L2.St} {H : Hp} {L L' : List (Asn G)} {Q : VK} {te : TE} {D : Ends}
section
variable {τ ρ : Type}
def whileN : Nat → (τ → Bool) → (τ → R τ) → τ → R τ
  | 0, _, _, _ => .bad
  | n + 1, c, f, s => if c s = true then (f s).bind (whileN n c f) else .ok s
theorem k_whileN {n : Nat} {c : τ → Bool} {f : τ → R τ} {s : τ} {rest : τ → R ρ} {q : ρ → Prop} {e : Exc → Prop} {tc : TT} {tb : TS} (I : τ → L2.St → Hp → Prop) (h0 : I s σ H) (hm : R.wp ((whileN n c f s).bind rest) q e)
    (test : ∀ s σ H, I s σ H → Et tc σ H (c s))
    (turn : ∀ s σ H (q' : τ → Prop) (N : L2.St → Hp → Prop), I s σ H → R.wp (f s) q' e → (∀ s' σ' H', q' s' → I s' σ' H' → N σ' H') → tb (loopD D N D.nx) σ H)
    (done : ∀ s σ H, R.wp (rest s) q e → I s σ H → D.nx σ H) : tWhile tc tb D σ H := by
  refine ⟨fun m σ H => ∃ s, I s σ H ∧ R.wp (whileN m c f s) (fun s => R.wp (rest s) q e) e, ⟨n, s, h0, R.wp_bind hm⟩, ?_⟩
  rintro m σ H ⟨s, hI, hw⟩
  cases m with
  | zero => exact hw.elim
  | succ m =>
    refine test s σ H hI _ ?_
    unfold whileN at hw
    cases h : c s with
    | false =>
      rw [h, if_neg Bool.false_ne_true] at hw
      rw [if_neg Bool.false_ne_true]
      exact done s σ H hw hI
    | true =>
      rw [h, if_pos rfl] at hw
      rw [if_pos rfl]
      exact ⟨fun σ' H' => ∃ s', I s' σ' H' ∧ R.wp (whileN m c f s') (fun s => R.wp (rest s) q e) e, fun σ' H' z => ⟨m, Nat.lt_succ_self _, z⟩,
        turn s σ H _ _ hI (R.wp_bind hw) fun s' σ' H' h1 h2 => ⟨s', h2, h1⟩⟩
theorem whileN_ok {c : τ → Bool} {f : τ → R τ} (I : τ → Prop) (w : τ → Nat) (hs : ∀ s, I s → c s = true → ∃ s', f s = .ok s' ∧ I s' ∧ w s' < w s) : ∀ (n : Nat) (s : τ), I s → w s < n → ∃ s', whileN n c f s = .ok s' ∧ I s' ∧ c s' = false
  | 0, s, _, h => absurd h (Nat.not_lt_zero _)
  | n + 1, s, hI, hn => by
    unfold whileN
    cases h : c s with
    | false => exact ⟨s, rfl, hI, h⟩
    | true =>
      rw [if_pos rfl]
      obtain ⟨s', e, h1, h2⟩ := hs s hI h
      rw [e, R.bind_ok]
      exact whileN_ok I w hs n s' h1 (by omega)
end
theorem R.wp_ifY {α : Type} {c : Prop} [Decidable c] {a b : R α} {q : α → Prop} {e : Exc → Prop} (h : R.wp (if c then a else b) q e) (x : c) : R.wp a q e := (R.wp_if h).1 x
theorem R.wp_ifN {α : Type} {c : Prop} [Decidable c] {a b : R α} {q : α → Prop} {e : Exc → Prop} (h : R.wp (if c then a else b) q e) (x : ¬ c) : R.wp b q e := (R.wp_if h).2 x
end Ml
namespace Ml
open PySem PySem.Spec PyProof.Rows L2
end Ml
namespace Ml
open PySem PySem.Spec PyProof.Rows L2
end Ml
namespace Ml
open PySem L2
end Ml
namespace Ml
open PySem PySem.Spec PyProof.Rows L2
end Ml
namespace L2
open PySem PySem.Spec PyProof.Rows
end L2
namespace Ml
open PySem PySem.Spec PyProof.Rows L2
end Ml
namespace Ml
open PySem L2
section
variable {G : Gx} {H : Hp} {σ σ' : L2.St} {tt : TT} {te : TE} {vs : List Nat} {Q : VK} {α β τ ρ : Type} {g : TG}
/-- a comprehension over any target -/
theorem lc_sepG [Im G β] {J : It} {im : Hp → V → α → Prop} {xs : List α} {f : τ → α → R (τ × Option β)} {rest : τ × List β → R ρ} {q : ρ → Prop} {e : Exc → Prop} {s : τ} (M : τ → List (Asn G))
    (hS : Sep H (M s)) (w : ∀ (Dr : Addr) (s : τ) (ys : List β), Wk J (fun (_ : St) H => Sep H (lstA Dr ys :: M s)) im xs) (hl : xs.length ≤ sizeLine) (hm : R.wp ((compR f xs s).bind rest) q e)
    (turn : ∀ (Dr : Addr) (s : τ) (ys : List β) (x : α) (v : V) (H : Hp) (q : τ × Option β → Prop) (Nx : Hp → Prop), Sep H (lstA Dr ys :: M s) → im H v x → R.wp (f s x) q e →
      (∀ s' y u H', q (s', some y) → Im.im G H' u y → Sep H' (lstA Dr ys :: M s') → ∃ acc, H' Dr = some (.lst acc) ∧ acc.length < sizeLine ∧ Nx (upd H' Dr (.lst (acc ++ [u])))) → (∀ s' H', q (s', none) → Sep H' (lstA Dr ys :: M s') → Nx H') →
      g v (wipe σ vs) H fun σ2 H2 => wipe σ2 vs = wipe σ vs ∧ tt σ2 H2 fun b H3 => if b = true then te σ2 H3 fun y H4 => ∃ acc, H4 Dr = some (.lst acc) ∧ acc.length < sizeLine ∧ Nx (upd H4 Dr (.lst (acc ++ [y]))) else Nx H3)
    (done : ∀ (Dr : Addr) (t : τ × List β) H, R.wp (rest t) q e → Sep H (lstA Dr t.2 :: M t.1) → Q (.ref Dr) H) :
    lcK g tt te vs σ Q J H := fun Dr hD =>
  lc_walk (G := G) (I := fun Dr s ys H => Sep H (lstA Dr ys :: M s)) (im := im) (xs := xs) (f := f) (k := fun t => R.wp (rest t) q e) (e := e) (s := s) (w Dr)
    (hS.newL (vs := []) (xs := ([] : List β)) hD True.intro) (R.wp_bind hm) hl
    (fun s ys x v H q Nx hI hv hw _ k1 k2 => turn Dr s ys x v H q Nx hI hv hw k1 k2)
    (fun s ys y u H hI hu => lc_app hI hu)
    (fun s ys H hk hI => done Dr (s, ys) H hk hI)
theorem c_gLT {P : Bool → Hp → Prop} (hw : wipe σ' vs = wipe σ vs) (h : tt σ' H P) : wipe σ' vs = wipe σ vs ∧ tt σ' H P := ⟨hw, h⟩
end
end Ml
namespace L2
open PySem PySem.Spec PyProof.Rows
end L2
namespace Ml
open PySem L2
end Ml
namespace L2
open PySem PySem.Spec PyProof.Rows
end L2
namespace Ml
open PySem L2
end Ml
namespace Ml
open PySem L2
end Ml
namespace L2
open PySem PySem.Spec PyProof.Rows
end L2
namespace Ml
open PySem L2
end Ml
namespace Ml
open PySem L2
end Ml
namespace Ml
open PySem PySem.Spec PyProof.Rows L2
end Ml
namespace Ml
open PySem PySem.Spec PyProof.Rows L2
/-- a tuple, its values told -/
structure TupV where
  vs : List V
section
variable {G : Gx} {α β : Type} {H : Hp} {L M : List (Asn G)} {Q : VK} {p : Addr}
instance imTupV : Im G TupV := ⟨fun H v x => ∃ a, v = .ref a ∧ H a = some (.tup x.vs), fun ⟨a, e, h⟩ s => ⟨a, e, s.1 a _ h rfl⟩⟩
theorem k_tupV {vs : List V} (hS : Sep H L) (hl : vs.length ≤ sizeLine) (k : ∀ p H', Sep H' (imA (.ref p) (⟨vs⟩ : TupV) :: L) → Q (.ref p) H') : tupK Q vs H :=
  ⟨hl, fun p hp => k p _ ((hS.more (same_new hp)).addIm ⟨p, rfl, upd_same⟩)⟩
theorem tupV_at {vs : List V} (h : Im.im G H (.ref p) (⟨vs⟩ : TupV)) : H p = some (.tup vs) := by
  obtain ⟨a, e, h⟩ := h
  cases e; exact h
variable [Im G α] [Im G β]
end
section
variable {G : Gx} {β : Type} {H : Hp} {M : List (Asn G)} {Q : VK} {E : Addr → β → Asn G}
def imIt (a : Addr) (xs : List β) (H : Hp) (v : V) (x : β) : Prop := ∃ (i : Nat) (vs : List V), H a = some (.lst vs) ∧ vs[i]? = some v ∧ xs[i]? = some x
theorem listE_cell {a : Addr} {xs : List β} (hS : Sep H (listE E a xs :: M)) : ∃ ps : List Addr, ps.length = xs.length ∧ H a = some (.lst (ps.map V.ref)) := by
  obtain ⟨ps, h⟩ := Sep.ex hS
  obtain ⟨hl, h⟩ := Sep.and h
  exact ⟨ps, hl, (Sep.star1 h).getCell (i := 0) rfl⟩
theorem wk_listE {I : L2.St → Hp → Prop} {a : Addr} {xs : List β} (h : ∀ σ H, I σ H → ∃ M, Sep H (listE E a xs :: M)) : Wk (Itl G.K a) I (imIt a xs) xs where
  go := fun i σ H hI hi => by
    obtain ⟨M, hS⟩ := h σ H hI
    obtain ⟨ps, hl, hc⟩ := listE_cell hS
    have hl : i < (ps.map V.ref).length := by rw [List.length_map, hl]; exact hi
    exact ⟨_, _, .inl (.inl hc), List.getElem?_eq_getElem hl⟩
  yl := fun i σ H v H' x hI hx y => by
    obtain ⟨M, hS⟩ := h σ H hI
    obtain ⟨ps, hl, hc⟩ := listE_cell hS
    obtain ⟨rfl, y⟩ := y
    exact ⟨hI, i, _, hc, y _ (.inl (.inl hc)), hx⟩
  sp := fun σ H hI => by
    obtain ⟨M, hS⟩ := h σ H hI
    obtain ⟨ps, hl, hc⟩ := listE_cell hS
    exact ⟨_, .inl (.inl hc), by rw [List.length_map, hl]; exact Nat.le_refl _⟩
theorem focusI {a : Addr} {xs : List β} {v : V} {x : β} (hS : Sep H (listE E a xs :: M)) (h : imIt a xs H v x) : ∃ j ps p, ps.length = xs.length ∧ ps[j]? = some p ∧ xs[j]? = some x ∧ v = .ref p ∧ Sep H (E p x :: listH E a ps xs j :: M) := by
  obtain ⟨i, vs, hc, hv, hx⟩ := h
  obtain ⟨ps, p, hl, hp, hS⟩ := focusE hS hx
  have h2 : Sep H (listH E a ps xs i :: E p x :: M) := hS.perm (List.Perm.swap _ _ _)
  have hc2 : H a = some (.lst (ps.map V.ref)) := (Sep.star1 h2).getCell (i := 0) rfl
  rw [hc] at hc2
  cases hc2
  rw [List.getElem?_map, hp] at hv
  exact ⟨i, ps, p, hl, hp, hx, (Option.some.inj hv).symm, hS⟩
theorem appE {a p : Addr} {xs : List β} {y : β} (hS : Sep H (E p y :: listE E a xs :: M)) : ∃ acc, H a = some (.lst acc) ∧ acc.length = xs.length ∧ Sep (upd H a (.lst (acc ++ [.ref p]))) (listE E a (xs ++ [y]) :: M) := by
  have h1 : Sep H (listE E a xs :: E p y :: M) := hS.perm (List.Perm.swap _ _ _)
  obtain ⟨ps, h⟩ := Sep.ex h1
  obtain ⟨hl, h⟩ := Sep.and h
  have h := Sep.star1 h
  have hc : H a = some (.lst (ps.map V.ref)) := h.getCell (i := 0) rfl
  have h2 := h.put (i := 0) (a := a) (o := .lst (ps.map V.ref)) (o' := .lst (ps.map V.ref ++ [.ref p])) rfl rfl rfl
  refine ⟨_, hc, by rw [List.length_map]; exact hl, Sep.exI (ps ++ [p]) (Sep.andI (by simp [hl]) (Sep.unstar1 ?_))⟩
  have e1 : elemsE E ((ps ++ [p]).zip (xs ++ [y])) = elemsE E (ps.zip xs) ++ [E p y] := by
    unfold elemsE
    rw [List.zip_append hl, List.map_append]; rfl
  rw [e1, List.map_append]
  have : ((cell a (.lst (ps.map V.ref ++ [.ref p])) :: elemsE E (ps.zip xs)) ++ (E p y :: M)) = ((cell a (.lst (ps.map V.ref ++ [V.ref p])) :: (elemsE E (ps.zip xs) ++ [E p y])) ++ M) := by simp
  rw [show ([p] : List Addr).map V.ref = [V.ref p] from rfl, ← this]
  exact h2
theorem k_appendE {a p : Addr} {xs : List β} {y : β} (hS : Sep H (E p y :: listE E a xs :: M)) (z : xs.length < sizeLine) (k : ∀ H', Sep H' (listE E a (xs ++ [y]) :: M) → Q .non H') : rAppend (.ref a) [.ref p] H Q := by
  obtain ⟨acc, h, l, hS⟩ := appE hS
  exact ⟨a, acc, _, rfl, rfl, h, by rw [l]; exact z, k _ hS⟩
end
end Ml
namespace Ml
open PySem PySem.Spec PyProof.Rows L2
section
variable {G : Gx} {α β τ : Type} {H : Hp} {L : List (Asn G)} {σ : L2.St} {ta : TE} [Im G α] [Im G β] {i : Nat} {p : Addr} {x : α × List β}
variable {E : Addr → τ → Asn G} {a : Addr} {xs : List τ}
theorem frontE {A : Asn G} (hS : Sep H L) (e : L[i]? = some A) : ∃ M, Sep H (A :: M) := ⟨_, hS.perm (perm_out e).symm⟩
theorem k_ilE {R : It → Hp → Prop} (hS : Sep H L) (e : L[i]? = some (listE E a xs)) (h : R (Itl G.K a) H) : ilK G.K R (.ref a) H := by
  obtain ⟨M, h1⟩ := frontE hS e
  obtain ⟨ps, hl, hc⟩ := listE_cell h1
  exact ⟨a, rfl, ⟨_, .inl (.inl hc)⟩, h⟩
theorem tyE (hS : Sep H L) (e : L[i]? = some (listE E a xs)) : tyV G.K "list" (.ref a) H := by
  obtain ⟨M, h1⟩ := frontE hS e
  obtain ⟨ps, hl, hc⟩ := listE_cell h1
  exact .inl ⟨rfl, _, .inl (.inl hc)⟩
end
end Ml
namespace Ml
open PySem L2
/-- a field, within a comprehension: its fragment told -/
theorem pe_fldK {X : Cx} {e : Expr} {f : Str} {pos : Pos} {ta : TE} (K : PySem.W.Frag) (he : PE X e ta) (hb : attributeBase e f X.env (eval e X.env) = eval e X.env := by rfl) (hK : X.K = K := by rfl) : PE X (.Attribute e f pos) (tFld K ta f) := by
  subst hK; exact pe_fld he hb
end Ml
namespace Ml
open PySem PySem.Spec PyProof.Rows L2
variable {G : Gx}
section
variable {κ β : Type} [DecidableEq κ] [Kx κ] [Im G β] {H : Hp} {L L' : List (Asn G)} {σ : L2.St} {Q : VK} {te td ty tx : TE} {k : κ} {a : Addr} {xs : List (κ × β)} {i : Nat}
def pop1K (ty : TE) (σ : L2.St) (Q : VK) : VK := fun x H1 => ∃ a, x = .ref a ∧ IsD H1 a ∧ ty σ H1 fun y H2 => ∃ kvs k v, H2 a = some (.dK kvs) ∧ y = kV k ∧ valV kvs k = some v ∧ Q v (upd H2 a (.dK (dropK kvs k)))
def pop1K2 (a : Addr) (Q : VK) : VK := fun y H2 => ∃ kvs k v, H2 a = some (.dK kvs) ∧ y = kV k ∧ valV kvs k = some v ∧ Q v (upd H2 a (.dK (dropK kvs k)))
theorem c_dpop1 (h : td σ H (pop1K ty σ Q)) : tDPop1 td ty σ H Q := h
theorem k_pop1a (d : IsD H a) (h : ty σ H (pop1K2 a Q)) : pop1K ty σ Q (.ref a) H := ⟨a, rfl, d, h⟩
theorem k_pop1A {y : β} (hS : Sep H L) (e : L[i]? = some (dictA a xs)) (h : dget xs k = some y) (e2 : L.set i (dictA a (ddrop xs k)) = L') (q : ∀ v H', Sep H' (imA v y :: L') → Q v H') : pop1K2 a Q (kV (Kx.key k)) H := by
  obtain ⟨ps, hp, m⟩ := hS.dict e
  obtain ⟨v, hv, hm⟩ := (m.val k).1 y h
  refine ⟨ps, Kx.key k, v, hp, rfl, hv, q v _ ?_⟩
  subst e2
  have h1 := (hS.addIm hm).putD (i := i + 1) (a := a) (xs := xs) (ys := ddrop xs k) (ps := dropK ps (Kx.key k)) (by simpa using e) (m.drop k)
  simpa using h1
theorem ddrop_no (h : dget xs k = none) : ddrop xs k = xs := by
  unfold dget at h
  unfold ddrop
  refine List.filter_eq_self.mpr fun p hp => ?_
  rw [Option.map_eq_none_iff] at h
  have := List.find?_eq_none.mp h p hp
  simpa using this
def setdK (ty tx : TE) (σ : L2.St) (Q : VK) : VK := fun x H1 => ∃ a, x = .ref a ∧ IsD H1 a ∧ ty σ H1 fun y H2 => tx σ H2 fun z H3 => ∃ (kvs : List (Key × V)) (k : Key), H3 a = some (.dK kvs) ∧ y = kV k ∧ kvs.length < sizeLine ∧
  (∀ v, valV kvs k = some v → Q v H3) ∧ (valV kvs k = none → Q z (upd H3 a (.dK (putK kvs k z))))
def setdK2 (a : Addr) (tx : TE) (σ : L2.St) (Q : VK) : VK := fun y H2 => tx σ H2 fun z H3 => ∃ (kvs : List (Key × V)) (k : Key), H3 a = some (.dK kvs) ∧ y = kV k ∧ kvs.length < sizeLine ∧
  (∀ v, valV kvs k = some v → Q v H3) ∧ (valV kvs k = none → Q z (upd H3 a (.dK (putK kvs k z))))
def setdK3 (a : Addr) (y : V) (Q : VK) : VK := fun z H3 => ∃ (kvs : List (Key × V)) (k : Key), H3 a = some (.dK kvs) ∧ y = kV k ∧ kvs.length < sizeLine ∧
  (∀ v, valV kvs k = some v → Q v H3) ∧ (valV kvs k = none → Q z (upd H3 a (.dK (putK kvs k z))))
theorem c_dsetd (h : td σ H (setdK ty tx σ Q)) : tDSetd td ty tx σ H Q := h
theorem k_setda (d : IsD H a) (h : ty σ H (setdK2 a tx σ Q)) : setdK ty tx σ Q (.ref a) H := ⟨a, rfl, d, h⟩
theorem k_setdb {y : V} (h : tx σ H (setdK3 a y Q)) : setdK2 a tx σ Q y H := h
end
section
variable {κ β : Type} [DecidableEq κ] [Kx κ] {H : Hp} {M : List (Asn G)} {σ : L2.St} {Q : VK} {te td ty tx : TE} {k : κ} {a : Addr} {kvs : List (κ × β)} {E : Addr → β → Asn G}
/-- the dict's own cell (locked or not), and all it holds -/
def dictX (u : HO → HO) (E : Addr → β → Asn G) (a : Addr) (ps : List Addr) (kvs : List (κ × β)) : Asn G := star (cell a (u (.dK (refsD kvs ps))) :: elemsE E (ps.zip (kvs.map (·.2))))
def dictXH (u : HO → HO) (E : Addr → β → Asn G) (a : Addr) (ps : List Addr) (kvs : List (κ × β)) (j : Nat) : Asn G := star (cell a (u (.dK (refsD kvs ps))) :: elemsE E ((ps.zip (kvs.map (·.2))).eraseIdx j))
theorem refs_get {ps : List Addr} {j : Nat} {y : β} (hl : ps.length = kvs.length) (hn : (kvs.map (·.1)).Nodup) (hj : kvs[j]? = some (k, y)) : ∃ p, ps[j]? = some p ∧ valV (refsD kvs ps) (Kx.key k) = some (.ref p) := by
  have hlt : j < kvs.length := (List.getElem?_eq_some_iff.mp hj).1
  have hp : ps[j]? = some ps[j] := List.getElem?_eq_getElem (by omega)
  exact ⟨ps[j], hp, refs_val hl hn hj hp⟩
theorem refs_none {ps : List Addr} (hl : ps.length = kvs.length) (h : dget kvs k = none) : valV (refsD kvs ps) (Kx.key k) = none := by
  induction kvs generalizing ps with
  | nil => cases ps <;> rfl
  | cons kv r ih =>
    cases ps with
    | nil => rfl
    | cons p ps =>
      have hk : ¬ kv.1 = k := fun e => by
        unfold dget at h
        rw [List.find?_cons_of_pos (by simpa using e)] at h
        cases h
      have h2 : dget r k = none := by
        unfold dget at h ⊢
        rw [List.find?_cons_of_neg (by simpa using hk)] at h
        exact h
      have hk2 : ¬ Kx.key kv.1 = Kx.key k := fun e => hk (Kx.inj e)
      show valV ((Kx.key kv.1, V.ref p) :: refsD r ps) (Kx.key k) = none
      rw [valV_neg hk2]
      exact ih (by simpa using hl) h2
theorem dictE_X (h : Sep H (dictE E a kvs :: M)) : ∃ ps, (ps.length = kvs.length ∧ (kvs.map (·.1)).Nodup) ∧ Sep H (dictX id E a ps kvs :: M) := by
  obtain ⟨ps, h⟩ := Sep.ex h
  obtain ⟨hl, h⟩ := Sep.and h
  exact ⟨ps, hl, h⟩
theorem dictX_E {ps : List Addr} (hl : ps.length = kvs.length ∧ (kvs.map (·.1)).Nodup) (h : Sep H (dictX id E a ps kvs :: M)) : Sep H (dictE E a kvs :: M) := Sep.exI ps (Sep.andI hl h)
theorem dictX_cell {u : HO → HO} {ps : List Addr} (h : Sep H (dictX u E a ps kvs :: M)) : H a = some (u (.dK (refsD kvs ps))) := (Sep.star1 h).getCell (i := 0) rfl
theorem dictE_cell (h : Sep H (dictE E a kvs :: M)) : ∃ ps, (ps.length = kvs.length ∧ (kvs.map (·.1)).Nodup) ∧ H a = some (.dK (refsD kvs ps)) := by
  obtain ⟨ps, hl, h⟩ := dictE_X h
  exact ⟨ps, hl, dictX_cell h⟩
theorem isD_E (h : Sep H (dictE E a kvs :: M)) : IsD H a := by
  obtain ⟨ps, _, hc⟩ := dictE_cell h
  exact .inl ⟨_, .inl hc⟩
theorem outX {u : HO → HO} {ps : List Addr} {j : Nat} {y : β} {p : Addr} (h : Sep H (dictX u E a ps kvs :: M)) (hj : kvs[j]? = some (k, y)) (hp : ps[j]? = some p) : Sep H (E p y :: dictXH u E a ps kvs j :: M) := by
  have h := Sep.star1 h
  have hz : (ps.zip (kvs.map (·.2)))[j]? = some (p, y) := by
    rw [List.getElem?_zip_eq_some]; exact ⟨hp, by rw [List.getElem?_map, hj]; rfl⟩
  have hz2 : (elemsE E (ps.zip (kvs.map (·.2))))[j]? = some (E p y) := by unfold elemsE; rw [List.getElem?_map, hz]; rfl
  have e : (elemsE E (ps.zip (kvs.map (·.2)))).eraseIdx j = elemsE E ((ps.zip (kvs.map (·.2))).eraseIdx j) := by unfold elemsE; rw [erase_map]
  have P := perm_out hz2
  rw [e] at P
  have h2 : Sep H (E p y :: ((cell a (u (.dK (refsD kvs ps))) :: elemsE E ((ps.zip (kvs.map (·.2))).eraseIdx j)) ++ M)) := by
    refine h.perm ?_
    have := (P.symm.cons (cell (G := G) a (u (.dK (refsD kvs ps))))).append_right M
    exact this.trans (by exact List.Perm.swap _ _ _)
  have h3 : Sep H ((cell a (u (.dK (refsD kvs ps))) :: elemsE E ((ps.zip (kvs.map (·.2))).eraseIdx j)) ++ (E p y :: M)) := h2.perm (List.perm_middle.symm)
  exact (Sep.unstar1 h3).perm (List.Perm.swap _ _ _)
theorem set_keys {j : Nat} {y z : β} (hj : kvs[j]? = some (k, y)) : (kvs.set j (k, z)).map (·.1) = kvs.map (·.1) := by
  have hlt : j < kvs.length := (List.getElem?_eq_some_iff.mp hj).1
  have hget : kvs[j] = (k, y) := by rw [List.getElem?_eq_getElem hlt] at hj; exact Option.some.inj hj
  rw [List.map_set]
  have : (kvs.map (·.1))[j]'(by simpa using hlt) = k := by rw [List.getElem_map, hget]
  rw [← this]
  exact List.set_getElem_self _
theorem refs_same : ∀ {l l' : List (κ × β)} {qs : List Addr}, l.map (·.1) = l'.map (·.1) → refsD l qs = refsD l' qs
  | [], [], _, _ => rfl
  | x :: l, y :: l', [], _ => rfl
  | x :: l, y :: l', q :: qs, h => by
    rw [List.map_cons, List.map_cons] at h
    injection h with h1 h2
    show (Kx.key x.1, V.ref q) :: refsD l qs = (Kx.key y.1, V.ref q) :: refsD l' qs
    rw [h1, refs_same h2]
  | [], _ :: _, _, h => by simp at h
  | _ :: _, [], _, h => by simp at h
theorem inX {u : HO → HO} {ps : List Addr} {j : Nat} {y z : β} {p : Addr} (hl : ps.length = kvs.length ∧ (kvs.map (·.1)).Nodup) (hj : kvs[j]? = some (k, y)) (hp : ps[j]? = some p) (h : Sep H (E p z :: dictXH u E a ps kvs j :: M)) : Sep H (dictX u E a ps (dput kvs k z) :: M) := by
  rw [put_at hl.2 hj]
  have hlt : j < kvs.length := (List.getElem?_eq_some_iff.mp hj).1
  have er : refsD (kvs.set j (k, z)) ps = refsD kvs ps := refs_same (set_keys hj)
  have ez : (kvs.set j (k, z)).map (·.2) = (kvs.map (·.2)).set j z := by rw [List.map_set]
  have h2 : Sep H (dictXH u E a ps kvs j :: (E p z :: M)) := h.perm (List.Perm.swap _ _ _)
  have h3 := Sep.star1 h2
  have hz : (ps.zip ((kvs.set j (k, z)).map (·.2)))[j]? = some (p, z) := by
    rw [ez, List.getElem?_zip_eq_some]
    exact ⟨hp, by rw [List.getElem?_set_self (by simpa using hlt)]⟩
  have hz2 : (elemsE E (ps.zip ((kvs.set j (k, z)).map (·.2))))[j]? = some (E p z) := by unfold elemsE; rw [List.getElem?_map, hz]; rfl
  have e : (elemsE E (ps.zip ((kvs.set j (k, z)).map (·.2)))).eraseIdx j = elemsE E ((ps.zip (kvs.map (·.2))).eraseIdx j) := by
    unfold elemsE
    rw [erase_map, ez, zip_hole (by rw [List.length_map]; exact hl.1)]
  have P := perm_out hz2
  rw [e] at P
  unfold dictX
  rw [er]
  refine Sep.unstar1 (h3.perm ?_)
  have q1 : ((cell a (u (.dK (refsD kvs ps))) :: elemsE E ((ps.zip (kvs.map (·.2))).eraseIdx j)) ++ (E p z :: M)).Perm (E p z :: ((cell a (u (.dK (refsD kvs ps))) :: elemsE E ((ps.zip (kvs.map (·.2))).eraseIdx j)) ++ M)) := List.perm_middle
  refine q1.trans ?_
  have := (P.cons (cell (G := G) a (u (.dK (refsD kvs ps))))).append_right M
  exact (List.Perm.swap _ _ _).trans this
theorem keys_put {j : Nat} {y z : β} (hn : (kvs.map (·.1)).Nodup) (hj : kvs[j]? = some (k, y)) : (dput kvs k z).map (·.1) = kvs.map (·.1) := by rw [put_at hn hj, set_keys hj]
/-- d[k], an own thing: taken out -/
theorem k_dgetE (h : Sep H (dictE E a kvs :: M)) {y : β} (hk : dget kvs k = some y) (q : ∀ ps p j, (ps.length = kvs.length ∧ (kvs.map (·.1)).Nodup) → kvs[j]? = some (k, y) → ps[j]? = some p → Sep H (E p y :: dictXH id E a ps kvs j :: M) → Q (.ref p) H) : dgetK2 (.ref a) Q (kV (Kx.key k)) H := by
  obtain ⟨ps, hl, h⟩ := dictE_X h
  obtain ⟨j, hj⟩ := dget_idx hk
  obtain ⟨p, hp, e⟩ := refs_get hl.1 hl.2 hj
  exact ⟨a, .ref p, rfl, .inl ⟨_, Kx.key k, .inl (dictX_cell h), rfl, e.symm⟩, q ps p j hl hj hp (outX h hj hp)⟩
theorem unfocDE {ps : List Addr} {j : Nat} {y z : β} {p : Addr} (hl : ps.length = kvs.length ∧ (kvs.map (·.1)).Nodup) (hj : kvs[j]? = some (k, y)) (hp : ps[j]? = some p) (h : Sep H (E p z :: dictXH id E a ps kvs j :: M)) : Sep H (dictE E a (dput kvs k z) :: M) :=
  dictX_E ⟨by rw [hl.1, ← List.length_map (·.1), ← keys_put (z := z) hl.2 hj, List.length_map], by rw [keys_put hl.2 hj]; exact hl.2⟩ (inX hl hj hp h)
theorem put_same {j : Nat} {y : β} (hn : (kvs.map (·.1)).Nodup) (hj : kvs[j]? = some (k, y)) : dput kvs k y = kvs := by
  rw [put_at hn hj]
  obtain ⟨h1, h2⟩ := List.getElem?_eq_some_iff.mp hj
  rw [← h2]; exact List.set_getElem_self h1
theorem unfocDE0 {ps : List Addr} {j : Nat} {y : β} {p : Addr} (hl : ps.length = kvs.length ∧ (kvs.map (·.1)).Nodup) (hj : kvs[j]? = some (k, y)) (hp : ps[j]? = some p) (h : Sep H (E p y :: dictXH id E a ps kvs j :: M)) : Sep H (dictE E a kvs :: M) := by
  have := unfocDE hl hj hp h
  rw [put_same hl.2 hj] at this; exact this
theorem drop_map {γ : Type} (f : κ × β → γ) : ∀ {l : List (κ × β)} {j : Nat} {y : β}, (l.map (·.1)).Nodup → l[j]? = some (k, y) → ddrop l k = l.eraseIdx j
  | [], _, _, _, h => by simp at h
  | x :: r, 0, y, hn, h => by
    have e : x = (k, y) := by simpa using h
    rw [List.map_cons, List.nodup_cons] at hn
    unfold ddrop
    rw [List.filter_cons_of_neg (by simp [e])]
    refine List.filter_eq_self.mpr fun z hz => ?_
    have : z.1 ≠ k := fun ez => hn.1 (by rw [e]; exact List.mem_map.mpr ⟨z, hz, ez⟩)
    simpa using this
  | x :: r, j + 1, y, hn, h => by
    have h2 : r[j]? = some (k, y) := by simpa using h
    rw [List.map_cons, List.nodup_cons] at hn
    have ne : x.1 ≠ k := fun z => hn.1 (by rw [z]; exact List.mem_map.mpr ⟨(k, y), List.mem_of_getElem? h2, rfl⟩)
    have ih := drop_map f hn.2 h2
    unfold ddrop at ih ⊢
    rw [List.filter_cons_of_pos (by simpa using ne), ih]
    rfl
theorem dropK_refs : ∀ {l : List (κ × β)} {qs : List Addr} {j : Nat} {y : β}, qs.length = l.length → (l.map (·.1)).Nodup → l[j]? = some (k, y) → dropK (refsD l qs) (Kx.key k) = refsD (l.eraseIdx j) (qs.eraseIdx j)
  | [], _, _, _, _, _, h => by simp at h
  | x :: r, [], _, _, hl, _, _ => by simp at hl
  | x :: r, q :: qs, 0, y, hl, hn, h => by
    have e : x = (k, y) := by simpa using h
    rw [List.map_cons, List.nodup_cons] at hn
    show dropK ((Kx.key x.1, V.ref q) :: refsD r qs) (Kx.key k) = refsD r qs
    unfold dropK
    rw [List.filter_cons_of_neg (by simp [e])]
    refine List.filter_eq_self.mpr fun z hz => ?_
    have : z.1 ∈ r.map (fun kv => Kx.key kv.1) := by
      have : ∀ {l : List (κ × β)} {qs : List Addr} {z : Key × V}, z ∈ refsD l qs → z.1 ∈ l.map (fun kv => Kx.key kv.1) := by
        intro l
        induction l with
        | nil => intro qs z hz; cases qs <;> cases hz
        | cons a l ih =>
          intro qs z hz
          cases qs with
          | nil => cases hz
          | cons b qs =>
            rcases List.mem_cons.mp (show z ∈ (Kx.key a.1, V.ref b) :: refsD l qs from hz) with rfl | hz
            · simp
            · rw [List.map_cons]; exact List.mem_cons_of_mem _ (ih hz)
      exact this hz
    obtain ⟨w, hw, ew⟩ := List.mem_map.mp this
    have : z.1 ≠ Kx.key k := fun ez => hn.1 (by rw [e]; exact List.mem_map.mpr ⟨w, hw, Kx.inj (ew.trans ez)⟩)
    simpa using this
  | x :: r, q :: qs, j + 1, y, hl, hn, h => by
    have h2 : r[j]? = some (k, y) := by simpa using h
    rw [List.map_cons, List.nodup_cons] at hn
    have ne : x.1 ≠ k := fun z => hn.1 (by rw [z]; exact List.mem_map.mpr ⟨(k, y), List.mem_of_getElem? h2, rfl⟩)
    have ne2 : ¬ Kx.key x.1 = Kx.key k := fun z => ne (Kx.inj z)
    have ih := dropK_refs (l := r) (qs := qs) (by simpa using hl) hn.2 h2
    show dropK ((Kx.key x.1, V.ref q) :: refsD r qs) (Kx.key k) = (Kx.key x.1, V.ref q) :: refsD (r.eraseIdx j) (qs.eraseIdx j)
    unfold dropK at ih ⊢
    rw [List.filter_cons_of_pos (by simpa using ne2), ih]
theorem zip_erase {α γ : Type} : ∀ {l : List α} {m : List γ} {j : Nat}, l.length = m.length → (l.zip m).eraseIdx j = (l.eraseIdx j).zip (m.eraseIdx j)
  | [], [], _, _ => rfl
  | x :: l, y :: m, 0, _ => rfl
  | x :: l, y :: m, j + 1, h => by
    show (x, y) :: (l.zip m).eraseIdx j = (x, y) :: (l.eraseIdx j).zip (m.eraseIdx j)
    rw [zip_erase (by simpa using h)]
  | [], _ :: _, _, h => by simp at h
  | _ :: _, [], _, h => by simp at h
/-- d.pop(k), an own thing -/
theorem k_pop1E (h : Sep H (dictE E a kvs :: M)) {y : β} (hk : dget kvs k = some y) (q : ∀ p H', Sep H' (E p y :: dictE E a (ddrop kvs k) :: M) → Q (.ref p) H') : pop1K2 a Q (kV (Kx.key k)) H := by
  obtain ⟨ps, hl, h⟩ := dictE_X h
  obtain ⟨j, hj⟩ := dget_idx hk
  obtain ⟨p, hp, e⟩ := refs_get hl.1 hl.2 hj
  refine ⟨refsD kvs ps, Kx.key k, .ref p, dictX_cell h, rfl, e, q p _ ?_⟩
  have h2 : Sep H (dictXH id E a ps kvs j :: E p y :: M) := (outX h hj hp).perm (List.Perm.swap _ _ _)
  have h3 := Sep.star1 h2
  have h4 := h3.put (i := 0) (a := a) (o := .dK (refsD kvs ps)) (o' := .dK (dropK (refsD kvs ps) (Kx.key k))) rfl rfl rfl
  have ed : ddrop kvs k = kvs.eraseIdx j := drop_map (fun z => z) hl.2 hj
  have lj : j < kvs.length := (List.getElem?_eq_some_iff.mp hj).1
  have er := dropK_refs hl.1 hl.2 hj
  rw [er] at h4 ⊢
  rw [ed]
  refine Sep.perm (Sep.exI (ps.eraseIdx j) (Sep.andI ⟨by rw [List.length_eraseIdx, List.length_eraseIdx, hl.1], ?_⟩ (Sep.unstar1 ?_)) : Sep _ (dictE E a (kvs.eraseIdx j) :: E p y :: M)) (List.Perm.swap _ _ _)
  · rw [← erase_map]
    exact hl.2.sublist (List.eraseIdx_sublist ..)
  · have ez : (ps.eraseIdx j).zip ((kvs.eraseIdx j).map (·.2)) = (ps.zip (kvs.map (·.2))).eraseIdx j := by
      rw [← erase_map, zip_erase (by rw [List.length_map]; exact hl.1)]
    rw [ez]
    exact h4
theorem k_newE' (h : Sep H (dictE E a kvs :: E p y :: M)) (hk : dhas kvs k = false) (hz : kvs.length < sizeLine) {P : Hp → Prop} (q : ∀ H', Sep H' (dictE E a (kvs ++ [(k, y)]) :: M) → P H') : rSetD (.ref a) (kV (Kx.key k)) (.ref p) H P :=
  k_newE h (fun hm => by
    obtain ⟨z, hz, e⟩ := List.mem_map.mp hm
    unfold dhas dget at hk
    rw [Option.isSome_map] at hk
    have : (kvs.find? fun kv => decide (kv.1 = k)).isSome = true := List.find?_isSome.mpr ⟨z, hz, by simpa using e⟩
    rw [this] at hk; cases hk) hz q
theorem newE0 {p : Addr} (hp : H p = none) (hS : Sep H M) : Sep (upd H p (.dK [])) (dictE E p ([] : List (κ × β)) :: M) :=
  Sep.exI [] (Sep.andI ⟨rfl, List.nodup_nil⟩ (Sep.unstar1 (L := [cell p (.dK [])]) (hS.new (o := .dK []) hp rfl)))
theorem k_dnewE (hS : Sep H M) (q : ∀ p H', Sep H' (dictE E p ([] : List (κ × β)) :: M) → Q (.ref p) H') : tDNewK σ H Q := fun p hp => q p _ (newE0 hp hS)
end
section
variable {β : Type} {H : Hp} {L : List (Asn G)} {Q : VK} {a : Addr} {i : Nat}
def rSortD : List V → Hp → VK → Prop := fun xs H Q => ∃ (a : Addr) (kvs : List (Key × V)) (ks : List Str), xs = [.ref a] ∧ Rd H a (.dK kvs) ∧ kvs.map (·.1) = ks.map Sum.inr ∧ ks.length < 64 ∧
    ∀ ys p, ys.Perm ks → sortedS ys = true → H p = none → Q (.ref p) (upd H p (.lst (ys.map V.str)))
theorem cr_sortD {X : Cx} (hc : X.calm = true) : CallR X (.builtin "sorted") rSortD := call_sortedD hc
theorem k_sortRd {ks : List (Key × V)} {ss : List Str} (hS : Sep H L) (hc : Rd H a (.dK ks)) (e : ks.map (·.1) = ss.map Sum.inr) (h : ss.length < 64) (k : ∀ p H', Sep H' (lstA p (sortT ss) :: L) → Q (.ref p) H') : rSortD [.ref a] H Q :=
  ⟨a, ks, ss, rfl, hc, e, h, fun ys p pm srt hp => k p _ (hS.newL hp (imL.flat.mpr (by rw [sortT_of pm (sorted_leT srt)]; rfl)))⟩
theorem k_sortDA [Im G β] {xs : List (Str × β)} (hS : Sep H L) (e : L[i]? = some (dictA a xs)) (h : xs.length < 64) (k : ∀ p H', Sep H' (lstA p (sortT (xs.map (·.1))) :: L) → Q (.ref p) H') : rSortD [.ref a] H Q := by
  obtain ⟨ps, hc, m⟩ := hS.dict e
  exact k_sortRd hS (.inl hc) (by rw [m.keys, List.map_map]; rfl) (by rw [List.length_map]; exact h) k
end
section
variable {β : Type} [Im G β] {H : Hp} {L L' : List (Asn G)} {Q : VK} {a b : Addr} {i : Nat} {xs : List (Kt × β)} {k : Kt}
theorem imDT.drop : ∀ {ps : List (List Key × V)} {qs : List (Kt × β)} (k : Kt), imDT (G := G) H ps qs → imDT (G := G) H (dropK ps k.ks) (ddrop qs k)
  | [], [], _, _ => True.intro
  | p :: ps, q :: qs, k, ⟨⟨e1, e2⟩, h⟩ => by
    have ih := imDT.drop k h
    unfold dropK ddrop at ih ⊢
    rw [List.filter_cons, List.filter_cons]
    by_cases c : q.1 = k
    · have c1 : p.1 = k.ks := by rw [e1, c]
      simp only [c, c1, ne_eq, not_true_eq_false, decide_false, Bool.false_eq_true, if_false]
      exact ih
    · have c1 : ¬ p.1 = k.ks := fun z => c (Kt.inj (e1.symm.trans z))
      simp only [c, c1, ne_eq, not_false_eq_true, decide_true, if_true]
      exact ⟨⟨e1, e2⟩, ih⟩
  | [], _ :: _, _, h => h.elim
  | _ :: _, [], _, h => h.elim
end
end Ml
namespace Ml
open PySem PySem.W PySem.Calls PyProof.Rows PyProof.V PySem.Spec
end Ml
namespace Ml
open PySem PySem.Spec PyProof.Rows L2 L2.DX
end Ml
namespace Ml
open PySem PySem.Spec PyProof.Rows L2
variable {G : Gx}
section
variable {κ β : Type} [DecidableEq κ] [Kx κ] {H : Hp} {L : List (Asn G)} {σ : L2.St} {Q : VK} {td ty : TE} {k : κ} {a : Addr} {i : Nat} {kvs : List (κ × β)} {E : Addr → β → Asn G}
theorem sat_front {A : Asn G} (h : Sep H L) (e : L[i]? = some A) : ∃ M, Sep H (A :: M) := ⟨_, h.perm (pull_perm e)⟩
theorem isD_Ei (h : Sep H L) (e : L[i]? = some (dictE E a kvs)) : IsD H a := by
  obtain ⟨M, h⟩ := sat_front h e
  exact isD_E h
theorem wp_dgetX {ρ β : Type} {kvs : List (κ × β)} {q : ρ → Prop} {e : Exc → Prop} {f : β → R ρ} (h : R.wp ((dgetR kvs k).bind f) q e) : ∃ y, dget kvs k = some y ∧ R.wp (f y) q e := by
  unfold dgetR at h
  cases c : dget kvs k with
  | none => rw [c] at h; exact h.elim
  | some y => rw [c] at h; exact ⟨y, rfl, h⟩
end
end Ml
namespace Ml
open PySem PySem.Spec PyProof.Rows L2
variable {G : Gx} {H : Hp} {L L' : List (Asn G)}
def fldaugK (K : PySem.W.Frag) (tv : TE) (rd : V → V → Hp → VK → Prop) (f : Str) (D : Ends) (σ : L2.St) : VK := fun x H1 => ∃ a C dx fs v, x = .ref a ∧ H1 a = some (.ins C dx fs) ∧ Cls K C ∧ NoAttr K C f ∧ fs.lookup f = some v ∧
  tv σ H1 fun y H2 => rd v y H2 fun z H3 => ∃ dx' fs', H3 a = some (.ins C dx' fs') ∧ fs'.length < 1000 ∧ D.nx σ (upd H3 a (.ins C dx' (putF f z fs')))
theorem c_fldaug {K : PySem.W.Frag} {ta tv : TE} {rd : V → V → Hp → VK → Prop} {f : Str} {D : Ends} {σ : L2.St} (h : ta σ H (fldaugK K tv rd f D σ)) : sFldAug K ta tv rd f D σ H := h
theorem k_fldaug2 {a C dx : Addr} {i : Nat} {fs fs' : List (Str × V)} {f : Str} {z : V} {D : Ends} {σ : L2.St} (hS : Sep H L) (e : L[i]? = some (cell a (.ins C dx fs))) (hl : fs.length < 1000) (np : per G (.ins C dx fs') = false) (ef : putF f z fs = fs')
    (k : ∀ H', Sep H' (L.set i (cell a (.ins C dx fs'))) → D.nx σ H') : ∃ dx' fs'', H a = some (.ins C dx' fs'') ∧ fs''.length < 1000 ∧ D.nx σ (upd H a (.ins C dx' (putF f z fs''))) := by
  refine ⟨dx, fs, hS.getCell e, hl, ?_⟩
  rw [ef]
  exact k _ (hS.put e np rfl)
end Ml
namespace Ml
open PySem PySem.Spec PyProof.Rows L2
end Ml
namespace Ml
open PySem PySem.Spec PyProof.Rows L2
variable {G : Gx}
theorem m1 {X : Cx} {o : Expr} {m : Str} {apos : Pos} {e : Expr} {cpos : Pos} (base : attributeBase o m X.env (eval o X.env) = eval o X.env := by rfl)
  (few : ((backTo cpos (starEach [e] X.env)).all (fun x => !x.1) && (backToKw cpos (keywordEach [] X.env)).all (fun x => x.1.isSome)
    && decide (([e] : List Expr).length + ([] : List Keyword).length + (if ([] : List Keyword).isEmpty then 0 else 1) < 30)) = true := by rfl)
  (line : (apos.endLine == cpos.line) = true := by rfl) (trees : backTo cpos (starEach [e] X.env) = [(false, eval e X.env)] := by rfl) : M1 X o m apos e cpos := ⟨base, few, line, trees⟩
end Ml
namespace Ml
open PySem PySem.Spec PyProof.Rows L2
end Ml
namespace Ml
open PySem PySem.Spec PyProof.Rows L2
end Ml
namespace Ml
open PySem PySem.Spec PyProof.Rows L2
variable {G : Gx} {H : Hp}
def isNK (Q : VK) : VK := fun x H1 => Q (.bl (decide (x = .non))) H1
theorem c_isN {ta : TE} {σ : L2.St} {Q : VK} (h : ta σ H (isNK Q)) : tIsN ta σ H Q := h
theorem k_isNn {Q : VK} (h : Q (.bl true) H) : isNK Q .non H := h
end Ml
namespace Ml
open PySem PySem.Spec PyProof.Rows L2
structure Opq where
variable {G : Gx} {H : Hp}
instance imOpq : Im G Opq := ⟨fun _ _ _ => True, fun _ _ => trivial⟩
end Ml
namespace L2
open PySem PySem.Spec PyProof.Rows Ml
end L2
namespace Ml
open PySem PySem.Spec PyProof.Rows L2
end Ml
namespace Ml
open PySem PySem.Spec PyProof.Rows L2
end Ml
namespace Ml
open PySem PySem.Spec PyProof.Rows L2
end Ml
namespace Ml
open PySem PySem.Spec PyProof.Rows L2
end Ml
namespace Ml
open PySem PySem.Spec PyProof.Rows L2
section
variable {G : Gx} {κ β : Type} [DecidableEq κ] [Kx κ] {H : Hp} {M : List (Asn G)} {a : Addr} {kvs : List (κ × β)} {k : κ} {E : Addr → β → Asn G} {Q : VK}
theorem newX_sep {ps : List Addr} {p : Addr} {y : β} (hl : ps.length = kvs.length ∧ (kvs.map (·.1)).Nodup) (hk : ¬ k ∈ kvs.map (·.1)) (h : Sep H ((cell a (.dK (refsD kvs ps)) :: elemsE E (ps.zip (kvs.map (·.2)))) ++ (E p y :: M))) :
    ((ps ++ [p]).length = (kvs ++ [(k, y)]).length ∧ ((kvs ++ [(k, y)]).map (·.1)).Nodup) ∧ Sep (upd H a (.dK (putK (refsD kvs ps) (Kx.key k) (.ref p)))) (dictX id E a (ps ++ [p]) (kvs ++ [(k, y)]) :: M) := by
  have h2 := h.put (i := 0) (a := a) (o := .dK (refsD kvs ps)) (o' := .dK (putK (refsD kvs ps) (Kx.key k) (.ref p))) rfl rfl rfl
  refine ⟨⟨by rw [List.length_append, List.length_append, hl.1]; rfl, ?_⟩, Sep.unstar1 ?_⟩
  · rw [List.map_append, List.nodup_append]
    refine ⟨hl.2, by simp, fun x hx z hz => ?_⟩
    rw [List.map_singleton, List.mem_singleton] at hz
    intro e
    have hz : z = k := hz
    exact hk (by rw [← hz, ← e]; exact hx)
  · have e1 : elemsE E ((ps ++ [p]).zip ((kvs ++ [(k, y)]).map (·.2))) = elemsE E (ps.zip (kvs.map (·.2))) ++ [E p y] := by
      unfold elemsE
      rw [List.map_append, List.zip_append (by rw [List.length_map]; exact hl.1), List.map_append]
      rfl
    rw [e1, ← refs_new (y := y) hl.1 hk]
    have : ((cell a (.dK (putK (refsD kvs ps) (Kx.key k) (.ref p))) :: elemsE E (ps.zip (kvs.map (·.2)))) ++ (E p y :: M)) = ((cell a (.dK (putK (refsD kvs ps) (Kx.key k) (.ref p))) :: (elemsE E (ps.zip (kvs.map (·.2))) ++ [E p y])) ++ M) := by simp
    show Sep _ ((cell a (.dK (putK (refsD kvs ps) (Kx.key k) (.ref p))) :: (elemsE E (ps.zip (kvs.map (·.2))) ++ [E p y])) ++ M)
    rw [← this]
    exact h2
theorem k_setdE3 {p0 : Addr} {z : β} (h : Sep H (dictE E a kvs :: E p0 z :: M)) (hz : kvs.length < sizeLine)
    (q : ∀ ps p j H', (ps.length = (setE kvs k z).length ∧ ((setE kvs k z).map (·.1)).Nodup) → (setE kvs k z)[j]? = some (k, (dget kvs k).getD z) → ps[j]? = some p → Sep H' (E p ((dget kvs k).getD z) :: dictXH id E a ps (setE kvs k z) j :: M) → Q (.ref p) H') :
    setdK3 a (kV (Kx.key k)) Q (.ref p0) H := by
  obtain ⟨ps, hl, h⟩ := dictE_X h
  refine ⟨refsD kvs ps, Kx.key k, dictX_cell h, rfl, by rw [refs_len hl.1]; exact hz, fun v hv => ?_, fun hv => ?_⟩
  · cases e : dget kvs k with
    | none => rw [refs_none hl.1 e] at hv; cases hv
    | some y =>
      obtain ⟨j, hj⟩ := dget_idx e
      have eE : setE kvs k z = kvs := by unfold setE dhas; rw [e]; rfl
      obtain ⟨p, hp, e2⟩ := refs_get hl.1 hl.2 hj
      rw [e2] at hv
      cases hv
      rw [e, eE] at q
      exact q ps p j H hl hj hp (outX (Sep.tail (h.perm (List.Perm.swap _ _ _))) hj hp)
  · cases e : dget kvs k with
    | some y =>
      exfalso
      obtain ⟨j, hj⟩ := dget_idx e
      obtain ⟨p, hp, e2⟩ := refs_get hl.1 hl.2 hj
      rw [e2] at hv; cases hv
    | none =>
      have eE : setE kvs k z = kvs ++ [(k, z)] := by unfold setE dhas; rw [e]; rfl
      obtain ⟨hl2, h2⟩ := newX_sep (k := k) hl (dhas_no e) (Sep.star1 h)
      have hj : (kvs ++ [(k, z)])[kvs.length]? = some (k, z) := by simp
      have hp : (ps ++ [p0])[kvs.length]? = some p0 := by rw [← hl.1]; simp
      rw [e, eE] at q
      exact q (ps ++ [p0]) p0 kvs.length _ hl2 hj hp (outX h2 hj hp)
end
end Ml
namespace Ml
open PySem PySem.Spec PyProof.Rows L2
end Ml
namespace Ml
open PySem PySem.Spec PyProof.Rows L2
theorem map_same {κ : Type} [DecidableEq κ] {k : κ} {v : V} : ∀ {ks : List (κ × V)}, (ks.map (·.1)).Nodup → valV ks k = some v → ks.map (fun kv => if kv.1 = k then (kv.1, v) else kv) = ks
  | [], _, _ => rfl
  | p :: r, nd, h => by
    rw [List.map_cons, List.nodup_cons] at nd
    rw [List.map_cons]
    by_cases e : p.1 = k
    · rw [valV_pos e] at h
      have hv : p.2 = v := Option.some.inj h
      have hr : r.map (fun kv => if kv.1 = k then (kv.1, v) else kv) = r := by
        refine (List.map_congr_left fun q hq => ?_).trans (List.map_id r)
        have : ¬ q.1 = k := fun z => nd.1 (by rw [e, ← z]; exact List.mem_map.mpr ⟨q, hq, rfl⟩)
        rw [if_neg this]; rfl
      rw [if_pos e, hr, ← hv]
    · rw [valV_neg e] at h
      rw [if_neg e, map_same nd.2 h]
theorem putK_same {κ : Type} [DecidableEq κ] {k : κ} {v : V} {ks : List (κ × V)} (nd : (ks.map (·.1)).Nodup) (h : valV ks k = some v) : putK ks k v = ks := by
  unfold putK
  rw [if_pos (by rw [valV_any, h]; rfl), map_same nd h]
theorem upd_id {H : Hp} {a : Addr} {o : HO} (h : H a = some o) : upd H a o = H := by
  funext b
  by_cases e : b = a
  · subst e; rw [upd_same, h]
  · simp [upd, e]
section
variable {G : Gx} {κ α : Type} [DecidableEq κ] [Kx κ] [Im G α] {H : Hp} {M : List (Asn G)} {a b : Addr} {kvs : List (κ × List α)} {k : κ} {td ty tv : TE} {σ : L2.St} {D : Ends}
theorem k_daugE {y ys : List α} (h : Sep H (dictE lstA a kvs :: lstA b ys :: M)) (hd : Ev td σ H (.ref a)) (hy : Ev ty σ H (kV (Kx.key k))) (hv : Ev tv σ H (.ref b)) (hk : dget kvs k = some y) (hz : kvs.length < sizeLine) (hs : y.length + ys.length ≤ sizeLine)
    (q : ∀ H', Sep H' (dictE lstA a (dput kvs k (y ++ ys)) :: lstA b ys :: M) → D.nx σ H') : sDAug td ty tv rExt2 D σ H := by
  obtain ⟨ps, hl, h⟩ := dictE_X h
  obtain ⟨j, hj⟩ := dget_idx hk
  obtain ⟨p, hp, e⟩ := refs_get hl.1 hl.2 hj
  have hc := dictX_cell h
  have h1 := outX h hj hp
  obtain ⟨vs, hvs, m1⟩ := h1.lst (i := 0) rfl
  obtain ⟨ws, hws, m2⟩ := h1.lst (i := 2) rfl
  refine hd _ (hy _ ⟨a, .ref p, rfl, .inl ⟨_, Kx.key k, .inl hc, rfl, e.symm⟩, hv _ ⟨p, b, vs, ws, rfl, rfl, hvs, hws, by rw [m1.len, m2.len]; exact hs, ?_⟩⟩)
  have h2 : Sep (upd H p (.lst (vs ++ ws))) (lstA p (y ++ ys) :: dictXH id lstA a ps kvs j :: lstA b ys :: M) := h1.putL (i := 0) (ys := y ++ ys) rfl (m1.app m2)
  have hc2 : upd H p (.lst (vs ++ ws)) a = some (.dK (refsD kvs ps)) := (Sep.star1 (h2.perm (List.Perm.swap _ _ _))).getCell (i := 0) rfl
  have nd : ((refsD kvs ps).map (·.1)).Nodup := by
    rw [refs_keys hl.1]
    have : kvs.map (fun q => (Kx.key q.1 : Key)) = (kvs.map (·.1)).map Kx.key := by rw [List.map_map]; rfl
    rw [this]
    exact List.pairwise_map.mpr (hl.2.imp fun ne e => ne (Kx.inj e))
  refine ⟨_, .inl ⟨refsD kvs ps, Kx.key k, hc2, rfl, by rw [refs_len hl.1]; exact hz, rfl⟩, ?_⟩
  rw [putK_same nd e, upd_id hc2]
  exact q _ (unfocDE hl hj hp h2)
end
end Ml
namespace Ml
open PySem PySem.Spec PyProof.Rows L2
end Ml
namespace L2
open PySem PySem.Spec PyProof.Rows
end L2
namespace Ml
open PySem PySem.Spec PyProof.Rows L2
end Ml
namespace Ml
open PySem PySem.Spec PyProof.Rows L2
theorem lenD_at {G : Gx} {κ β : Type} [DecidableEq κ] [Kx κ] [Im G β] {H : Hp} {L : List (Asn G)} {i : Nat} {a : Addr} {xs : List (κ × β)} (hS : Sep H L) (e : L[i]? = some (dictA a xs)) : ∃ ps : List (Key × V), H a = some (.dK ps) ∧ ps.length = xs.length := by
  obtain ⟨ps, hp, m⟩ := hS.dict e
  exact ⟨ps, hp, m.len⟩
end Ml
namespace Ml
open PySem PySem.Spec PyProof.Rows L2
end Ml
namespace Ml
open PySem PySem.Spec PyProof.Rows L2
end Ml
namespace L2
open PySem PySem.Spec PyProof.Rows
/-- a def's promise where no repr is under way -/
structure FnG (P : Program) (w : World) (K : PySem.W.Frag) (mg : Str → Option Value) (base : Heap) (CX : CXT) (k : Nat) (f : Addr) (fd : FuncData) (ps : List Str) (sp : Sp) : Prop where
  len : ∀ vs H Q E, sp vs H Q E → vs.length = ps.length
  run : ∀ (A : Around) (outer : List Env) (s : Shared) (H : Hp) (args : Args) (us : List Value) (vs : List V) (Q : VK) (E : XK), A.guards = some [] → Room k A → Env0 P w K mg base A outer s H → BindsTo s fd args (ps.zip us) → Vals vs us → sp vs H Q E →
    codeAny (model P w) A (.call (.ref f) args) (CR CX outer P w H s Q E) s
theorem FnG.imp {P : Program} {w : World} {K : PySem.W.Frag} {mg : Str → Option Value} {base : Heap} {CX : CXT} {k : Nat} {f : Addr} {fd : FuncData} {ps : List Str} {sp sp' : Sp} (F : FnG P w K mg base CX k f fd ps sp)
    (h : ∀ vs H Q E, sp' vs H Q E → sp vs H Q E) : FnG P w K mg base CX k f fd ps sp' :=
  ⟨fun vs H Q E q => F.len vs H Q E (h _ _ _ _ q), fun A outer s H args us vs Q E hg hr he hb hv hs => F.run A outer s H args us vs Q E hg hr he hb hv (h _ _ _ _ hs)⟩
theorem Fun.okG {P : Program} {w : World} {K : PySem.W.Frag} {mg : Str → Option Value} {base : Heap} {x qual : Str} {st : Stmt} {f : Addr} {fd : FuncData} {N ps : List Str} {k : Nat} {sp : Sp} (F : Fun K x qual st f fd) (S : FnScope N ps (defScope st)) (len : ∀ vs H Q E, sp vs H Q E → vs.length = ps.length)
    (hbody : ∀ (cdv : Value) (A : Around) (outer : List Env) (s : Shared) (H : Hp) (vs : List V) (Q : VK) (E : XK), A.guards = some [] → Room k (A.deeper (envOfC qual (defScope st) s.heap.objs.size f cdv)) → sp vs H Q E →
      ∃ t, PSs (cxOf CX0 P w K mg base N qual (defScope st) f cdv A outer s H E).nox (defBody st) t ∧ t { nx := fun _ H' => Q .non H', rt := Q } (start N vs) H) : FnG P w K mg base CX0 (k + 1) f fd ps sp := by
  obtain ⟨oc, od, kV, doc, pm, an, cdv, ct, osl, rfl, lk, hcd⟩ := F.ex
  refine ⟨len, fun A outer s H args us vs Q E hg hr e0 hb r hsp => ?_⟩
  have hl := len _ _ _ _ hsp
  have KX : K.In s.heap := e0.mod.kin.keeps fun b o e => (e0.bs b o e).1
  have lim : s.heap.NoLimit := e0.mod.nolimit.keeps fun b o e => (e0.bs b o e).1
  have hkind : ∀ y ∈ ps.zip us, (defScope st).names.lookup y.1 = some .local ∨ ((defScope st).names.lookup y.1 = some .cell ∧ ((cellsFrom (s.heap.objs.size + 1) (defScope st).names []).lookup y.1).isSome = true) := fun ⟨n, v⟩ hy => by
    rcases S.par n (List.of_mem_zip hy).1 with q | q
    · exact .inl q
    · exact .inr ⟨q, PySem.W.cellsFrom_some _ _ _ (.inl q)⟩
  refine codeAny_call_function hr.depth (KX _ _ lk) rfl S.co S.gen rfl (PySem.W.codeRec_of KX hcd) (hb _ _ _ _ ?_)
  refine wpAny_newFunctionEnv_cells S.kind hkind fun env he s1 x => ?_
  subst he
  refine ⟨lim.keeps x.toInCall.keep, codeAny_func ?_⟩
  obtain ⟨t, ht, hq⟩ := hbody cdv A outer s H vs Q E hg (hr.deeper _) hsp
  have I : Inv (cxOf CX0 P w K mg base N qual (defScope st) f cdv A outer s H E) [] (start N vs) H s1 := inv_start S hr.hd e0 hl r x
  refine wpAny_mono (ht.nox.run [] s1 (start N vs) H _ I hq) (fun fl s' hs => ?_) fun e s' hs => hs
  cases fl with
  | ret u =>
    obtain ⟨v, σ', H', J, rv, q⟩ := hs
    exact ⟨v, H', J.os, J.bare, J.base, J.hok, rv, q⟩
  | next =>
    obtain ⟨σ', H', J, q⟩ := hs
    exact ⟨V.non, H', J.os, J.bare, J.base, J.hok, rfl, q⟩
  | brk => obtain ⟨_, _, _, q⟩ := hs; exact False.elim q
  | cont => obtain ⟨_, _, _, q⟩ := hs; exact False.elim q
section
variable {X : Cx} {k : Nat} {f : Addr} {fd : FuncData} {ps : List Str} {CX : CXT} {sp : Sp} {dvs : List V} {ds : List Value} {E : XK} {x : Str} {p pos : Pos} {e : Expr} {es : List Expr} {t : TA}
theorem run_fnG {pins : List (Addr × Obj)} {σ : St} {H : Hp} {s : Shared} {Q : VK} {us : List Value} {vs : List V} (F : FnG X.prog X.w X.K X.mg X.base CX k f fd ps sp) (hgd : X.A.guards = some []) (hr : Room k X.A) (hb : Binds X.K fd ps ds) (hd : Vals dvs ds) (hx : Passes CX X E)
    (I : Inv X pins σ H s) (r : Vals vs us) (h : sp (vs ++ dvs) H Q E) : wpAny (model X.prog X.w) X.A (call (.ref f) us) (EP X pins σ Q) X.xe s := by
  have r2 : Vals (vs ++ dvs) (us ++ ds) := r.append hd
  refine wpAny_call (codeAny_mono (F.run X.A X.stack s H ⟨us, []⟩ (us ++ ds) (vs ++ dvs) Q E hgd hr I.env0 (hb s us I.kIn (by rw [← r2.length]; exact F.len _ _ _ _ h)) r2 h) fun r s' hq => ?_)
  match r, hq with
  | .error e, hq => exact hx pins σ H s e s' I hq
  | .ok (.ret u), hq => exact I.after hq
theorem pe_callGd (F : FnG X.prog X.w X.K X.mg X.base CX k f fd ps sp) (hgd : X.A.guards = some []) (hr : Room k X.A) (hg : Gl X x) (hm : X.mg x = some (.ref f)) (hk : PySem.W.keepIn X.K (.ref f) = true) (hb : Binds X.K fd ps ds) (hd : Vals dvs ds) (hx : Passes CX X E)
    (ha : PA X (e :: es) t) (hdb : (x == ("__debug__" : Str)) = false := by decide) (he : starEach (e :: es) X.env = (false, eval e X.env) :: starEach es X.env := by rfl) (hpl : (backTo pos (starEach es X.env)).any (·.1) = false := by rfl) :
    PE X (.Call (.Name x p) (e :: es) [] pos) (tCall sp dvs E t) := by
  refine ⟨fun pins s σ H Q I h => ?_⟩
  refine wpAny_Call_Name_kw (ld_glob I hg hm ?_ hdb)
  exact PySem.W.callWith_K (h₀ := X.base) I.ok.mod.kin hk (thn (ha.run pos pins s σ H _ I h) fun us s1 ⟨vs, H1, I1, r, q⟩ => ⟨I1.kIn, run_fnG F hgd hr hb hd hx I1 r q⟩) he hpl
def rRepr (K : PySem.W.Frag) : List V → Hp → VK → Prop := fun vs H Q => ∃ a d, vs = [.ref a] ∧ Dp K H (.ref a) d ∧ d.showable = true ∧ d.hasDict = false ∧ d.depth ≤ 40 ∧ d.shown.length ≤ sizeLine ∧ Q (.str d.shown) H
theorem call_reprD (K : PySem.W.Frag) (hg : X.A.guards = some []) (hu : X.A.units + 64 < cLine) (hK : X.K = K := by rfl) : CallR X (.builtin "repr") (rRepr K) := by
  subst hK
  intro pins s σ H xs us Q I r h
  obtain ⟨a, d, rfl, hd, sh, nd, dp, z, q⟩ := h
  cases r with
  | cons r1 r2 =>
    cases r2
    cases r1
    obtain ⟨as, rd⟩ := Dp.reads I d _ _ hd rfl
    exact repr_of_reads' rd sh (fun c => by rw [nd] at c; cases c) hg (by omega) (fun _ _ e => e) (fun h' u tk hk => ⟨.str _, H, I.kept (t' := tk) hk, ⟨_, rfl⟩, q⟩) z
end
/-- the heap ahead of the law: nothing is told but the script, or not even it -/
theorem env_law {P : Program} {w : World} {K : PySem.W.Frag} {mg mb : Str → Option Value} {a : Addr} {s : Shared} {H : Hp} {vs : List Value} (KX : K.In s.heap) (hns : s.heap.Ns mainGlobals mg) (hb : s.heap.Ns builtinsNs mb) (hbb : ∀ x : Str, x ≠ "__name__" → mb x = bootBuiltins x) (hlim : s.heap.NoLimit) (hg : s.gens = #[])
    (ha : s.heap.get? a = some { cls := .type "list", data := .seq vs.toArray }) (ok : HOk P w H s.heap) (one : ∀ b, b ≠ a → H b = none) (no : H a ≠ none → K.lookup a = none) :
    K.In (hidT s.heap H) ∧ (hidT s.heap H).Ns mainGlobals mg ∧ Env0 P w K mg (hidT s.heap H) callerA [] s H := by
  have dic : ∀ {b : Addr} {m : Str → Option Value}, s.heap.Ns b m → (hidT s.heap H).Ns b m := fun {b m} q => by
    obtain ⟨o, es, ep, e, d, r⟩ := q
    refine ⟨o, es, ep, hidT_get e (one b fun z => ?_), d, r⟩
    rw [z, ha] at e
    injection e with e
    rw [← e] at d
    have d' : Data.seq vs.toArray _ = Data.dict es ep := d
    cases d'
  have kin : K.In (hidT s.heap H) := fun b o e => hidT_get (KX b o e) (by
    by_cases z : b = a
    · subst z
      cases q : H b with
      | none => rfl
      | some u => rw [no (by rw [q]; simp)] at e; cases e
    · exact one b z)
  obtain ⟨mc, c1, c2⟩ := hlim
  exact ⟨kin, dic hns, rfl, ⟨kin, dic hns, ⟨mb, dic hb, hbb⟩, ⟨mc, dic c1, c2⟩⟩, fun b o e => of_hidT e, Nat.le_of_eq (hidT_size _ _), trivial, fun b q => absurd (show b ∈ ([] : List Addr) from q) (by simp), ok, .of_eq hg⟩
/-- the end of the law, from its end as a def -/
theorem ce_law {P : Program} {w : World} {K : PySem.W.Frag} {H : Hp} {s s' : Shared} {r : Result} {CX : CXT} (only : Only H) (hok : HOk P w H s.heap) (hCX : ∀ e s', CX [] H s (fun _ _ _ => False) e s' → False)
    (h : CR CX [] P w H s (fun v _ => v = .bl true) (fun _ _ _ => False) r s') : r = .ok (.ret (.bool true)) ∧ OldK s.heap s'.heap ∧ s'.os = s.os ∧ AllBare s'.gens := by
  match r, h with
  | .error e, h => exact (hCX e s' h).elim
  | .ok (.ret u), h =>
    obtain ⟨v, H', os, bare, un, hok', rv, q⟩ := h
    have q : v = .bl true := q
    subst q
    have ru : u = Value.bool true := rv
    subst ru
    refine ⟨rfl, OldK.of_keep fun b o e => ?_, os, bare⟩
    rcases only b with z | ⟨ob, xs, z⟩
    · exact un.keep b o e z (fun c => absurd (show b ∈ ([] : List Addr) from c) (by simp)) (by simp)
    · have e1 := (hok b _ z).1
      rw [e] at e1
      injection e1 with e1
      rw [e1]
      exact (hok' b _ (un.frzs b ob _ z)).1
theorem law_callG {P : Program} {w : World} {K : PySem.W.Frag} {mg mb : Str → Option Value} {CX : CXT} {k : Nat} {fa a : Addr} {fd : FuncData} {x : Str} {sp : Sp} {s : Shared} {vs : List Value} {ns : List Int}
    (KX : K.In s.heap) (hns : s.heap.Ns mainGlobals mg) (hb : s.heap.Ns builtinsNs mb) (hbb : ∀ x : Str, x ≠ "__name__" → mb x = bootBuiltins x) (hlim : s.heap.NoLimit) (hg : s.gens = #[])
    (ha : s.heap.get? a = some { cls := .type "list", data := .seq vs.toArray }) (hi : IntsAre vs ns) (hl : ns.length ≤ sizeLine) (hr : Room k callerA)
    (F : ∀ base : Heap, K.In base → base.Ns mainGlobals mg → FnG P w K mg base CX k fa fd [x] sp) (hbind : ∀ (s : Shared) (u : Value), BindsTo s fd ⟨[u], []⟩ [(x, u)])
    (hsp : ∀ H : Hp, Only H → SqL K H a (ns.map V.int) → sp [.ref a] H (fun v _ => v = .bl true) fun _ _ _ => False)
    (hCX : ∀ H e s', CX [] H s (fun _ _ _ => False) e s' → False) :
    codeAny (model P w) callerA (.call (.ref fa) ⟨[.ref a], []⟩) (fun r s' => r = .ok (.ret (.bool true)) ∧ OldK s.heap s'.heap ∧ s'.os = s.os ∧ AllBare s'.gens) s := by
  have rv := vals_ints hi
  have core : ∀ H : Hp, Only H → SqL K H a (ns.map V.int) → HOk P w H s.heap → (∀ b, b ≠ a → H b = none) → (H a ≠ none → K.lookup a = none) →
      codeAny (model P w) callerA (.call (.ref fa) ⟨[.ref a], []⟩) (fun r s' => r = .ok (.ret (.bool true)) ∧ OldK s.heap s'.heap ∧ s'.os = s.os ∧ AllBare s'.gens) s := by
    intro H only sq ok one no
    obtain ⟨kin, nsb, e0⟩ := env_law (P := P) (w := w) KX hns hb hbb hlim hg ha ok one no
    exact codeAny_mono ((F _ kin nsb).run callerA [] s H ⟨[.ref a], []⟩ [.ref a] [.ref a] _ _ rfl hr e0 (hbind s (.ref a)) (.cons rfl .nil) (hsp H only sq)) fun r s' h => ce_law (K := K) only ok (fun e s' => hCX H e s') h
  by_cases known : (K.lookup a).isSome = true
  · obtain ⟨o, hk⟩ := Option.isSome_iff_exists.mp known
    have e := KX a o hk
    rw [ha] at e
    injection e with e
    subst e
    exact core (fun _ => none) (fun _ => .inl rfl) (.inr ⟨_, vs.toArray, _, hk, rfl, rfl, rfl, by rw [List.size_toArray, hi.length]; exact hl, by simpa using rv⟩) (fun b u z => nomatch (show (none : Option HO) = some u from z)) (fun _ _ => rfl) fun z => absurd rfl z
  · have hk : K.lookup a = none := by
      cases q : K.lookup a with
      | none => rfl
      | some o => rw [q] at known; exact absurd rfl known
    refine core (fun b => if b = a then some (.frz { cls := .type "list", data := .seq vs.toArray } (.lst (ns.map V.int))) else none) (fun b => ?_) (.inl (.inr ⟨{ cls := .type "list", data := .seq vs.toArray }, if_pos rfl⟩)) (fun b u z => ?_) (fun b z => if_neg z) fun _ => hk
    · by_cases c : b = a
      · exact .inr ⟨_, _, if_pos c⟩
      · exact .inl (if_neg c)
    · by_cases c : b = a
      · subst c
        injection (if_pos rfl).symm.trans z with z
        subst z
        exact ⟨ha, by rw [List.length_map]; exact hl, vs, _, rv, ha⟩
      · cases (if_neg c).symm.trans z
theorem walk_ofG {l : PySem.W.OpenLaw} {n k : Nat} {q : Program} {loose : List Str} {XP : (Str → Option Value) → Heap → Prop} {YP : World → Heap → Prop} {d : DefRec} {CX : CXT} {x : Str}
    (hn : l.most = some n) (hn2 : n ≤ sizeLine) (hdf : d.params.defaults = []) (hr : Room k callerA)
    (F : ∀ (w : World) (mg : Str → Option Value) (fa : Addr) (h : Heap), YP w h → h.Ns mainGlobals mg → mg d.name = some (.ref fa) →
      ∃ (K : PySem.W.Frag) (fd : FuncData) (sp : Sp), K.In h ∧ (∀ (s : Shared) (u : Value), BindsTo s fd ⟨[u], []⟩ [(x, u)]) ∧
        (∀ (H : Hp) (a : Addr) (ns : List Int), ns.length ≤ n → Only H → SqL K H a (ns.map V.int) → sp [.ref a] H (fun v _ => v = .bl true) fun _ _ _ => False) ∧
        ∀ base : Heap, K.In base → base.Ns mainGlobals mg → FnG l.prog w K mg base CX k fa fd [x] sp)
    (hCX : ∀ (H : Hp) (s : Shared) (e : Value) (s' : Shared), CX [] H s (fun _ _ _ => False) e s' → False) :
    PySem.W.WalkO q loose XP YP l.row.toRowW d [] (fun f vs => PySem.call f vs) := by
  refine Att.attach_call hn hdf fun w s₀ s₁ mg mb fa o pm cd doc a vs ns G Y ho hd hcd hmg hobj hints hlen hg => ?_
  obtain ⟨K, fd, sp, KX, hb, hsp, hF⟩ := F w mg fa _ Y G.T.g hmg
  exact law_callG KX G.T.g G.T.b G.T.builtins G.T.nolimit hg hobj hints (Nat.le_trans hlen hn2) hr hF hb (fun H hO hS => hsp H a ns hlen hO hS) fun H e s' => hCX H s₁ e s'
end L2
namespace Ml
open PySem PySem.Spec PyProof.Rows L2
end Ml
namespace L2
open PySem PySem.Spec PyProof.Rows
section
variable {X : Cx}
def rRemD (K : PySem.W.Frag) : V → List V → Hp → VK → Prop := fun x xs H Q => ∃ (l : Addr) (ys : List V) (y : V) (d : PyData) (ds : List PyData) (j : Nat), x = .ref l ∧ xs = [y] ∧ H l = some (.lst ys) ∧ DpAll K H ys ds ∧ Dp K H y d ∧
  SeqAt.shaped (.list ds) = true ∧ SeqAt.shaped d = true ∧ SeqAt.dataPlace ds d = some j ∧ Q .non (upd H l (.lst (ys.eraseIdx j)))
theorem vals_erase : ∀ {xs : List V} {us : List Value} (j : Nat), Vals xs us → Vals (xs.eraseIdx j) (us.eraseIdx j)
  | [], _, j, r => by cases r; exact .nil
  | x :: xs, _, 0, r => by cases r with | cons a b => exact b
  | x :: xs, _, j + 1, r => by cases r with | cons a b => exact .cons a (vals_erase j b)
theorem mt_removeD (K : PySem.W.Frag) (hu : X.A.units + 65 < cLine) (hK : X.K = K := by rfl) : MtM X "list.remove" (rRemD K) := by
  subst hK
  intro pins s σ H x xs v us Q I rx rxs h
  obtain ⟨l, ys, y, d, ds, j, rfl, rfl, hH, ha, hy, sl, sd, hp, q⟩ := h
  cases rx
  obtain ⟨u, rfl, ru⟩ := rxs.one
  obtain ⟨z, its, n, r, hl, e⟩ := I.lstM hH
  obtain ⟨bs, r1⟩ := Dp.reads I d y u hy ru
  obtain ⟨as, h4⟩ := Dp.readsAll I ds _ its ha r
  have hxs : PyData.canLayAll0 ds = true := SeqAt.canLay_of_shaped sl
  have hroom : X.A.units + 1 + min (PyData.depthAll ds) d.depth < cLine := room_in_shaped sd hu
  have hrl := r.length
  refine PySem.SeqAt.remove_list_data ⟨_, e, rfl, n, rfl⟩ h4 r1 (PyData.plainAll_of_canLay0 _ hxs) (PyData.plain_of_canLay0 _ (SeqAt.canLay_of_shaped sd)) hroom hp (by rw [List.size_toArray]; omega) ?_
  refine ⟨.non, _, I.lset (its' := its.eraseIdx j) (t' := s.toks) hH e ?_ (vals_erase j r) ?_, rfl, q⟩
  · show its.toArray.eraseIdxIfInBounds j = (its.eraseIdx j).toArray
    rw [List.eraseIdxIfInBounds_toArray]
  · have := List.length_eraseIdx_le ys j
    omega
end
end L2
namespace Ml
open PySem PySem.Spec PyProof.Rows L2
section
variable {G : Gx} {α : Type} [Im G α] [DecidableEq α] [Lay α] [Pd G α] {H : Hp} {L L' : List (Asn G)} {i : Nat} {a : Addr} {Q : VK} {v : V}
def remP (xs : List α) (x : α) : List α := xs.eraseIdx (xs.findIdx fun y => decide (y = x))
theorem imL_erase : ∀ {vs : List V} {xs : List α} (j : Nat), imL (G := G) H vs xs → imL (G := G) H (vs.eraseIdx j) (xs.eraseIdx j)
  | [], [], _, _ => True.intro
  | v :: vs, x :: xs, 0, h => h.2
  | v :: vs, x :: xs, j + 1, h => ⟨h.1, imL_erase j h.2⟩
  | [], _ :: _, _, h => h.elim
  | _ :: _, [], _, h => h.elim
theorem place_is {xs : List α} {x : α} (hx : x ∈ xs) : SeqAt.dataPlace (xs.map (Pd.pd G)) (Pd.pd G x) = some (xs.findIdx fun y => decide (y = x)) := by
  unfold SeqAt.dataPlace
  rw [List.findIdx?_map]
  have e : (fun y => PyData.eqv y (Pd.pd G x)) ∘ Pd.pd G = fun y => decide (y = x) := funext fun y => Pd.eqv y x
  rw [e]
  have hl : xs.findIdx (fun y => decide (y = x)) < xs.length := List.findIdx_lt_length_of_exists ⟨x, hx, by simp⟩
  rw [List.findIdx?_eq_some_iff_getElem]
  refine ⟨hl, List.findIdx_getElem (w := hl), fun j hj => ?_⟩
  exact Bool.eq_false_iff.mp (List.not_of_lt_findIdx hj)
theorem k_removeP {xs : List α} {x : α} (hS : Sep H L) (e : L[i]? = some (lstA a xs)) (hv : Dp G.K H v (Pd.pd G x)) (l1 : Lay.lay xs = true) (l2 : Lay.lay x = true) (d : Pd.dep G α ≤ 63) (hx : x ∈ xs) (e2 : L.set i (lstA a (remP xs x)) = L') (q : ∀ H', Sep H' L' → Q .non H') : rRemD G.K (.ref a) [v] H Q := by
  obtain ⟨vs, h, m⟩ := hS.lst e
  refine ⟨a, vs, v, _, _, _, rfl, rfl, h, dpAll m, hv, shapedP (α := List α) (G := G) l1 (Nat.succ_le_succ d), shapedP l2 (by omega), place_is hx, ?_⟩
  subst e2
  exact q _ (hS.putL e (imL_erase _ m))
end
section
variable {G : Gx} {H : Hp} {L : List (Asn G)} {Q : VK} {v : V} {σ : L2.St} {ta : TE}
def kitB2 (T U1 U2 : String) : Option Bool := match kitB T U1 with
  | some true => some true
  | some false => kitB T U2
  | none => none
theorem kit2 {K : PySem.W.Frag} {T U1 U2 : String} {b : Bool} (h : kitB2 T U1 U2 = some b) : PySem.W.kitAny K (.type T) [.type U1, .type U2] = some b := by
  unfold kitB2 at h
  cases c : kitB T U1 with
  | none => rw [c] at h; cases h
  | some b1 =>
    rw [c] at h
    cases b1 with
    | true =>
      have hb : b = true := by simpa using h.symm
      exact kitAny_cons (kit_ty c) (fun z => by cases z) fun _ => hb
    | false =>
      have h : kitB T U2 = some b := h
      refine kitAny_cons (kit_ty c) (fun _ => ?_) fun z => by cases z
      cases b with
      | true => exact kitAny_cons (kit_ty h) (fun z => by cases z) fun _ => rfl
      | false => exact kitAny_cons (kit_ty h) (fun _ => kitAny_nil) fun z => by cases z
theorem k_isiT {T U1 U2 : String} {b : Bool} (hS : Sep H L) (ha : Ev ta σ H v) (ty : ∀ H', Sep H' L → TyX G.K H' v (.type T)) (e : kitB2 T U1 U2 = some b) (q : ∀ H', Sep H' L → Q (.bl b) H') :
    tCB (rIsiT G.K) (tCons ta (tCons (tTup (tCons (tC (.ty U1)) (tCons (tC (.ty U2)) tNil))) tNil)) σ H Q := by
  refine ha _ ?_
  refine ⟨by show 2 ≤ sizeLine; decide, fun p hp => ?_⟩
  have hS2 : Sep (upd H p (.tup [.ty U1, .ty U2])) L := hS.more (same_new hp)
  exact ⟨v, p, [.ty U1, .ty U2], .type T, [.type U1, .type U2], b, rfl, upd_same .., .cons (.ty _) (.cons (.ty _) .nil), ty _ hS2, kit2 e, q _ hS2⟩
end
end Ml
namespace Ml
open PySem PySem.Spec PyProof.Rows L2
theorem isiTK {X : Cx} (K : PySem.W.Frag) (hK : X.K = K := by rfl) : CallR X (.builtin "isinstance") (rIsiT K) := by subst hK; exact call_isiT
end Ml
namespace Ml
open PySem PySem.Spec PyProof.Rows L2
section
variable {G : Gx} {α β γ : Type} {H : Hp} {L L' M : List (Asn G)} {p : Addr} [Im G α] {E : Addr → γ → Asn G} {Q : VK} {i : Nat}
theorem k_lstC {vs : List V} (hS : Sep H L) (z : vs.length ≤ sizeLine) (k : ∀ p H', Sep H' (cell p (.lst vs) :: L) → Q (.ref p) H') : lstK Q vs H := ⟨z, fun p hp => k p _ (hS.new hp rfl)⟩
end
end Ml
namespace Ml
open PySem PySem.Spec PyProof.Rows L2
theorem niDK {X : Cx} (K : PySem.W.Frag) (hu : X.A.units + 65 < cLine) (hK : X.K = K := by rfl) : OpR X (compareOp .NotIn) (rNotInD K) := by subst hK; exact op_notInD hu
section
variable {G : Gx} {α : Type} [Im G α] [DecidableEq α] [Lay α] [Pd G α] {H : Hp} {v w : V} {x : α} {xs : List α} {ta tb : TE} {σ : L2.St}
def memD {α : Type} [DecidableEq α] (x : α) (xs : List α) : Bool := decide (x ∈ xs)
theorem any_is : (xs.map (Pd.pd G)).any (fun z => PyData.eqv z (Pd.pd G x)) = memD x xs := by
  unfold memD
  rw [List.any_map, Bool.eq_iff_iff, List.any_eq_true, decide_eq_true_eq]
  constructor
  · rintro ⟨y, hy, e⟩
    have e : PyData.eqv (Pd.pd G y) (Pd.pd G x) = true := e
    rw [Pd.eqv, decide_eq_true_eq] at e
    rw [← e]; exact hy
  · intro h
    refine ⟨x, h, ?_⟩
    show PyData.eqv (Pd.pd G x) (Pd.pd G x) = true
    rw [Pd.eqv]; exact decide_eq_true rfl
theorem ev_niP (ha : Ev ta σ H v) (hb : Ev tb σ H w) (d1 : Dp G.K H v (Pd.pd G x)) (d2 : Dp G.K H w (Pd.pd G xs)) (l1 : Lay.lay x = true) (l2 : Lay.lay xs = true) (d : Pd.dep G α ≤ 63) : Ev (tOp (rNotInD G.K) ta tb) σ H (.bl (!memD x xs)) :=
  ev_op ha hb fun Q q => ⟨_, _, d1, d2, shapedP l1 (by omega), shapedP (α := List α) (G := G) l2 (Nat.succ_le_succ d), by rw [any_is]; exact q⟩
end
end Ml
namespace Ml
open PySem PySem.Spec PyProof.Rows L2
end Ml
namespace Ml
open PySem PySem.Spec PyProof.Rows L2
end Ml
namespace Ml
open PySem PySem.Spec PyProof.Rows L2
variable {G : Gx} {H : Hp}
def lsA (l : List Str) : Any := .lst (l.map Any.str)
theorem imL_lsA : ∀ {vs : List V} {xs : List (List Str)}, imL (G := G) H vs xs → imL (G := G) H vs (xs.map lsA)
  | [], [], _ => True.intro
  | v :: vs, x :: xs, h => ⟨any_lstS h.1, imL_lsA h.2⟩
  | [], _ :: _, h => h.elim
  | _ :: _, [], h => h.elim
end Ml
namespace Ml
open PySem PySem.Spec PyProof.Rows L2
end Ml
namespace Ml
open PySem PySem.Spec PyProof.Rows L2
section
variable {G : Gx} {H : Hp} {L : List (Asn G)}
theorem imAnyL_of : ∀ {vs : List V} {xs : List Any}, imL (G := G) H vs xs → imAnyL H vs xs
  | [], [], _ => by rw [imAnyL]; trivial
  | v :: vs, x :: xs, h => by rw [imAnyL]; exact ⟨h.1, imAnyL_of h.2⟩
  | [], _ :: _, h => h.elim
  | _ :: _, [], h => h.elim
theorem dpOwnA {i : Nat} {a : Addr} {xs : List Any} (hS : Sep H L) (e : L[i]? = some (lstA a xs)) (pl : plAL xs = true) : Dp G.K H (.ref a) (.list (pdAL xs)) := by
  obtain ⟨vs, s, m⟩ := hS.sq e
  exact .lst s (dpAL (imAnyL_of m) pl)
end
def showOk (d : PyData) : Prop := d.showable = true ∧ d.hasDict = false ∧ d.depth ≤ 40 ∧ d.shown.length ≤ sizeLine
instance (d : PyData) : Decidable (showOk d) := by unfold showOk; infer_instance
/-- repr(xs), things of any sort -/
def reprA (xs : List Any) : R Str := R.need (plAL xs = true ∧ showOk (.list (pdAL xs))) (.ok (PyData.list (pdAL xs)).shown)
theorem wp_reprA {ρ : Type} {xs : List Any} {f : Str → R ρ} {q : ρ → Prop} {e : Exc → Prop} (h : R.wp ((reprA xs).bind f) q e) : ∃ s, (plAL xs = true ∧ showOk (.list (pdAL xs)) ∧ s = (PyData.list (pdAL xs)).shown) ∧ R.wp (f s) q e := by
  unfold reprA R.need at h
  by_cases c : plAL xs = true ∧ showOk (.list (pdAL xs))
  · rw [if_pos c] at h; exact ⟨_, ⟨c.1, c.2, rfl⟩, h⟩
  · rw [if_neg c] at h; exact h.elim
theorem r_reprA {G : Gx} {H : Hp} {L : List (Asn G)} {Q : VK} {i : Nat} {a : Addr} {xs : List Any} {s : Str} (hS : Sep H L) (e : L[i]? = some (lstA a xs)) (h : plAL xs = true ∧ showOk (.list (pdAL xs)) ∧ s = (PyData.list (pdAL xs)).shown) (q : Q (.str s) H) : rRepr G.K [.ref a] H Q := by
  obtain ⟨h1, ⟨h2, h3, h4, h5⟩, rfl⟩ := h
  exact ⟨a, _, rfl, dpOwnA hS e h1, h2, h3, h4, h5, q⟩
end Ml
namespace Ml
open PySem PySem.Spec PyProof.Rows L2
theorem any_kit2 (x : Any) (t u : String) (ht : t ∈ ["str", "int", "bool", "tuple", "list", "dict"]) (hu : u ∈ ["str", "int", "bool", "tuple", "list", "dict"]) : kitB2 x.ty t u = some (x.is t || x.is u) := by
  unfold kitB2
  rw [any_kit x t ht]
  cases x.is t with
  | true => rfl
  | false => exact any_kit x u hu
section
variable {G : Gx} {α β γ : Type} {H : Hp} {L M : List (Asn G)} {p : Addr} {Q : VK} {σ : L2.St} {ta tb : TE} {v w : V}
theorem Sep.as {A B : Asn G} (i : ∀ H fp, A.sat H fp → B.sat H fp) (h : Sep H (A :: M)) : Sep H (B :: M) := by
  obtain ⟨fp, ⟨f1, f2, e, a, k⟩, h2, h3⟩ := h
  exact ⟨fp, ⟨f1, f2, e, i _ _ a, k⟩, h2, h3⟩
theorem imL_conv [Im G α] [Im G β] {f : α → β} (hf : ∀ H v x, Im.im G H v x → Im.im G H v (f x)) : ∀ {vs : List V} {xs : List α}, imL (G := G) H vs xs → imL (G := G) H vs (xs.map f)
  | [], [], _ => True.intro
  | v :: vs, x :: xs, h => ⟨hf _ _ _ h.1, imL_conv hf h.2⟩
  | [], _ :: _, h => h.elim
  | _ :: _, [], h => h.elim
theorem conv_strs {xs : List Str} (h : Sep H (lstA p xs :: M)) : Sep H (lstA p (xs.map Any.str) :: M) :=
  Sep.as (A := lstA p xs) (fun H fp h => by
    obtain ⟨e, vs, g, m⟩ := h
    exact ⟨e, vs, g, imL_conv (f := Any.str) (fun H v x h => any_str.mpr h) m⟩) h
theorem conv_lists {xs : List (List Str)} (h : Sep H (lstA p xs :: M)) : Sep H (lstA p (xs.map lsA) :: M) :=
  Sep.as (A := lstA p xs) (fun H fp h => by
    obtain ⟨e, vs, g, m⟩ := h
    exact ⟨e, vs, g, imL_lsA m⟩) h
theorem ev_neO {x y : List Any} {b : Bool} (ha : Ev ta σ H v) (hb : Ev tb σ H w) (d1 : plAL x = true → Dp G.K H v (.list (pdAL x))) (d2 : plAL y = true → Dp G.K H w (.list (pdAL y)))
    (h : plA (.lst x) = true ∧ plA (.lst y) = true ∧ SeqAt.shaped (pdA (.lst x)) = true ∧ SeqAt.shaped (pdA (.lst y)) = true ∧ b = PyData.eqv (pdA (.lst x)) (pdA (.lst y))) : Ev (tOp (rNeD G.K) ta tb) σ H (.bl (!b)) := ev_op ha hb fun Q q => by
  obtain ⟨h1, h2, h3, h4, rfl⟩ := h
  rw [plA] at h1 h2
  have e1 : pdA (.lst x) = .list (pdAL x) := by rw [pdA]
  have e2 : pdA (.lst y) = .list (pdAL y) := by rw [pdA]
  rw [e1] at h3 q
  rw [e2] at h4 q
  exact ⟨_, _, d1 h1, d2 h2, h3, h4, q⟩
def otfE [Im G α] (E : Addr → γ → Asn G) (p : Addr) (x : γ × α) : Asn G := exA fun (w : Addr × V) => star [imA (.ref p) (⟨[.ref w.1, w.2]⟩ : TupV), E w.1 x.1, imA w.2 x.2]
theorem otf_open [Im G α] {E : Addr → γ → Asn G} {x : γ × α} (hS : Sep H (otfE E p x :: M)) : ∃ q v, Sep H (imA (.ref p) (⟨[.ref q, v]⟩ : TupV) :: E q x.1 :: imA v x.2 :: M) := by
  obtain ⟨w, h⟩ := Sep.ex hS
  exact ⟨w.1, w.2, Sep.star1 h⟩
theorem otf_pack [Im G α] {E : Addr → γ → Asn G} {v : V} {q : Addr} {x : γ} {y : α} (hS : Sep H (imA (.ref p) (⟨[.ref q, v]⟩ : TupV) :: E q x :: imA v y :: M)) : Sep H (otfE E p (x, y) :: M) := Sep.exI (q, v) (Sep.unstar1 hS)
end
end Ml
namespace Ml
open PySem PySem.Spec PyProof.Rows L2
section
variable {G : Gx} {β : Type} {H : Hp} {L M : List (Asn G)} {E : Addr → β → Asn G} {a p : Addr} {xs : List β} {ps : List Addr} {i : Int} {j n : Nat} {x : β} {Q : VK}
theorem listH_cell (hS : Sep H L) (e : L[n]? = some (listH E a ps xs j)) : H a = some (.lst (ps.map V.ref)) := by
  have p := perm_out e
  exact (Sep.star1 (hS.perm p.symm)).getCell (i := 0) rfl
theorem r_ixH (hS : Sep H L) (e : L[n]? = some (listH E a ps xs j)) (hl : ps.length = xs.length) (hp : ps[j]? = some p) (hx : ixN xs.length i = some j ∧ xs[j]? = some x) (q : Q (.ref p) H) : rIxL G.K (.ref a) (.int i) H Q := by
  refine ⟨a, ps.map V.ref, i, .ref p, rfl, rfl, .inl (.inl (listH_cell hS e)), ?_, q⟩
  unfold atI
  rw [List.length_map, hl, hx.1]
  show (ps.map V.ref)[j]? = _
  rw [List.getElem?_map, hp]
  rfl
theorem zip_eraseS : ∀ {ps : List Addr} {xs : List β} {j : Nat} {p : Addr}, ((ps.set j p).zip xs).eraseIdx j = (ps.zip xs).eraseIdx j
  | [], _, _, _ => rfl
  | q :: ps, [], j, p => by
    cases j <;> simp
  | q :: ps, x :: xs, 0, p => by simp
  | q :: ps, x :: xs, j + 1, p => by
    have := zip_eraseS (ps := ps) (xs := xs) (j := j) (p := p)
    simp [this]
/-- xs[i] = a new thing, where the old one was taken out -/
theorem k_setH {y : β} {p' : Addr} {P : Hp → Prop} (hS : Sep H (listH E a ps xs j :: E p' y :: M)) (hl : ps.length = xs.length) (hx : ixN xs.length i = some j ∧ xs[j]? = some x) (k : ∀ H', Sep H' (listE E a (xs.set j y) :: M) → P H') : rSetL (.ref a) (.int i) (.ref p') H P := by
  have hc := listH_cell (n := 0) hS rfl
  refine ⟨a, ps.map V.ref, i, j, rfl, rfl, hc, by rw [List.length_map, hl]; exact hx.1, k _ ?_⟩
  have hlt : j < ps.length := by rw [hl]; exact (List.getElem?_eq_some_iff.mp hx.2).1
  have h1 := Sep.star1 hS
  have h2 := h1.put (i := 0) (o := .lst (ps.map V.ref)) (o' := .lst ((ps.map V.ref).set j (.ref p'))) rfl rfl rfl
  have e1 : (ps.map V.ref).set j (.ref p') = (ps.set j p').map V.ref := by rw [List.map_set]
  rw [e1] at h2
  rw [e1]
  have h3 : Sep (upd H a (.lst ((ps.set j p').map V.ref))) ((cell a (.lst ((ps.set j p').map V.ref)) :: elemsE E (((ps.set j p').zip xs).eraseIdx j)) ++ (E p' y :: M)) := by
    rw [zip_eraseS]; exact h2
  exact unfocusE (ps := ps.set j p') (by rw [List.length_set]; exact hl) (List.getElem?_set_self hlt) ((Sep.unstar1 h3).perm (List.Perm.swap _ _ _))
theorem listE_nil (hS : Sep H (cell a (.lst []) :: M)) : Sep H (listE E a ([] : List β) :: M) := Sep.exI [] (Sep.andI rfl (Sep.unstar1 (L := [cell a (.lst [])]) hS))
end
end Ml
namespace Lw
open PySem PySem.Spec PyProof.Rows L2 Ml
def top (i : Nat) : Stmt := PySem.Challenge.pw_mailroom_k21_threads_looked_at.main.body.getD i (.Pass ⟨0, 0, 0, 0⟩)
abbrev s_Threads___init__ : Stmt := inClass (top 5) 0
abbrev s_Threads_pile : Stmt := inClass (top 5) 1
abbrev s_Threads_put_together : Stmt := inClass (top 5) 2
abbrev s_Threads_hang : Stmt := inClass (top 5) 3
abbrev s_Threads_sure : Stmt := inClass (top 5) 4
abbrev s_Threads_add : Stmt := inClass (top 5) 5
abbrev s_Threads_take_out : Stmt := inClass (top 5) 6
abbrev s_Threads_names : Stmt := inClass (top 5) 7
abbrev s_Threads_thread : Stmt := inClass (top 5) 8
abbrev s_Threads_threads : Stmt := inClass (top 5) 9
abbrev s_law_draws : Stmt := top 7
abbrev s_law_name_by : Stmt := top 8
abbrev s_law_pool : Stmt := top 9
abbrev s_law_hang : Stmt := top 10
abbrev s_law_thread : Stmt := top 11
abbrev s_law_threads : Stmt := top 12
abbrev s_law_is_list : Stmt := top 13
abbrev s_law_target : Stmt := top 14
abbrev s_law_done : Stmt := top 15
abbrev s_law_looked : Stmt := top 16
abbrev s_law_stands : Stmt := top 17
abbrev s_law : Stmt := top 18
def asM : List Addr := ([3, 31, 44, 139, 2, 30, 43, 138, 21, 60, 67, 74, 81, 88, 96, 103, 110, 115, 122, 129, 136, 150, 157, 162, 169, 174, 179, 184, 191, 196, 201, 208, 213, 15, 17, 18, 22, 29, 35, 42] : List Addr) ++ ([54, 56, 57, 61, 63, 64, 68, 70, 71, 75, 77, 78, 82, 84, 85, 89, 90, 92, 93, 97, 99, 100, 104, 106, 107, 111, 116, 118, 119, 123, 125, 126, 130, 132, 133, 137, 144, 146, 147, 151] : List Addr) ++ ([153, 154, 158, 163, 165, 166, 170, 175, 180, 185, 187, 188, 192, 197, 202, 204, 205, 209, 20, 32, 59, 66, 73, 80, 87, 95, 102, 109, 114, 121, 128, 135, 140, 141, 149, 156, 161, 168, 173, 178] : List Addr) ++ ([183, 190, 195, 200, 207, 212] : List Addr)
theorem fxM {l : List Bool} (h : l.all id = true) (i : Nat) {b : Bool} (e : l[i]? = some b) : b = true := List.all_eq_true.mp h b (List.mem_of_getElem? e)
def fb0 (K : PySem.W.Frag) : List Bool := [
  decide (PySem.W.nsIn K mainGlobals "MailError" = some (some (.ref 31))),
  decide (PySem.W.nsIn K mainGlobals "NoName" = some (some (.ref 44))),
  decide (PySem.W.nsIn K mainGlobals "Threads" = some (some (.ref 139))),
  decide (PySem.W.findIn K (.ref 139) "__init__" = some (some (.ref 60))),
  decide (PySem.W.isFn K (.ref 60) = true),
  decide (PySem.W.makesIn K 139 = true),
  decide (PySem.W.keepIn K (.ref 139) = true),
  decide (PySem.W.findIn K (.ref 139) "pile" = some (some (.ref 67))),
  decide (PySem.W.isFn K (.ref 67) = true),
  decide (PySem.W.findIn K (.ref 139) "put_together" = some (some (.ref 74))),
  decide (PySem.W.isFn K (.ref 74) = true),
  decide (PySem.W.findIn K (.ref 139) "hang" = some (some (.ref 81))),
  decide (PySem.W.isFn K (.ref 81) = true),
  decide (PySem.W.findIn K (.ref 139) "sure" = some (some (.ref 88))),
  decide (PySem.W.isFn K (.ref 88) = true),
  decide (PySem.W.findIn K (.ref 139) "add" = some (some (.ref 96))),
  decide (PySem.W.isFn K (.ref 96) = true),
  decide (PySem.W.findIn K (.ref 139) "take_out" = some (some (.ref 103))),
  decide (PySem.W.isFn K (.ref 103) = true),
  decide (PySem.W.findIn K (.ref 139) "names" = some (some (.ref 110))),
  decide (PySem.W.isFn K (.ref 110) = true),
  decide (PySem.W.findIn K (.ref 139) "thread" = some (some (.ref 115))),
  decide (PySem.W.isFn K (.ref 115) = true),
  decide (PySem.W.findIn K (.ref 139) "threads" = some (some (.ref 122))),
  decide (PySem.W.isFn K (.ref 122) = true),
  decide (PySem.W.nsIn K mainGlobals "_law_draws" = some (some (.ref 150))),
  decide (PySem.W.nsIn K mainGlobals "_law_name_by" = some (some (.ref 157))),
  decide (PySem.W.nsIn K mainGlobals "_law_pool" = some (some (.ref 162))),
  decide (PySem.W.nsIn K mainGlobals "_law_hang" = some (some (.ref 169))),
  decide (PySem.W.nsIn K mainGlobals "_law_thread" = some (some (.ref 174))),
  decide (PySem.W.nsIn K mainGlobals "_law_threads" = some (some (.ref 179))),
  decide (PySem.W.nsIn K mainGlobals "_law_is_list" = some (some (.ref 184))),
  decide (PySem.W.nsIn K mainGlobals "_law_target" = some (some (.ref 191))),
  decide (PySem.W.nsIn K mainGlobals "_law_done" = some (some (.ref 196))),
  decide (PySem.W.nsIn K mainGlobals "_law_looked" = some (some (.ref 201))),
  decide (PySem.W.nsIn K mainGlobals "_law_stands" = some (some (.ref 208))),
  decide (PySem.W.nsIn K mainGlobals "law" = some (some (.ref 213))),
  decide (PySem.W.excIn K 44 [.type "ValueError", .type "Exception", .type "BaseException", .type "object"] "ValueError.__new__" = true),
  decide (PySem.W.keepIn K (.ref 44) = true),
  decide (PySem.W.subIn K (.ref 44) (.type "BaseException") = some true)]
def fb1 (K : PySem.W.Frag) : List Bool := [
  decide (PySem.W.typeIn K (.ref 44) = some (.type "type")),
  decide (PySem.W.plainGet K 139 Str.empty = true),
  decide (PySem.W.hasDictIn K 139 = true),
  decide (PySem.W.plainOver K 139 = true),
  decide (PySem.W.findIn K (.ref 139) "__setattr__" = some (some (.builtin "object.__setattr__"))),
  decide (PySem.W.findIn K (.ref 139) "goes_to" = some none),
  decide (PySem.W.findIn K (.ref 139) "pile_of" = some none),
  decide (PySem.W.findIn K (.ref 139) "piles" = some none),
  decide (PySem.W.findIn K (.ref 139) "comes_from" = some none),
  decide (PySem.W.findIn K (.ref 139) "made" = some none),
  decide (PySem.W.nsIn K mainGlobals "all" = some none),
  decide (PySem.W.nsIn K mainGlobals "int" = some none),
  decide (PySem.W.nsIn K mainGlobals "isinstance" = some none),
  decide (PySem.W.nsIn K mainGlobals "len" = some none),
  decide (PySem.W.nsIn K mainGlobals "list" = some none),
  decide (PySem.W.nsIn K mainGlobals "range" = some none),
  decide (PySem.W.nsIn K mainGlobals "repr" = some none),
  decide (PySem.W.nsIn K mainGlobals "sorted" = some none),
  decide (PySem.W.nsIn K mainGlobals "str" = some none)]
def dfn0 : He5.DefA := ⟨fun _ => 60, "__init__", "Threads.__init__", defArgs s_Threads___init__, defBody s_Threads___init__, defScope s_Threads___init__, [], []⟩
def dfn1 : He5.DefA := ⟨fun _ => 67, "pile", "Threads.pile", defArgs s_Threads_pile, defBody s_Threads_pile, defScope s_Threads_pile, [], []⟩
def dfn2 : He5.DefA := ⟨fun _ => 74, "put_together", "Threads.put_together", defArgs s_Threads_put_together, defBody s_Threads_put_together, defScope s_Threads_put_together, [], []⟩
def dfn3 : He5.DefA := ⟨fun _ => 81, "hang", "Threads.hang", defArgs s_Threads_hang, defBody s_Threads_hang, defScope s_Threads_hang, [], []⟩
def dfn4 : He5.DefA := ⟨fun _ => 88, "sure", "Threads.sure", defArgs s_Threads_sure, defBody s_Threads_sure, defScope s_Threads_sure, [], []⟩
def dfn5 : He5.DefA := ⟨fun _ => 96, "add", "Threads.add", defArgs s_Threads_add, defBody s_Threads_add, defScope s_Threads_add, [.str ("" : Str)], []⟩
def dfn6 : He5.DefA := ⟨fun _ => 103, "take_out", "Threads.take_out", defArgs s_Threads_take_out, defBody s_Threads_take_out, defScope s_Threads_take_out, [], []⟩
def dfn7 : He5.DefA := ⟨fun _ => 110, "names", "Threads.names", defArgs s_Threads_names, defBody s_Threads_names, defScope s_Threads_names, [], []⟩
def dfn8 : He5.DefA := ⟨fun _ => 115, "thread", "Threads.thread", defArgs s_Threads_thread, defBody s_Threads_thread, defScope s_Threads_thread, [], []⟩
def dfn9 : He5.DefA := ⟨fun _ => 122, "threads", "Threads.threads", defArgs s_Threads_threads, defBody s_Threads_threads, defScope s_Threads_threads, [], []⟩
def dfn10 : He5.DefA := ⟨fun _ => 150, "_law_draws", "_law_draws", defArgs s_law_draws, defBody s_law_draws, defScope s_law_draws, [], []⟩
def dfn11 : He5.DefA := ⟨fun _ => 157, "_law_name_by", "_law_name_by", defArgs s_law_name_by, defBody s_law_name_by, defScope s_law_name_by, [], []⟩
def dfn12 : He5.DefA := ⟨fun _ => 162, "_law_pool", "_law_pool", defArgs s_law_pool, defBody s_law_pool, defScope s_law_pool, [], []⟩
def dfn13 : He5.DefA := ⟨fun _ => 169, "_law_hang", "_law_hang", defArgs s_law_hang, defBody s_law_hang, defScope s_law_hang, [], []⟩
def dfn14 : He5.DefA := ⟨fun _ => 174, "_law_thread", "_law_thread", defArgs s_law_thread, defBody s_law_thread, defScope s_law_thread, [], []⟩
def dfn15 : He5.DefA := ⟨fun _ => 179, "_law_threads", "_law_threads", defArgs s_law_threads, defBody s_law_threads, defScope s_law_threads, [], []⟩
def dfn16 : He5.DefA := ⟨fun _ => 184, "_law_is_list", "_law_is_list", defArgs s_law_is_list, defBody s_law_is_list, defScope s_law_is_list, [], []⟩
def dfn17 : He5.DefA := ⟨fun _ => 191, "_law_target", "_law_target", defArgs s_law_target, defBody s_law_target, defScope s_law_target, [], []⟩
def dfn18 : He5.DefA := ⟨fun _ => 196, "_law_done", "_law_done", defArgs s_law_done, defBody s_law_done, defScope s_law_done, [], []⟩
def dfn19 : He5.DefA := ⟨fun _ => 201, "_law_looked", "_law_looked", defArgs s_law_looked, defBody s_law_looked, defScope s_law_looked, [], []⟩
def dfn20 : He5.DefA := ⟨fun _ => 208, "_law_stands", "_law_stands", defArgs s_law_stands, defBody s_law_stands, defScope s_law_stands, [], []⟩
def dfn21 : He5.DefA := ⟨fun _ => 213, "law", "law", defArgs s_law, defBody s_law, defScope s_law, [], []⟩
def dfns0 : List He5.DefA := [dfn0, dfn1, dfn2, dfn3, dfn4, dfn5, dfn6, dfn7, dfn8, dfn9, dfn10, dfn11, dfn12, dfn13, dfn14, dfn15, dfn16, dfn17, dfn18, dfn19, dfn20, dfn21]
def factsK (K : PySem.W.Frag) : Bool := (fb0 K).all id && (fb1 K).all id
def obsD (ds : List He5.DefA) (K : PySem.W.Frag) : Bool × List He.FnW := (ds.all fun d => d.ok K, ds.map fun d => He5.fnA K (d.at_ K))
def valD (ds : List He5.DefA) : Bool × List He.FnW := (true, ds.map He5.DefA.val)
abbrev ObT : Type := Bool × (Bool × List He.FnW)
def obsK (K : PySem.W.Frag) : ObT := (factsK K, obsD dfns0 K)
def valK : ObT := (true, valD dfns0)
def hookM : PySem.W.Hook where
  α := ObT
  obs := fun s => obsK (He.frG s.heap.get? asM)
  val := fun _ => valK
  says := fun _ h => ∃ K : PySem.W.Frag, K.In h ∧ obsK K = valK
  of := fun _ _ e => ⟨_, He.frG_in, e⟩
  keeps := fun _ _ _ ⟨K, hK, c⟩ k => ⟨K, PySem.W.Frag.In.keeps hK k, c⟩
def obM (s : PySem.W.SharedT) : ObT := obsK (He.frG (HandSHeadRun.getT s) asM)
theorem obM_eq (s : PySem.W.SharedT) : obM s = hookM.obs s.abs := by
  have e : HandSHeadRun.getT s = s.abs.heap.get? := funext (HandSHeadRun.getT_eq s)
  show obsK (He.frG (HandSHeadRun.getT s) asM) = obsK (He.frG s.abs.heap.get? asM)
  rw [e]
theorem defM {K : PySem.W.Frag} {ds : List He5.DefA} (c : obsD ds K = valD ds) (i : Nat) {d : He5.DefA} (h : ds[i]? = some d) : ∃ fd, FunD K d.name d.qual d.params d.body d.scope (d.dvs K) (d.kws K) (d.at_ K) fd := by
  have c2 : (ds.all fun d => d.ok K) = true := congrArg (fun z : Bool × List He.FnW => z.1) c
  have e : ds.map (fun d => He5.fnA K (d.at_ K)) = ds.map He5.DefA.val := congrArg (fun z : Bool × List He.FnW => z.2) c
  have e2 : (ds.map fun d => He5.fnA K (d.at_ K))[i]? = (ds.map He5.DefA.val)[i]? := by rw [e]
  rw [List.getElem?_map, List.getElem?_map, h] at e2
  exact He5.DefA.funD (Option.some.inj e2) (List.all_eq_true.mp c2 d (List.mem_of_getElem? h))
def namesM : List PySem.Str := (["_wall", "__name__", "MailError", "NoName", "Threads", "_law_draws", "_law_name_by", "_law_pool", "_law_hang", "_law_thread", "_law_threads", "_law_is_list", "_law_target", "_law_done", "_law_looked", "_law_stands"] : List PySem.Str)
abbrev rowM : PySem.W.OpenRow := PySem.W.OpenLaw.row PySem.Challenge.rw_mailroom_k21_threads_looked_at
open PySem.W PySem.Calls HandSHeadRun in
noncomputable abbrev endM (w : World) (os : OsState) : Option PySem.W.SharedT := HandSHeadRun.endF (HandSHeadRun.stepQ (HandSHeadRun.denQ HandSHeadRun.tabQ) rowM.prog w) 40000 rowM.prog w os
open PySem PySem.W PySem.Calls PyProof.Rows HandSHeadRun in
noncomputable abbrev seenM (w : World) (s : SharedT) := (looksF rowM.prog (boot_heap w.params) s.abs, HandSHeadRun.seenQ (view rowM.prog [18]) namesM (importedModules rowM.prog.main.body) (fun s => xlAt (view rowM.prog [18]) [] s && recOk rowM.toRowW.records s) s.abs)
theorem rc_pair {S α β : Type} {o : Option S} {f : S → α} {g : S → β} {a : α} {b : β} (h : o.map f = some a) (k : o.map g = some b) : o.map (fun s => (f s, g s)) = some (a, b) := by
  cases o with
  | none => cases h
  | some s =>
    cases h; cases k; rfl
theorem rc_top {S α β γ : Type} {o : Option S} {f : S → α × β} {g : S → γ} {a : α} {b : β} {c : γ} (h : o.map f = some (a, b)) (k : o.map g = some c) : o.map (fun s => ((f s).1, (f s).2, g s)) = some (a, b, c) := by
  cases o with
  | none => cases h
  | some s =>
    have h : f s = (a, b) := Option.some.inj h
    have k : g s = c := Option.some.inj k
    show some ((f s).1, (f s).2, g s) = _
    rw [h, k]
theorem run00 (w : World) : ∀ os : OsState, (endM w os).map (fun s => (seenM w s, factsK (He.frG (HandSHeadRun.getT s) asM))) = some ((true, PySem.W.openGood (PySem.W.view rowM.prog [18]) namesM), true) := by
  intro os
  kernel_rfl
theorem rc_l {S α β : Type} {o : Option S} {f : S → α} {g : S → β} {a : α} {b : β} (h : o.map (fun s => (f s, g s)) = some (a, b)) : o.map f = some a ∧ o.map g = some b := by
  cases o with
  | none => cases h
  | some s =>
    have h : (f s, g s) = (a, b) := Option.some.inj h
    exact ⟨congrArg (fun z : α × β => some z.1) h, congrArg (fun z : α × β => some z.2) h⟩
theorem run0 (w : World) (os : OsState) : (endM w os).map (seenM w) = some (true, PySem.W.openGood (PySem.W.view rowM.prog [18]) namesM) := (rc_l (run00 w os)).1
theorem runF (w : World) (os : OsState) : (endM w os).map (fun s => factsK (He.frG (HandSHeadRun.getT s) asM)) = some true := (rc_l (run00 w os)).2
theorem runD0 (w : World) : ∀ os : OsState, (endM w os).map (fun s => obsD dfns0 (He.frG (HandSHeadRun.getT s) asM)) = some (valD dfns0) := by
  intro os
  kernel_rfl
theorem runM (w : World) : HandSHeadRun.RunEq rowM (PySem.W.view rowM.prog [18]) hookM obM 40000 namesM w := by
  intro os
  have hs := run0 w os
  have hF := runF w os
  have h0 := runD0 w os
  revert hs hF h0
  show _ → _ → _ → (endM w os).map (fun s => ((seenM w s).1, (seenM w s).2, obM s)) = some (true, PySem.W.openGood (PySem.W.view rowM.prog [18]) namesM, valK)
  generalize endM w os = o
  intro hs hF h0
  exact rc_top hs (rc_pair hF (h0))
end Lw
namespace Lw
open PySem L2 Ml
structure Threads where
  goes_to : (List (Str × Str))
  pile_of : (List (Str × Int))
  piles : (List (Int × (List Str)))
  comes_from : (List (Str × (List (Str × Bool))))
  made : Int
def m_Threads___init__  : R Threads :=
R.ok ((⟨([] : (List (Str × Str))), ([] : (List (Str × Int))), ([] : (List (Int × (List Str)))), ([] : (List (Str × (List (Str × Bool))))), 0⟩ : Threads))
def m_Threads_pile (v_self : Threads) (v_name : Str) : R (Int × Threads) :=
(if (!dhas v_self.pile_of v_name) = true then (
R.need (v_self.pile_of.length < sizeLine) <|
R.need (v_self.piles.length < sizeLine) <|
R.need (dhas v_self.piles (v_self.made + 1) = false) <|
R.ok (dput v_self.pile_of v_name (v_self.made + 1), v_self.piles ++ [(v_self.made + 1, [v_name])], v_self.made + 1)) else (
R.ok (v_self.pile_of, v_self.piles, v_self.made))).bind fun (s6 : (List (Str × Int)) × (List (Int × (List Str))) × Int) =>
(dgetR s6.1 v_name).bind fun y11 =>
R.ok ((y11, (⟨v_self.goes_to, s6.1, s6.2.1, v_self.comes_from, s6.2.2⟩ : Threads)))
def m_Threads_put_together (v_self : Threads) (v_one : Int) (v_other : Int) : R Threads :=
if (decide (v_one = v_other)) = true then (
R.ok (v_self)) else (
(dgetR v_self.piles v_one).bind fun x7 =>
(dgetR v_self.piles v_other).bind fun x15 =>
(if (decide ((x7.length : Int) < (x15.length : Int))) = true then (
R.ok (v_other, v_one)) else (
R.ok (v_one, v_other))).bind fun (s23 : Int × Int) =>
(dgetR v_self.piles s23.2).bind fun y24 =>
(forR (fun (s26 : (List (Str × Int))) (x27 : Str) =>
R.need (s26.length < sizeLine) <|
R.ok (dput s26 x27 s23.1)) (y24) (v_self.pile_of)).bind fun (s26 : (List (Str × Int))) =>
(dgetR (ddrop v_self.piles s23.2) s23.1).bind fun y31 =>
R.need ((ddrop v_self.piles s23.2).length < sizeLine) <|
R.need (y31.length + y24.length ≤ sizeLine) <|
R.ok ((⟨v_self.goes_to, s26, dput (ddrop v_self.piles s23.2) s23.1 (y31 ++ y24), v_self.comes_from, v_self.made⟩ : Threads)))
def m_Threads_hang (v_self : Threads) (v_name : Str) : R Threads :=
(m_Threads_pile v_self v_name).bind fun r6 =>
(dgetR r6.2.goes_to v_name).bind fun y12 =>
(if (!decide (y12 = ("" : Str))) = true then (
(dgetR r6.2.goes_to v_name).bind fun y22 =>
(m_Threads_pile r6.2 y22).bind fun r26 =>
(m_Threads_put_together r26.2 r6.1 r26.1).bind fun r32 =>
R.ok (r32)) else (
R.ok (r6.2))).bind fun (s16 : Threads) =>
R.ok (s16)
def m_Threads_sure (v_self : Threads) (v_name : Str) : R Unit :=
if (!dhas v_self.goes_to v_name) = true then (
R.need ((v_name).length ≤ sizeLine) <|
R.need ((Str.empty ++ v_name).length ≤ sizeLine) <|
R.need (((Str.empty ++ v_name) ++ (" isn't there" : Str)).length ≤ sizeLine) <|
.exc ⟨1, 0⟩) else (
R.ok (()))
def m_Threads_add (v_self : Threads) (v_name : Str) (v_answers : Str) : R Threads :=
if (dhas v_self.goes_to v_name) = true then (
R.need ((v_name).length ≤ sizeLine) <|
R.need ((Str.empty ++ v_name).length ≤ sizeLine) <|
R.need (((Str.empty ++ v_name) ++ (" is there" : Str)).length ≤ sizeLine) <|
.exc ⟨1, 0⟩) else (
R.need (v_self.goes_to.length < sizeLine) <|
R.need (v_self.comes_from.length < sizeLine) <|
R.need (((dget v_self.comes_from v_answers).getD ([] : (List (Str × Bool)))).length < sizeLine) <|
(R.noexc (m_Threads_hang (⟨dput v_self.goes_to v_name v_answers, v_self.pile_of, v_self.piles, dput (setE v_self.comes_from v_answers ([] : (List (Str × Bool)))) v_answers (dput ((dget v_self.comes_from v_answers).getD ([] : (List (Str × Bool)))) v_name true), v_self.made⟩ : Threads) v_name)).bind fun r21 =>
R.ok (r21))
def m_Threads_take_out (v_self : Threads) (v_name : Str) : R Threads :=
(m_Threads_sure v_self v_name).bind fun r6 =>
(dgetR v_self.goes_to v_name).bind fun y12 =>
(dgetR v_self.comes_from y12).bind fun x14 =>
(dgetR x14 v_name).bind fun y22 =>
(dgetR (dput v_self.comes_from y12 (ddrop x14 v_name)) y12).bind fun x24 =>
(if (decide ((x24.length : Int) = 0)) = true then (
(dgetR (dput v_self.comes_from y12 (ddrop x14 v_name)) y12).bind fun y36 =>
R.ok (ddrop (dput v_self.comes_from y12 (ddrop x14 v_name)) y12)) else (
R.ok (dput v_self.comes_from y12 (ddrop x14 v_name)))).bind fun (s35 : (List (Str × (List (Str × Bool))))) =>
(dgetR v_self.pile_of v_name).bind fun y38 =>
(dgetR v_self.piles y38).bind fun y42 =>
(forR (fun (s44 : (List (Str × Int))) (x45 : Str) =>
(dgetR s44 x45).bind fun y48 =>
R.ok (ddrop s44 x45)) (y42) (v_self.pile_of)).bind fun (s44 : (List (Str × Int))) =>
(forR (fun (s50 : Threads) (x51 : Str) =>
(if (dhas s50.goes_to x51) = true then (
(R.noexc (m_Threads_hang s50 x51)).bind fun r65 =>
R.ok (r65)) else (
R.ok (s50))).bind fun (s59 : Threads) =>
R.ok (s59)) (y42) ((⟨ddrop v_self.goes_to v_name, s44, ddrop v_self.piles y38, s35, v_self.made⟩ : Threads))).bind fun (s50 : Threads) =>
R.ok (s50)
def m_Threads_names (v_self : Threads) : R ((List Str)) :=
R.need (v_self.goes_to.length < 64) <|
R.ok (sortT (v_self.goes_to.map (·.1)))
def m_Threads_thread (v_self : Threads) (v_name : Str) : R ((List Str)) :=
(m_Threads_sure v_self v_name).bind fun r6 =>
(dgetR v_self.pile_of v_name).bind fun y12 =>
(dgetR v_self.piles y12).bind fun x16 =>
R.need ((x16).length ≤ sizeLine) <|
(compR (fun (_ : Unit) (x26 : Str) =>
if (dhas v_self.goes_to x26) = true then (
R.ok ((), some (x26))) else R.ok ((), none)) (x16) ()).bind fun (t30 : Unit × List Str) =>
R.need (t30.2.length < 64) <|
R.ok (sortT t30.2)
def m_Threads_threads (v_self : Threads) : R ((List (List Str))) :=
R.need (v_self.goes_to.length < 64) <|
(forF (ρ := ((List (List Str)))) (fun (s10 : (List (List Str)) × (List (Int × Bool))) (x11 : Str) =>
(dgetR v_self.pile_of x11).bind fun y20 =>
if (dhas s10.2 y20) = true then (
R.ok (.go (s10.1, s10.2))) else (
(dgetR v_self.pile_of x11).bind fun y25 =>
R.need (s10.2.length < sizeLine) <|
(m_Threads_thread v_self x11).bind fun r30 =>
R.need (s10.1.length < sizeLine) <|
R.ok (.go (s10.1 ++ [r30], dput s10.2 y25 true)))) (sortT (v_self.goes_to.map (·.1))) (([] : (List (List Str))), ([] : (List (Int × Bool))))).bind (contF (fun (s10 : (List (List Str)) × (List (Int × Bool))) =>
R.ok (s10.1)) (fun o44 => .ok o44))
def m_law_draws (v_law_script : Script) (v_law_many : Int) : R ((List Int)) :=
R.need (-(2 ^ 62) ≤ v_law_many ∧ v_law_many < 2 ^ 62) <|
(forR (fun (s3 : (List Int) × Int) (x4 : Int) =>
(if (decide (0 < (v_law_script.ns.length : Int))) = true then (
R.need (0 < (v_law_script.ns.length : Int)) <|
(idxR v_law_script.ns (x4 % (v_law_script.ns.length : Int))).bind fun x10 =>
R.ok (x10)) else (
R.ok (0))).bind fun (s8 : Int) =>
(R.ok (((((s3.2 * 48271) + s8) + x4) + 1) % 2147483647 : Int)).bind fun y11 =>
R.need (mulOk (y11) (y11)) <|
R.need (s3.1.length < sizeLine) <|
R.ok (s3.1 ++ [(y11 * y11) % 2147483629], y11)) (rngL 0 (v_law_many).toNat) (([] : (List Int)), 7)).bind fun (s3 : (List Int) × Int) =>
R.ok (s3.1)
def m_law_name_by (v_law_shape : Int) (v_law_k : Int) : R Str :=
if (decide ((v_law_shape % 4) = 0)) = true then (
(idxR (("abcdefghijklmnopqrstuvwxyz0123456789" : Str)).cps.toList (((v_law_shape / 4) + (v_law_k / 20)) % 36)).bind fun c2 =>
R.need ((sg (c2)).length * (1 + (v_law_k % 20) : Int).toNat ≤ sizeLine ∧ -(2 ^ 62) ≤ (1 + (v_law_k % 20) : Int) ∧ (1 + (v_law_k % 20) : Int) < 2 ^ 62) <|
R.ok (repS (sg (c2)) (1 + (v_law_k % 20) : Int).toNat)) else (
(R.ok ((v_law_shape / 4) % 18 : Int)).bind fun y4 =>
R.need (0 < (19 - y4)) <|
R.need (-(2 ^ 62) ≤ ((y4 + 2) + ((v_law_shape / 72) % (19 - y4))) ∧ ((y4 + 2) + ((v_law_shape / 72) % (19 - y4))) < 2 ^ 62) <|
(forR (fun (s7 : Str) (x8 : Int) =>
(if (decide (x8 = y4)) = true then (
(idxR (("abcdefghijklmnopqrstuvwxyz0123456789" : Str)).cps.toList (((v_law_shape / 1368) + (v_law_k / 36)) % 36)).bind fun c12 =>
R.need ((s7).length + (sg (c12)).length ≤ sizeLine) <|
(R.ok (s7 ++ (sg (c12)) : Str)).bind fun y14 =>
R.ok (y14)) else (
(if (decide (x8 = (y4 + 1))) = true then (
(idxR (("abcdefghijklmnopqrstuvwxyz0123456789" : Str)).cps.toList (((v_law_shape / 49248) + v_law_k) % 36)).bind fun c16 =>
R.need ((s7).length + (sg (c16)).length ≤ sizeLine) <|
(R.ok (s7 ++ (sg (c16)) : Str)).bind fun y18 =>
R.ok (y18)) else (
R.need (mulOk (x8) (1 + (v_law_shape % 7))) <|
(idxR (("abcdefghijklmnopqrstuvwxyz0123456789" : Str)).cps.toList (((v_law_shape / 3) + (x8 * (1 + (v_law_shape % 7)))) % 36)).bind fun c20 =>
R.need ((s7).length + (sg (c20)).length ≤ sizeLine) <|
(R.ok (s7 ++ (sg (c20)) : Str)).bind fun y22 =>
R.ok (y22))).bind fun (s15 : Str) =>
R.ok (s15))).bind fun (s11 : Str) =>
R.ok (s11)) (rngL 0 ((y4 + 2) + ((v_law_shape / 72) % (19 - y4))).toNat) (("" : Str))).bind fun (s7 : Str) =>
R.ok (s7))
def m_law_pool (v_law_draws_here : (List Int)) : R ((List Str)) :=
(idxR v_law_draws_here (1)).bind fun x1 =>
(R.ok (2 + (x1 % 9) : Int)).bind fun y2 =>
R.need (-(2 ^ 62) ≤ y2 ∧ y2 < 2 ^ 62) <|
R.need ((rngL 0 (y2).toNat).length ≤ sizeLine) <|
(compR (fun (_ : Unit) (x6 : Int) =>
(idxR v_law_draws_here (0)).bind fun x9 =>
(m_law_name_by x9 x6).bind fun r10 =>
R.ok ((), some (r10))) (rngL 0 (y2).toNat) ()).bind fun (t11 : Unit × List Str) =>
R.ok (t11.2)
def m_law_hang (v_law_one : (Str × Str)) (v_law_other : (Str × Str)) : R Bool :=
R.ok ((decide (v_law_one.2 = v_law_other.1)) || ((decide (v_law_other.2 = v_law_one.1)) || ((!decide (v_law_one.2 = ("" : Str))) && (decide (v_law_one.2 = v_law_other.2)))))
def m_law_thread (v_law_rows : (List (Str × Str))) (v_law_name : Str) : R ((List Str)) :=
R.need ((v_law_rows).length ≤ sizeLine) <|
(compR (fun (_ : Unit) (x3 : (Str × Str)) =>
if (decide (x3.1 = v_law_name)) = true then (
R.ok ((), some (x3))) else R.ok ((), none)) (v_law_rows) ()).bind fun (t14 : Unit × List (Str × Str)) =>
(whileN 64 (fun (s15 : (List (Str × Str)) × Int) => decide (s15.2 < (s15.1.length : Int))) (fun (s15 : (List (Str × Str)) × Int) =>
R.need ((v_law_rows).length ≤ sizeLine) <|
(compR (fun (_ : Unit) (x19 : (Str × Str)) =>
R.need (Lay.lay (x19 : (Str × Str)) = true) <|
R.need (Lay.lay (s15.1 : (List (Str × Str))) = true) <|
(if (!memD (x19 : (Str × Str)) s15.1) = true then (
(idxR s15.1 (s15.2)).bind fun x27 =>
(m_law_hang x19 x27).bind fun r36 =>
R.ok (r36)) else R.ok false).bind fun b26 =>
if b26 = true then (
R.ok ((), some (x19))) else R.ok ((), none)) (v_law_rows) ()).bind fun (t38 : Unit × List (Str × Str)) =>
R.need (s15.1.length + t38.2.length ≤ sizeLine) <|
(R.ok (s15.1 ++ t38.2 : (List (Str × Str)))).bind fun y41 =>
(R.ok (s15.2 + 1 : Int)).bind fun y42 =>
R.ok (y41, y42)) (t14.2, 0)).bind fun (s15 : (List (Str × Str)) × Int) =>
R.need ((s15.1).length ≤ sizeLine) <|
(compR (fun (_ : Unit) (x45 : (Str × Str)) =>
R.ok ((), some (x45.1))) (s15.1) ()).bind fun (t55 : Unit × List Str) =>
R.need (t55.2.length < 64) <|
R.ok (sortT t55.2)
def m_law_threads (v_law_rows : (List (Str × Str))) : R ((List (List Str))) :=
R.need ((v_law_rows).length ≤ sizeLine) <|
(compR (fun (_ : Unit) (x4 : (Str × Str)) =>
R.ok ((), some (x4.1))) (v_law_rows) ()).bind fun (t14 : Unit × List Str) =>
R.need (t14.2.length < 64) <|
(forR (fun (s17 : (List (List Str))) (x18 : Str) =>
(m_law_thread v_law_rows x18).bind fun r22 =>
R.need (Lay.lay (r22 : (List Str)) = true) <|
R.need (Lay.lay (s17 : (List (List Str))) = true) <|
(if (!memD (r22 : (List Str)) s17) = true then (
R.need (s17.length < sizeLine) <|
R.ok (s17 ++ [r22])) else (
R.ok (s17))).bind fun (s27 : (List (List Str))) =>
R.ok (s27)) (sortT t14.2) (([] : (List (List Str))))).bind fun (s17 : (List (List Str))) =>
R.ok (s17)
def m_law_is_list (v_law_found : (List Any)) (v_law_due : (List Any)) : R Bool :=
(eqA (.lst v_law_found) (.lst v_law_due)).bind fun b1 =>
if (!b1) = true then (
R.ok (false)) else (
R.need ((v_law_found).length ≤ sizeLine) <|
(compR (fun (_ : Unit) (x5 : Any) =>
R.ok ((), some ((x5.is "str" || x5.is "list")))) (v_law_found) ()).bind fun (t9 : Unit × List Bool) =>
R.ok (t9.2.all id))
def m_law_target (v_law_pool_here : (List Str)) (v_law_name : Str) (v_law_draw : Int) : R Str :=
(R.ok (v_law_draw % 6 : Int)).bind fun y1 =>
if (decide (y1 = 0)) = true then (
R.ok (("" : Str))) else (
if (decide (y1 = 1)) = true then (
R.ok (v_law_name)) else (
if (decide (y1 = 2)) = true then (
(idxR v_law_pool_here (0)).bind fun x5 =>
(idxR v_law_pool_here (0)).bind fun x6 =>
R.need ((x6).length ≤ sizeLine) <|
R.need ((("0" : Str)).length * (if (decide (((x6).length : Int) < 20)) = true then 1 else 0 : Int).toNat ≤ sizeLine ∧ -(2 ^ 62) ≤ (if (decide (((x6).length : Int) < 20)) = true then 1 else 0 : Int) ∧ (if (decide (((x6).length : Int) < 20)) = true then 1 else 0 : Int) < 2 ^ 62) <|
R.need ((x5).length + (repS ("0" : Str) (if (decide (((x6).length : Int) < 20)) = true then 1 else 0 : Int).toNat).length ≤ sizeLine) <|
R.ok (x5 ++ (repS ("0" : Str) (if (decide (((x6).length : Int) < 20)) = true then 1 else 0 : Int).toNat))) else (
R.need (0 < (v_law_pool_here.length : Int)) <|
(idxR v_law_pool_here ((v_law_draw / 6) % (v_law_pool_here.length : Int))).bind fun x11 =>
R.ok (x11))))
def m_law_done (v_law_threads_here : Threads) (v_law_rows : (List (Str × Str))) (v_law_pool_here : (List Str)) (v_law_draws_here : (List Int)) : R (Bool × Threads × (List (Str × Str))) :=
(idxR v_law_draws_here (0)).bind fun x1 =>
R.need (0 < (v_law_pool_here.length : Int)) <|
(idxR v_law_pool_here (x1 % (v_law_pool_here.length : Int))).bind fun x3 =>
R.need ((v_law_rows).length ≤ sizeLine) <|
(compR (fun (_ : Unit) (x6 : (Str × Str)) =>
if (decide (x6.1 = x3)) = true then (
R.ok ((), some (x6))) else R.ok ((), none)) (v_law_rows) ()).bind fun (t17 : Unit × List (Str × Str)) =>
R.need (Lay.lay (t17.2 : (List (Str × Str))) = true) <|
R.need (Lay.lay (([] : (List (Str × Str))) : (List (Str × Str))) = true) <|
if (!decide ((t17.2 : (List (Str × Str))) = ([] : (List (Str × Str))))) = true then (
(idxR t17.2 (0)).bind fun x22 =>
R.need (Lay.lay (v_law_rows : (List (Str × Str))) = true) <|
R.need (Lay.lay (x22 : (Str × Str)) = true) <|
R.need (x22 ∈ v_law_rows) <|
(m_Threads_take_out v_law_threads_here x3).bind fun r36 =>
R.ok ((true, r36, remP v_law_rows x22))) else (
(idxR v_law_draws_here (1)).bind fun x37 =>
(m_law_target v_law_pool_here x3 x37).bind fun r38 =>
R.need (v_law_rows.length < sizeLine) <|
(if (decide (r38 = ("" : Str))) = true then (
(idxR v_law_draws_here (1)).bind fun x43 =>
R.ok (decide (((x43 / 6) % 2) = 0))) else R.ok false).bind fun b42 =>
if b42 = true then (
(m_Threads_add v_law_threads_here x3 ("" : Str)).bind fun r47 =>
R.ok ((true, r47, v_law_rows ++ [(x3, r38)]))) else (
(m_Threads_add v_law_threads_here x3 r38).bind fun r50 =>
R.ok ((true, r50, v_law_rows ++ [(x3, r38)]))))
def m_law_looked (v_law_threads_here : Threads) (v_law_rows : (List (Str × Str))) (v_law_look : Int) (v_law_name : Str) (v_law_held : (List ((List Any) × Str))) : R (Bool × (List ((List Any) × Str))) :=
(if (decide (v_law_look = 0)) = true then (
(m_Threads_names v_law_threads_here).bind fun r6 =>
(R.ok (r6.map Any.str : (List Any))).bind fun y8 =>
R.need ((v_law_rows).length ≤ sizeLine) <|
(compR (fun (_ : Unit) (x11 : (Str × Str)) =>
R.ok ((), some (x11.1))) (v_law_rows) ()).bind fun (t21 : Unit × List Str) =>
R.need (t21.2.length < 64) <|
(R.ok ((sortT t21.2).map Any.str : (List Any))).bind fun y24 =>
R.ok (y8, y24)) else (
(if (decide (v_law_look = 1)) = true then (
(m_Threads_threads v_law_threads_here).bind fun r30 =>
(R.ok (r30.map lsA : (List Any))).bind fun y32 =>
(m_law_threads v_law_rows).bind fun r33 =>
(R.ok (r33.map lsA : (List Any))).bind fun y35 =>
R.ok (y32, y35)) else (
(m_Threads_thread v_law_threads_here v_law_name).bind fun r38 =>
(R.ok (r38.map Any.str : (List Any))).bind fun y40 =>
(m_law_thread v_law_rows v_law_name).bind fun r41 =>
(R.ok (r41.map Any.str : (List Any))).bind fun y43 =>
R.ok (y40, y43))).bind fun (s25 : (List Any) × (List Any)) =>
R.ok (s25.1, s25.2))).bind fun (s1 : (List Any) × (List Any)) =>
(m_law_is_list s1.1 s1.2).bind fun r44 =>
if (!r44) = true then (
R.ok ((false, v_law_held))) else (
(reprA s1.2).bind fun s46 =>
R.need (v_law_held.length < sizeLine) <|
R.ok ((true, v_law_held ++ [(s1.1, s46)])))
def m_law_stands (v_law_threads_here : Threads) (v_law_rows : (List (Str × Str))) (v_law_draw : Int) (v_law_held : (List ((List Any) × Str))) : R (Bool × (List ((List Any) × Str))) :=
R.need (-(2 ^ 62) ≤ (3 + ((if (decide ((v_law_draw % 3) = 1)) = true then 1 else 0) * 3) : Int) ∧ (3 + ((if (decide ((v_law_draw % 3) = 1)) = true then 1 else 0) * 3) : Int) < 2 ^ 62) <|
(forF (ρ := (Bool × (List ((List Any) × Str)))) (fun (s2 : (List ((List Any) × Str))) (x3 : Int) =>
(R.ok ((v_law_draw + x3) % 3 : Int)).bind fun y9 =>
(if (decide (y9 = 2)) = true then (
R.need (Lay.lay (v_law_rows : (List (Str × Str))) = true) <|
R.need (Lay.lay (([] : (List (Str × Str))) : (List (Str × Str))) = true) <|
R.ok (decide ((v_law_rows : (List (Str × Str))) = ([] : (List (Str × Str)))))) else R.ok false).bind fun b10 =>
if b10 = true then (
R.ok (.go (s2))) else (
R.need (Lay.lay (v_law_rows : (List (Str × Str))) = true) <|
R.need (Lay.lay (([] : (List (Str × Str))) : (List (Str × Str))) = true) <|
(if (!decide ((v_law_rows : (List (Str × Str))) = ([] : (List (Str × Str))))) = true then (
R.need (0 < (v_law_rows.length : Int)) <|
(idxR v_law_rows ((v_law_draw / 9) % (v_law_rows.length : Int))).bind fun x20 =>
R.ok (x20.1)) else (
R.ok (("" : Str)))).bind fun (s18 : Str) =>
(m_law_looked v_law_threads_here v_law_rows y9 s18 s2).bind fun r33 =>
if (!r33.1) = true then (
R.ok (.out ((false, r33.2)))) else (
R.ok (.go (r33.2))))) (rngL 0 (3 + ((if (decide ((v_law_draw % 3) = 1)) = true then 1 else 0) * 3) : Int).toNat) (v_law_held)).bind (contF (fun (s2 : (List ((List Any) × Str))) =>
(if (decide (((v_law_draw / 3) % 4) = 1)) = true then (
(bind2 (ixJ s2 (-1)) fun j36 x37 =>
R.need (x37.1.length < sizeLine) <|
(bind2 (ixJ (s2.set j36 (x37.1 ++ [(Any.str ("zz" : Str))], x37.2)) (-1)) fun j46 x47 =>
(reprA x47.1).bind fun s54 =>
R.ok ((s2.set j36 (x37.1 ++ [(Any.str ("zz" : Str))], x37.2) : (List ((List Any) × Str))).set j46 (x47.1, s54))))) else (
R.ok (s2))).bind fun (s35 : (List ((List Any) × Str))) =>
R.ok ((true, s35))) (fun o56 => .ok o56))
def m_law (v_law_script : Script) : R Bool :=
(m_law_draws v_law_script 60).bind fun r1 =>
(m_law_pool r1).bind fun r3 =>
(m_Threads___init__ ).bind fun r7 =>
(idxR r1 (2)).bind fun x10 =>
R.need (-(2 ^ 62) ≤ (1 + (x10 % 14)) ∧ (1 + (x10 % 14)) < 2 ^ 62) <|
(forF (ρ := Bool) (fun (s12 : Threads × (List (Str × Str)) × (List ((List Any) × Str))) (x13 : Int) =>
(m_law_done s12.1 s12.2.1 r3 (cutL r1 (some (4 + (3 * x13))) (some (6 + (3 * x13))))).bind fun r18 =>
if (!r18.1) = true then (
R.ok (.out (false))) else (
(idxR r1 (6 + (3 * x13))).bind fun x20 =>
(m_law_stands r18.2.1 r18.2.2 x20 s12.2.2).bind fun r21 =>
if (!r21.1) = true then (
R.ok (.out (false))) else (
R.ok (.go (r18.2.1, r18.2.2, r21.2))))) (rngL 0 (1 + (x10 % 14)).toNat) (r7, ([] : (List (Str × Str))), ([] : (List ((List Any) × Str))))).bind (contF (fun (s12 : Threads × (List (Str × Str)) × (List ((List Any) × Str))) =>
R.need ((s12.2.2).length ≤ sizeLine) <|
(compR (fun (_ : Unit) (x25 : ((List Any) × Str)) =>
(reprA x25.1).bind fun s36 =>
R.ok ((), some (decide (s36 = x25.2)))) (s12.2.2) ()).bind fun (t37 : Unit × List Bool) =>
R.ok (t37.2.all id)) (fun o38 => .ok o38))
end Lw
namespace Lw
open PySem L2 Ml
theorem alph_len : ("abcdefghijklmnopqrstuvwxyz0123456789" : Str).cps.toList.length = 36 := by decide +kernel
def wsg (c : Nat) : Bool := (97 ≤ c && c ≤ 122) || (48 ≤ c && c ≤ 57)
theorem wsg_lt {c : Nat} (h : wsg c = true) : c < 128 := by
  unfold wsg at h
  simp at h
  omega
theorem alph_wsg : ∀ c, c ∈ ("abcdefghijklmnopqrstuvwxyz0123456789" : Str).cps.toList → wsg c = true := by
  have : ("abcdefghijklmnopqrstuvwxyz0123456789" : Str).cps.toList.all wsg = true := by decide +kernel
  exact fun c hc => List.all_eq_true.mp this c hc
/-- word signs alone -/
def Wsg (x : Str) : Prop := ∀ c, c ∈ x.cps.toList → wsg c = true
theorem Wsg.asc {x : Str} (h : Wsg x) : Asc x := fun c hc => wsg_lt (h c hc)
theorem Wsg.app {a b : Str} (ha : Wsg a) (hb : Wsg b) : Wsg (a ++ b) := fun c hc => by
  rw [tl_app] at hc
  rcases List.mem_append.mp hc with h | h
  · exact ha c h
  · exact hb c h
theorem Wsg.sg {c : Nat} (h : wsg c = true) : Wsg (sg c) := fun d hd => by
  have : d = c := by simpa [Ml.sg] using hd
  rw [this]; exact h
theorem Wsg.lit {x : Str} (h : x.cps.toList.all wsg = true) : Wsg x := fun c hc => List.all_eq_true.mp h c hc
theorem num_wd {i : Int} (h0 : 0 ≤ i) (h1 : i < 1000000) : Wsg (Str.ofString (toString i)) ∧ (Str.ofString (toString i)).length ≤ 6 ∧ 1 ≤ (Str.ofString (toString i)).length := by
  obtain ⟨n, rfl⟩ : ∃ n : Nat, i = (n : Int) := ⟨i.toNat, by omega⟩
  have hd := TL.numL_digits n
  refine ⟨fun c hc => ?_, ?_, ?_⟩
  · rw [tl_num] at hc
    have h2 : 48 ≤ c ∧ c ≤ 57 := hd c hc
    unfold wsg
    simp; omega
  · rw [len_tl, tl_num]
    exact TL.numL_len (n := n) (k := 6) (by decide) (by omega)
  · rw [len_tl, tl_num]
    have := TL.numL_ne n
    cases e : TL.numL n with
    | nil => exact absurd e this
    | cons a l => simp
theorem pdA_str (s : Str) : pdA (.str s) = .str s := by rw [pdA]
theorem pdA_int (s : Int) : pdA (.int s) = .int s := by rw [pdA]
theorem plA_str (s : Str) : plA (.str s) = true := by rw [plA] <;> (intro _ h; cases h)
theorem plA_int (s : Int) : plA (.int s) = true := by rw [plA] <;> (intro _ h; cases h)
theorem asc_empty : Asc ("" : Str) := Asc.lit (by decide +kernel)
def isWord (s : Str) : Bool := (decide (1 ≤ s.length) && decide (s.length ≤ 20)) && s.cps.toList.all wsg
theorem isWord_iff {s : Str} : isWord s = true ↔ Wsg s ∧ 1 ≤ s.length ∧ s.length ≤ 20 := by
  unfold isWord
  simp only [Bool.and_eq_true, decide_eq_true_eq, List.all_eq_true]
  exact ⟨fun ⟨⟨a, b⟩, c⟩ => ⟨c, a, b⟩, fun ⟨c, a, b⟩ => ⟨⟨a, b⟩, c⟩⟩
section
variable {κ β : Type} [DecidableEq κ]
theorem dget_nil (k : κ) : dget ([] : List (κ × β)) k = none := rfl
theorem dget_cons (p : κ × β) (d : List (κ × β)) (k : κ) : dget (p :: d) k = if p.1 = k then some p.2 else dget d k := by
  unfold dget
  by_cases h : p.1 = k
  · rw [List.find?_cons_of_pos (by simpa using h), if_pos h]; rfl
  · rw [List.find?_cons_of_neg (by simpa using h), if_neg h]
theorem dget_none {d : List (κ × β)} {k : κ} : dget d k = none ↔ ¬ k ∈ d.map (·.1) := by
  induction d with
  | nil => simp [dget_nil]
  | cons p d ih =>
    rw [dget_cons, List.map_cons, List.mem_cons]
    by_cases h : p.1 = k
    · rw [if_pos h]; simp [h]
    · rw [if_neg h, ih]
      exact ⟨fun q z => z.elim (fun e => h e.symm) q, fun q z => q (.inr z)⟩
theorem dhas_iff {d : List (κ × β)} {k : κ} : dhas d k = true ↔ k ∈ d.map (·.1) := by
  unfold dhas
  cases c : dget d k with
  | none => simp [dget_none.mp c]
  | some y =>
    refine ⟨fun _ => Classical.byContradiction fun h => ?_, fun _ => rfl⟩
    rw [dget_none.mpr h] at c; cases c
theorem dhas_false {d : List (κ × β)} {k : κ} : dhas d k = false ↔ ¬ k ∈ d.map (·.1) := by
  rw [← dhas_iff]; simp
theorem dget_app (d e : List (κ × β)) (k : κ) : dget (d ++ e) k = (dget d k).or (dget e k) := by
  induction d with
  | nil => rfl
  | cons p d ih =>
    rw [List.cons_append, dget_cons, dget_cons, ih]
    by_cases h : p.1 = k
    · rw [if_pos h, if_pos h]; rfl
    · rw [if_neg h, if_neg h]
theorem dany_iff {d : List (κ × β)} {k : κ} : (d.any fun kv => decide (kv.1 = k)) = dhas d k := by
  rw [Bool.eq_iff_iff, dhas_iff, List.any_eq_true]
  simp only [decide_eq_true_eq, List.mem_map]
theorem dput_eq (d : List (κ × β)) (k : κ) (v : β) : dput d k v = if dhas d k = true then d.map (fun kv => if kv.1 = k then (kv.1, v) else kv) else d ++ [(k, v)] := by
  unfold dput
  rw [dany_iff]
theorem dget_put (d : List (κ × β)) (k k' : κ) (v : β) : dget (dput d k v) k' = if k = k' then some v else dget d k' := by
  rw [dput_eq]
  by_cases h : dhas d k = true
  · rw [if_pos h]
    have gen : ∀ e : List (κ × β), dget (e.map fun kv => if kv.1 = k then (kv.1, v) else kv) k' = if k = k' ∧ dhas e k = true then some v else dget e k' := by
      intro e
      induction e with
      | nil => simp [dget_nil, dhas]
      | cons p e ih =>
        rw [List.map_cons, dget_cons, dget_cons, ih]
        have hc : dhas (p :: e) k = (decide (p.1 = k) || dhas e k) := by
          unfold dhas; rw [dget_cons]
          by_cases q : p.1 = k <;> simp [q]
        rw [hc]
        by_cases q : p.1 = k
        · simp only [q, if_true, decide_true, Bool.true_or, and_true]
          by_cases z : k = k' <;> simp [z]
        · simp only [q, if_false, decide_false, Bool.false_or]
          by_cases z : p.1 = k'
          · have : ¬ k = k' := fun e => q (z.trans e.symm)
            simp [z, this]
          · simp [z]
    rw [gen]
    by_cases z : k = k'
    · subst z; rw [if_pos ⟨rfl, h⟩, if_pos rfl]
    · rw [if_neg fun q => z q.1, if_neg z]
  · rw [if_neg h, dget_app, dget_cons, dget_nil]
    by_cases z : k = k'
    · subst z
      have : dget d k = none := by
        cases c : dget d k with
        | none => rfl
        | some y => exact absurd (by unfold dhas; rw [c]; rfl) h
      rw [this, if_pos rfl]; rfl
    · rw [if_neg z, if_neg z, Option.or_none]
theorem dget_drop (d : List (κ × β)) (k k' : κ) : dget (ddrop d k) k' = if k = k' then none else dget d k' := by
  unfold ddrop
  induction d with
  | nil => simp [dget_nil]
  | cons p d ih =>
    by_cases h : p.1 = k
    · rw [List.filter_cons_of_neg (by simp [h]), ih, dget_cons]
      by_cases z : k = k'
      · simp [z]
      · rw [if_neg z, if_neg z, if_neg (fun e => z (h.symm.trans e))]
    · rw [List.filter_cons_of_pos (by simpa using h), dget_cons, ih, dget_cons]
      by_cases z : p.1 = k'
      · have : ¬ k = k' := fun e => h (z.trans e.symm)
        simp [z, this]
      · simp [z]
theorem keys_dput (d : List (κ × β)) (k : κ) (v : β) : (dput d k v).map (·.1) = if dhas d k = true then d.map (·.1) else d.map (·.1) ++ [k] := by
  rw [dput_eq]
  by_cases h : dhas d k = true
  · rw [if_pos h, if_pos h, List.map_map]
    refine List.map_congr_left fun p _ => ?_
    show (if p.1 = k then (p.1, v) else p).1 = p.1
    split <;> rfl
  · rw [if_neg h, if_neg h, List.map_append]; rfl
theorem keys_ddrop (d : List (κ × β)) (k : κ) : (ddrop d k).map (·.1) = (d.map (·.1)).filter fun x => decide (x ≠ k) := by
  unfold ddrop
  rw [List.filter_map]; rfl
theorem nodup_dput {d : List (κ × β)} (h : (d.map (·.1)).Nodup) (k : κ) (v : β) : ((dput d k v).map (·.1)).Nodup := by
  rw [keys_dput]
  by_cases c : dhas d k = true
  · rw [if_pos c]; exact h
  · rw [if_neg c, List.nodup_append]
    have c' : ¬ k ∈ d.map (·.1) := fun z => c (dhas_iff.mpr z)
    exact ⟨h, by simp, fun x hx y hy e => c' (by rw [List.mem_singleton] at hy; subst hy; subst e; exact hx)⟩
theorem nodup_ddrop {d : List (κ × β)} (h : (d.map (·.1)).Nodup) (k : κ) : ((ddrop d k).map (·.1)).Nodup := by
  rw [keys_ddrop]; exact h.filter _
theorem mem_kput {d : List (κ × β)} {k x : κ} {v : β} : x ∈ (dput d k v).map (·.1) ↔ x = k ∨ x ∈ d.map (·.1) := by
  rw [keys_dput]
  by_cases c : dhas d k = true
  · rw [if_pos c]
    exact ⟨.inr, fun h => h.elim (fun e => by rw [e]; exact dhas_iff.mp c) id⟩
  · rw [if_neg c, List.mem_append, List.mem_singleton]
    exact Or.comm
theorem len_dput (d : List (κ × β)) (k : κ) (v : β) : (dput d k v).length ≤ d.length + 1 := by
  rw [dput_eq]; split
  · rw [List.length_map]; omega
  · simp
theorem len_ddrop (d : List (κ × β)) (k : κ) : (ddrop d k).length ≤ d.length := List.length_filter_le ..
theorem dget_mem {d : List (κ × β)} {k : κ} {v : β} (h : dget d k = some v) : (k, v) ∈ d := by
  induction d with
  | nil => cases h
  | cons p d ih =>
    rw [dget_cons] at h
    by_cases c : p.1 = k
    · rw [if_pos c] at h; cases h; subst c; simp
    · rw [if_neg c] at h; exact List.mem_cons_of_mem _ (ih h)
theorem dget_of_mem {d : List (κ × β)} (n : (d.map (·.1)).Nodup) {k : κ} {v : β} (h : (k, v) ∈ d) : dget d k = some v := by
  induction d with
  | nil => cases h
  | cons p d ih =>
    rw [List.map_cons, List.nodup_cons] at n
    rw [dget_cons]
    rcases List.mem_cons.mp h with rfl | h
    · rw [if_pos rfl]
    · have : ¬ p.1 = k := fun e => n.1 (by rw [e]; exact List.mem_map.mpr ⟨(k, v), h, rfl⟩)
      rw [if_neg this]; exact ih n.2 h
theorem dgetR_ok {d : List (κ × β)} {k : κ} {v : β} (h : dget d k = some v) : dgetR d k = .ok v := by unfold dgetR; rw [h]
end
theorem nodup_lenG {α : Type} [DecidableEq α] : ∀ {xs ys : List α}, xs.Nodup → (∀ x, x ∈ xs → x ∈ ys) → xs.length ≤ ys.length
  | [], _, _, _ => Nat.zero_le _
  | x :: r, ys, d, m => by
    rw [List.nodup_cons] at d
    have hx : x ∈ ys := m x (by simp)
    have ih := nodup_lenG (xs := r) (ys := ys.erase x) d.2 fun y hy => (List.mem_erase_of_ne fun e => d.1 (by rw [← e]; exact hy)).mpr (m y (by simp [hy]))
    rw [List.length_erase_of_mem hx] at ih
    have : 0 < ys.length := List.length_pos_of_mem hx
    rw [List.length_cons]; omega
theorem rng_pre {n : Nat} {pre q : List Int} {x : Int} (e : rngL 0 n = pre ++ x :: q) : x = (pre.length : Int) ∧ pre.length < n := by
  have h1 : pre.length < (rngL 0 n).length := pre_lt e
  rw [rngL_len] at h1
  refine ⟨?_, h1⟩
  have h2 : (rngL 0 n)[pre.length]? = some x := by rw [e]; simp
  unfold rngL at h2
  rw [List.getElem?_map, List.getElem?_range h1] at h2
  simp at h2
  omega
theorem all_lay {n : Nat} : ∀ {xs : List Any}, (∀ x, x ∈ xs → plA x = true ∧ (pdA x).canLay0 = true ∧ (pdA x).depth ≤ n) → plAL xs = true ∧ PyData.canLayAll0 (pdAL xs) = true ∧ PyData.depthAll (pdAL xs) ≤ n
  | [], _ => by
    rw [plAL, pdAL]
    simp [PyData.canLayAll0, PyData.depthAll]
  | x :: r, h => by
    obtain ⟨a1, a2, a3⟩ := h x (by simp)
    obtain ⟨b1, b2, b3⟩ := all_lay (n := n) (xs := r) fun y hy => h y (List.mem_cons_of_mem _ hy)
    rw [plAL, pdAL]
    simp only [PyData.canLayAll0, PyData.depthAll, a1, a2, b1, b2]
    exact ⟨rfl, rfl, by omega⟩
theorem lst_lay {n : Nat} {xs : List Any} (h : ∀ x, x ∈ xs → plA x = true ∧ (pdA x).canLay0 = true ∧ (pdA x).depth ≤ n) : plA (.lst xs) = true ∧ (pdA (.lst xs)).canLay0 = true ∧ (pdA (.lst xs)).depth ≤ n + 1 := by
  obtain ⟨h1, h2, h3⟩ := all_lay h
  rw [plA, pdA]
  simp only [PyData.canLay0, PyData.depth]
  exact ⟨h1, h2, by omega⟩
theorem eqA_self {x : Any} (h1 : plA x = true) (h2 : (pdA x).canLay0 = true) (h3 : (pdA x).depth ≤ 60) : eqA x x = .ok true := by
  have s : SeqAt.shaped (pdA x) = true := by
    unfold SeqAt.shaped
    rw [h2, decide_eq_true (show (pdA x).depth ≤ 64 by omega)]; rfl
  unfold eqA
  rw [R.need_pos ⟨h1, h1, s, s⟩, SeqAt.eqv_refl _ h2]
theorem dhas_get {κ β : Type} [DecidableEq κ] {d : List (κ × β)} {k : κ} (h : dhas d k = true) : ∃ v, dget d k = some v := by
  unfold dhas at h
  exact Option.isSome_iff_exists.mp h
theorem asc_pl {w : Str} (h : Asc w) : plA (Any.str w) = true ∧ (pdA (Any.str w)).canLay0 = true ∧ (pdA (Any.str w)).depth ≤ 1 := ⟨plA_str w, by rw [pdA_str]; exact h.lay, by rw [pdA_str]; exact Nat.zero_le _⟩
theorem strs_lay {l : List Str} (h : ∀ x, x ∈ l → Asc x) : (Lay.lay l : Bool) = true := List.all_eq_true.mpr fun x hx => (h x hx).lay
theorem lsts_lay {l : List Str} (h : ∀ x, x ∈ l → Asc x) : plA (.lst (l.map Any.str)) = true ∧ (pdA (.lst (l.map Any.str))).canLay0 = true ∧ (pdA (.lst (l.map Any.str))).depth ≤ 2 :=
  lst_lay (n := 1) fun x hx => by
    obtain ⟨w, hw, rfl⟩ := List.mem_map.mp hx
    exact asc_pl (h w hw)
theorem draws_ok (s : Script) {n : Int} (hn : 0 ≤ n ∧ n ≤ 400) : Ok (m_law_draws s n) fun r => (r.length : Int) = n ∧ ∀ x, x ∈ r → 0 ≤ x ∧ x < 2147483629 := by
  unfold m_law_draws
  refine .need (by omega) ?_
  refine .forI (fun pre (s : List Int × Int) => s.1.length = pre.length ∧ (∀ x, x ∈ s.1 → 0 ≤ x ∧ x < 2147483629)) ⟨rfl, by simp⟩ ?_ ?_
  · rintro p x q ⟨l, m⟩ ep ⟨hl, hx⟩
    have hp := pre_lt ep
    rw [rngL_len] at hp
    refine .bind (Q := fun _ => True) (.ite (fun c => ?_) fun _ => .ret trivial) fun c _ => .lets ?_
    · have c := of_decide_eq_true c
      exact .need c (.idx (Int.emod_nonneg _ (by omega)) (Int.emod_lt_of_pos _ c) fun _ _ _ => .ret trivial)
    dsimp only
    have hy0 : 0 ≤ (((m * 48271 + c) + x) + 1) % 2147483647 := Int.emod_nonneg _ (by decide)
    have hy1 : (((m * 48271 + c) + x) + 1) % 2147483647 < 2147483647 := Int.emod_lt_of_pos _ (by decide)
    generalize (((m * 48271 + c) + x) + 1) % 2147483647 = y at *
    have hl' : l.length = p.length := hl
    refine .need (show mulOk y y from .inl ⟨by omega, by omega⟩) (.need (lt_line (m := 1000) (by omega) (by decide)) (.ret ⟨by simp [hl'], fun z hz => ?_⟩))
    rcases List.mem_append.mp hz with h | h
    · exact hx z h
    · rw [List.mem_singleton.mp h]
      exact ⟨Int.emod_nonneg _ (by decide), Int.emod_lt_of_pos _ (by decide)⟩
  · rintro ⟨l, m⟩ ⟨hl, hx⟩
    exact .ret ⟨by rw [hl, rngL_len]; omega, hx⟩
/-- the sign of a number -/
def sgn (i : Int) : Nat := (("abcdefghijklmnopqrstuvwxyz0123456789" : Str).cps.toList).getD (i % 36).toNat 0
theorem sgn_at {ρ : Type} {P : ρ → Prop} {i : Int} {f : Nat → R ρ} (k : wsg (sgn i) = true → Ok (f (sgn i)) P) : Ok ((idxR ("abcdefghijklmnopqrstuvwxyz0123456789" : Str).cps.toList (i % 36)).bind f) P :=
  .idx (Int.emod_nonneg _ (by decide)) (by rw [alph_len]; exact Int.emod_lt_of_pos _ (by decide)) fun c m e => by
    have : sgn i = c := by unfold sgn; rw [List.getD_eq_getElem?_getD, e]; rfl
    rw [this] at k
    exact k (alph_wsg c m)
theorem sgn_inj {i : Int} {c : Nat} {n : Int} (h : sgn i = c) (hn : (List.range 36).all (fun j => decide ((("abcdefghijklmnopqrstuvwxyz0123456789" : Str).cps.toList).getD j 0 = c → (j : Int) = n)) = true) : i % 36 = n := by
  have h0 : 0 ≤ i % 36 := Int.emod_nonneg _ (by decide)
  have h1 : i % 36 < 36 := Int.emod_lt_of_pos _ (by decide)
  have := of_decide_eq_true (List.all_eq_true.mp hn (i % 36).toNat (List.mem_range.mpr (by omega))) h
  omega
/-- a name of the laws of threads -/
structure Nm (z : Str) : Prop where
  w : isWord z = true
  no : z ≠ ("zother" : Str)
  nf : z ≠ ("zfresh" : Str)
theorem Nm.asc {z : Str} (h : Nm z) : Asc z := Wsg.asc (isWord_iff.mp h.w).1
theorem Nm.len {z : Str} (h : Nm z) : 1 ≤ z.length ∧ z.length ≤ 20 := (isWord_iff.mp h.w).2
theorem Nm.ne {z : Str} (h : Nm z) : z ≠ ("" : Str) := fun e => by
  have := h.len
  rw [e] at this
  have e0 : ("" : Str).length = 0 := by decide
  omega
theorem zo_tl : ("zother" : Str).cps.toList = [122, 111, 116, 104, 101, 114] := by decide +kernel
theorem zf_tl : ("zfresh" : Str).cps.toList = [122, 102, 114, 101, 115, 104] := by decide +kernel
theorem rep_tl1 (c : Nat) (n : Nat) : (repS (sg c) n).cps.toList = List.replicate n c := by
  rw [rep_tl, show (sg c).cps.toList = [c] from rfl]
  induction n with
  | zero => rfl
  | succ m ih => rw [List.replicate_succ, List.flatten_cons, ih]; rfl
theorem nameBy_ok {b k : Int} (hb : 0 ≤ b ∧ b < 2147483647) (hk : 0 ≤ k ∧ k < 64) : Ok (m_law_name_by b k) Nm := by
  unfold m_law_name_by
  refine .ite (fun _ => ?_) fun _ => ?_
  · refine sgn_at fun hc => ?_
    have h0 : 0 ≤ k % 20 := Int.emod_nonneg _ (by decide)
    have h1 : k % 20 < 20 := Int.emod_lt_of_pos _ (by decide)
    generalize k % 20 = m at *
    have hl : (repS (sg (sgn (b / 4 + k / 20))) (1 + m : Int).toNat).cps.toList = List.replicate (1 + m : Int).toNat (sgn (b / 4 + k / 20)) := rep_tl1 _ _
    generalize repS (sg (sgn (b / 4 + k / 20))) (1 + m : Int).toNat = z at *
    generalize sgn (b / 4 + k / 20) = c at *
    have hz : z.length = (1 + m : Int).toNat := by rw [len_tl, hl, List.length_replicate]
    refine .need ⟨?_, by omega, by omega⟩ (.ret ⟨isWord_iff.mpr ⟨fun d hd => ?_, by omega, by omega⟩, fun e => ?_, fun e => ?_⟩)
    · have : (sg c).length = 1 := len_sg c
      rw [this]; exact le_line (by omega)
    · rw [hl] at hd; rw [(List.mem_replicate.mp hd).2]; exact hc
    · rw [e, zo_tl] at hl
      have h1 : (122 : Nat) = c := (List.mem_replicate.mp (show (122 : Nat) ∈ List.replicate (1 + m : Int).toNat c by rw [← hl]; simp)).2
      have h2 : (111 : Nat) = c := (List.mem_replicate.mp (show (111 : Nat) ∈ List.replicate (1 + m : Int).toNat c by rw [← hl]; simp)).2
      omega
    · rw [e, zf_tl] at hl
      have h1 : (122 : Nat) = c := (List.mem_replicate.mp (show (122 : Nat) ∈ List.replicate (1 + m : Int).toNat c by rw [← hl]; simp)).2
      have h2 : (102 : Nat) = c := (List.mem_replicate.mp (show (102 : Nat) ∈ List.replicate (1 + m : Int).toNat c by rw [← hl]; simp)).2
      omega
  · refine .lets ?_
    have h0 : 0 ≤ b / 4 % 18 := Int.emod_nonneg _ (by decide)
    have h1 : b / 4 % 18 < 18 := Int.emod_lt_of_pos _ (by decide)
    generalize b / 4 % 18 = pl at *
    refine .need (by omega) ?_
    have g0 : 0 ≤ b / 72 % (19 - pl) := Int.emod_nonneg _ (by omega)
    have g1 : b / 72 % (19 - pl) < 19 - pl := Int.emod_lt_of_pos _ (by omega)
    generalize b / 72 % (19 - pl) = q at *
    have d0 : 0 ≤ b % 7 := Int.emod_nonneg _ (by decide)
    have d1 : b % 7 < 7 := Int.emod_lt_of_pos _ (by decide)
    generalize b % 7 = d at *
    refine .need (by omega) ?_
    refine .forI (fun pre (s : Str) => Wsg s ∧ s.cps.toList.length = pre.length ∧ ∀ t : Nat, t < pre.length → (t : Int) ≠ pl → (t : Int) ≠ pl + 1 → s.cps.toList[t]? = some (sgn (b / 3 + (t : Int) * (1 + d)))) ⟨Wsg.lit (by decide +kernel), rfl, fun t ht => absurd ht (by simp)⟩ ?_ ?_
    · rintro p x r s ep ⟨hs, hl, ht⟩
      have hp := pre_lt ep
      rw [rngL_len] at hp
      have hx : x = (p.length : Int) := by exact (rng_pre ep).1
      have hl2 : s.length = p.length := by rw [len_tl, hl]
      have app1 : ∀ {c : Nat}, wsg c = true → ((p.length : Int) ≠ pl → (p.length : Int) ≠ pl + 1 → c = sgn (b / 3 + (p.length : Int) * (1 + d))) → Ok (R.need ((s).length + (sg (c)).length ≤ sizeLine) <| (R.ok (s ++ (sg (c)) : Str)).bind fun y19 => R.ok (y19)) (fun s : Str => Wsg s ∧ s.cps.toList.length = (p ++ [x]).length ∧ ∀ t : Nat, t < (p ++ [x]).length → (t : Int) ≠ pl → (t : Int) ≠ pl + 1 → s.cps.toList[t]? = some (sgn (b / 3 + (t : Int) * (1 + d)))) := fun {c} hc hcc =>
        .need (le_line (by rw [len_sg]; omega)) (.lets (.ret ⟨hs.app (Wsg.sg hc), by rw [tl_app, List.length_append, hl, List.length_append]; rfl, fun t h1 h2 h3 => by
          rw [tl_app]
          rw [List.length_append] at h1
          by_cases e : t < p.length
          · rw [List.getElem?_append_left (by omega)]; exact ht t e h2 h3
          · have e : t = p.length := by have : [x].length = 1 := rfl; omega
            subst e
            rw [List.getElem?_append_right (by omega), hl, Nat.sub_self, ← hcc h2 h3]; rfl⟩))
      refine .bind (Q := fun s : Str => Wsg s ∧ s.cps.toList.length = (p ++ [x]).length ∧ ∀ t : Nat, t < (p ++ [x]).length → (t : Int) ≠ pl → (t : Int) ≠ pl + 1 → s.cps.toList[t]? = some (sgn (b / 3 + (t : Int) * (1 + d)))) (.ite (fun c => ?_) fun c1 => ?_) fun s hs => .ret hs
      · exact sgn_at fun hc => app1 hc fun h => absurd (by rw [← hx]; exact of_decide_eq_true c) h
      · refine .bind (Q := fun s : Str => Wsg s ∧ s.cps.toList.length = (p ++ [x]).length ∧ ∀ t : Nat, t < (p ++ [x]).length → (t : Int) ≠ pl → (t : Int) ≠ pl + 1 → s.cps.toList[t]? = some (sgn (b / 3 + (t : Int) * (1 + d)))) (.ite (fun c => ?_) fun c2 => ?_) fun s hs => .ret hs
        · exact sgn_at fun hc => app1 hc fun _ h => absurd (by rw [← hx]; exact of_decide_eq_true c) h
        · refine .need (show mulOk x (1 + d) from .inl ⟨by omega, by omega⟩) (sgn_at fun hc => app1 hc fun _ _ => by rw [hx])
    · rintro s ⟨hs, hl, ht⟩
      rw [rngL_len] at hl ht
      have hsl : s.length = (pl + 2 + q).toNat := by rw [len_tl, hl]
      refine .ret ⟨isWord_iff.mpr ⟨hs, by omega, by omega⟩, fun e => ?_, fun e => ?_⟩
      · rw [e, zo_tl] at hl ht
        have hl : 6 = (pl + 2 + q).toNat := hl
        by_cases c : pl ≤ 1
        · have a3 := ht 3 (by omega) (by omega) (by omega)
          have a4 := ht 4 (by omega) (by omega) (by omega)
          have b3 := sgn_inj (n := 7) (Option.some.inj a3).symm (by decide +kernel)
          have b4 := sgn_inj (n := 4) (Option.some.inj a4).symm (by decide +kernel)
          omega
        · have a3 := ht 0 (by omega) (by omega) (by omega)
          have a4 := ht 1 (by omega) (by omega) (by omega)
          have b3 := sgn_inj (n := 25) (Option.some.inj a3).symm (by decide +kernel)
          have b4 := sgn_inj (n := 14) (Option.some.inj a4).symm (by decide +kernel)
          omega
      · rw [e, zf_tl] at hl ht
        have hl : 6 = (pl + 2 + q).toNat := hl
        by_cases c : pl ≤ 1
        · have a3 := ht 3 (by omega) (by omega) (by omega)
          have a4 := ht 4 (by omega) (by omega) (by omega)
          have b3 := sgn_inj (n := 4) (Option.some.inj a3).symm (by decide +kernel)
          have b4 := sgn_inj (n := 18) (Option.some.inj a4).symm (by decide +kernel)
          omega
        · have a3 := ht 0 (by omega) (by omega) (by omega)
          have a4 := ht 1 (by omega) (by omega) (by omega)
          have b3 := sgn_inj (n := 25) (Option.some.inj a3).symm (by decide +kernel)
          have b4 := sgn_inj (n := 5) (Option.some.inj a4).symm (by decide +kernel)
          omega
theorem dput_new {κ β : Type} [DecidableEq κ] {d : List (κ × β)} {k : κ} {v : β} (h : dhas d k = false) : dput d k v = d ++ [(k, v)] := by
  rw [dput_eq, if_neg (by rw [h]; decide)]
theorem has_of {κ β : Type} [DecidableEq κ] {d : List (κ × β)} {k : κ} {v : β} (h : dget d k = some v) : dhas d k = true := by unfold dhas; rw [h]; rfl
theorem no_of {κ β : Type} [DecidableEq κ] {d : List (κ × β)} {k : κ} (h : dhas d k = false) : dget d k = none := by
  unfold dhas at h
  cases c : dget d k with
  | none => rfl
  | some y => rw [c] at h; cases h
theorem dget_last {κ β : Type} [DecidableEq κ] {d : List (κ × β)} {k : κ} {v : β} (h : dhas d k = false) : dget (d ++ [(k, v)]) k = some v := by
  rw [dget_app, no_of h, dget_cons, if_pos rfl]; rfl
theorem setE_get {κ β : Type} [DecidableEq κ] (d : List (κ × β)) (k v : κ) (z y : β) : dget (dput (setE d k z) k y) v = if k = v then some y else dget d v := by
  rw [dget_put]
  by_cases c : k = v
  · rw [if_pos c, if_pos c]
  · rw [if_neg c, if_neg c]
    unfold setE
    split
    · rfl
    · rw [dget_app, dget_cons, if_neg c, dget_nil, Option.or_none]
theorem setE_nodup {κ β : Type} [DecidableEq κ] {d : List (κ × β)} (h : (d.map (·.1)).Nodup) (k : κ) (z : β) : ((setE d k z).map (·.1)).Nodup := by
  unfold setE
  by_cases c : dhas d k = true
  · rw [if_pos c]; exact h
  · rw [if_neg c]
    have := nodup_dput h k z
    rw [dput_eq, if_neg c] at this
    exact this
abbrev Rw := List (Str × Str)
def Edg (D : Rw) (a b : Str) : Prop := ∃ r, r ∈ D ∧ r.2 ≠ ("" : Str) ∧ ((a = r.1 ∧ b = r.2) ∨ (a = r.2 ∧ b = r.1))
inductive Conn (D : Rw) : Str → Str → Prop
  | refl (n : Str) : Conn D n n
  | step {n a b : Str} : Conn D n a → Edg D a b → Conn D n b
theorem Edg.symm {D : Rw} {a b : Str} (h : Edg D a b) : Edg D b a := by
  obtain ⟨r, h1, h2, h3⟩ := h
  exact ⟨r, h1, h2, h3.elim (fun ⟨x, y⟩ => .inr ⟨y, x⟩) fun ⟨x, y⟩ => .inl ⟨y, x⟩⟩
theorem Edg.mono {D E : Rw} (s : ∀ r, r ∈ D → r ∈ E) {a b : Str} (h : Edg D a b) : Edg E a b := by
  obtain ⟨r, h1, h2, h3⟩ := h
  exact ⟨r, s r h1, h2, h3⟩
theorem Conn.trans {D : Rw} {a b c : Str} (h : Conn D a b) (k : Conn D b c) : Conn D a c := by
  induction k with
  | refl => exact h
  | step _ e ih => exact .step ih e
theorem Conn.symm {D : Rw} {a b : Str} (h : Conn D a b) : Conn D b a := by
  induction h with
  | refl => exact .refl _
  | step _ e ih => exact Conn.trans (.step (.refl _) e.symm) ih
theorem Conn.mono {D E : Rw} (s : ∀ r, r ∈ D → r ∈ E) {a b : Str} (h : Conn D a b) : Conn E a b := by
  induction h with
  | refl => exact .refl _
  | step _ e ih => exact .step ih (e.mono s)
/-- the piles say just what the answers of D join; X: names that are laid ahead -/
structure PW (D : Rw) (X : List Str) (T : Threads) : Prop where
  kn : (T.pile_of.map (·.1)).Nodup
  pn : (T.piles.map (·.1)).Nodup
  p2 : ∀ n i, dget T.pile_of n = some i → ∃ l, dget T.piles i = some l ∧ n ∈ l
  p3 : ∀ i l, dget T.piles i = some l → l.Nodup ∧ (∀ n, n ∈ l → dget T.pile_of n = some i) ∧ l ≠ [] ∧ i ≤ T.made
  s1 : ∀ r, r ∈ D → ∃ i, dget T.pile_of r.1 = some i ∧ (r.2 ≠ ("" : Str) → dget T.pile_of r.2 = some i)
  s2 : ∀ n m i, dget T.pile_of n = some i → dget T.pile_of m = some i → Conn D n m
  s3 : ∀ n i, dget T.pile_of n = some i → n ∈ X ∨ ∃ r, r ∈ D ∧ (n = r.1 ∨ (n = r.2 ∧ n ≠ ("" : Str)))
theorem PW.congr {D E : Rw} {X : List Str} {T : Threads} (h : PW D X T) (e : ∀ r, r ∈ D ↔ r ∈ E) : PW E X T :=
  ⟨h.kn, h.pn, h.p2, h.p3, fun r hr => h.s1 r ((e r).mpr hr), fun n m i a b => (h.s2 n m i a b).mono fun r hr => (e r).mp hr, fun n i a => (h.s3 n i a).imp id fun ⟨r, hr, q⟩ => ⟨r, (e r).mp hr, q⟩⟩
/-- how many names lie in piles -/
theorem PW.len {D : Rw} {X : List Str} {T : Threads} (h : PW D X T) : T.pile_of.length ≤ X.length + 2 * D.length := by
  have : (T.pile_of.map (·.1)).length ≤ (X ++ (D.map (·.1) ++ D.map (·.2))).length := nodup_lenG h.kn fun n hn => by
    obtain ⟨i, hi⟩ := dhas_get (dhas_iff.mpr hn)
    rcases h.s3 n i hi with q | ⟨r, hr, q | ⟨q, _⟩⟩
    · simp [q]
    · exact List.mem_append.mpr (.inr (List.mem_append.mpr (.inl (List.mem_map.mpr ⟨r, hr, q.symm⟩))))
    · exact List.mem_append.mpr (.inr (List.mem_append.mpr (.inr (List.mem_map.mpr ⟨r, hr, q.symm⟩))))
  simp only [List.length_map, List.length_append] at this
  omega
theorem PW.plen {D : Rw} {X : List Str} {T : Threads} (h : PW D X T) {i : Int} {l : List Str} (g : dget T.piles i = some l) : l.length ≤ X.length + 2 * D.length := by
  obtain ⟨a, b, _, _⟩ := h.p3 i l g
  have : l.length ≤ (T.pile_of.map (·.1)).length := nodup_lenG a fun n hn => dhas_iff.mp (has_of (b n hn))
  have := h.len
  rw [List.length_map] at *
  omega
theorem PW.many {D : Rw} {X : List Str} {T : Threads} (h : PW D X T) : T.piles.length ≤ X.length + 2 * D.length := by
  have : (T.piles.map (·.1)).length ≤ (T.pile_of.map (·.2)).length := nodup_lenG h.pn fun i hi => by
    obtain ⟨l, hl⟩ := dhas_get (dhas_iff.mpr hi)
    obtain ⟨_, b, c, _⟩ := h.p3 i l hl
    cases l with
    | nil => exact absurd rfl c
    | cons n r => exact List.mem_map.mpr ⟨(n, i), dget_mem (b n (by simp)), rfl⟩
  have := h.len
  rw [List.length_map, List.length_map] at *
  omega
theorem line9 {n : Nat} (h : n ≤ 900) : n < sizeLine := lt_line (m := 900) h (by decide)
theorem pile_ok {D : Rw} {X : List Str} {T : Threads} (h : PW D X T) (lim : X.length + 2 * D.length ≤ 800) (n : Str) : Ok (m_Threads_pile T n) fun r => r.2.goes_to = T.goes_to ∧ r.2.comes_from = T.comes_from ∧ PW D (n :: X) r.2 ∧ dget r.2.pile_of n = some r.1 ∧ ∀ m k, dget T.pile_of m = some k → dget r.2.pile_of m = some k := by
  have l1 := h.len
  have l2 := h.many
  unfold m_Threads_pile
  cases c : dhas T.pile_of n with
  | true =>
    obtain ⟨i, hi⟩ := dhas_get c
    refine .bindE (a := (T.pile_of, T.piles, T.made)) rfl (.bindE (dgetR_ok hi) (.ret ⟨rfl, rfl, ?_, hi, fun _ _ z => z⟩))
    exact ⟨h.kn, h.pn, h.p2, h.p3, h.s1, h.s2, fun m j a => (h.s3 m j a).imp (fun q => List.mem_cons_of_mem _ q) id⟩
  | false =>
    have q : dhas T.piles (T.made + 1) = false := by
      rw [dhas_false]
      intro z
      obtain ⟨l, hl⟩ := dhas_get (dhas_iff.mpr z)
      have := (h.p3 _ l hl).2.2.2
      omega
    refine .bindE (a := (T.pile_of ++ [(n, T.made + 1)], T.piles ++ [(T.made + 1, [n])], T.made + 1)) ?_ ?_
    · rw [if_pos (show (!false) = true from rfl), R.need_pos (line9 (by omega)), R.need_pos (line9 (by omega)), R.need_pos q, dput_new c]
    have g : ∀ m, dget (T.pile_of ++ [(n, T.made + 1)]) m = if n = m then some (T.made + 1) else dget T.pile_of m := fun m => by
      rw [← dput_new c, dget_put]
    have g2 : ∀ j, dget (T.piles ++ [(T.made + 1, [n])]) j = if T.made + 1 = j then some [n] else dget T.piles j := fun j => by
      rw [← dput_new q, dget_put]
    refine .bindE (dgetR_ok (v := T.made + 1) (by rw [g, if_pos rfl])) (.ret ⟨rfl, rfl, ?_, by show dget (T.pile_of ++ [(n, T.made + 1)]) n = _; rw [g, if_pos rfl], fun m k z => by
      show dget (T.pile_of ++ [(n, T.made + 1)]) m = _
      rw [g, if_neg (fun e => by rw [← e, no_of c] at z; cases z)]; exact z⟩)
    have old : ∀ m i, dget T.pile_of m = some i → m ≠ n ∧ i ≠ T.made + 1 := fun m i a => by
      refine ⟨fun e => ?_, fun e => ?_⟩
      · rw [e, no_of c] at a; cases a
      · obtain ⟨l, hl, _⟩ := h.p2 m i a
        have := (h.p3 i l hl).2.2.2
        omega
    refine ⟨?_, ?_, fun m i a => ?_, fun i l a => ?_, fun r hr => ?_, fun m k i a b => ?_, fun m i a => ?_⟩
    · show ((T.pile_of ++ [(n, T.made + 1)]).map (·.1)).Nodup
      rw [← dput_new c]; exact nodup_dput h.kn _ _
    · show ((T.piles ++ [(T.made + 1, [n])]).map (·.1)).Nodup
      rw [← dput_new q]; exact nodup_dput h.pn _ _
    · have a : dget (T.pile_of ++ [(n, T.made + 1)]) m = some i := a
      rw [g] at a
      by_cases e : n = m
      · rw [if_pos e] at a
        cases a
        exact ⟨[n], by show dget (T.piles ++ [(T.made + 1, [n])]) _ = _; rw [g2, if_pos rfl], by rw [e]; simp⟩
      · rw [if_neg e] at a
        obtain ⟨l, hl, hm⟩ := h.p2 m i a
        refine ⟨l, ?_, hm⟩
        show dget (T.piles ++ [(T.made + 1, [n])]) _ = _
        rw [g2, if_neg (fun e => (old m i a).2 e.symm)]; exact hl
    · have a : dget (T.piles ++ [(T.made + 1, [n])]) i = some l := a
      rw [g2] at a
      by_cases e : T.made + 1 = i
      · rw [if_pos e] at a
        cases a
        refine ⟨by simp, fun m hm => ?_, by simp, by show i ≤ T.made + 1; omega⟩
        show dget (T.pile_of ++ [(n, T.made + 1)]) m = _
        rw [g, if_pos (List.mem_singleton.mp hm).symm, e]
      · rw [if_neg e] at a
        obtain ⟨b1, b2, b3, b4⟩ := h.p3 i l a
        refine ⟨b1, fun m hm => ?_, b3, by show i ≤ T.made + 1; omega⟩
        show dget (T.pile_of ++ [(n, T.made + 1)]) m = _
        rw [g, if_neg (fun e => (old m i (b2 m hm)).1 e.symm)]; exact b2 m hm
    · obtain ⟨i, a, b⟩ := h.s1 r hr
      refine ⟨i, ?_, fun z => ?_⟩
      · show dget (T.pile_of ++ [(n, T.made + 1)]) r.1 = _
        rw [g, if_neg (fun e => (old _ i a).1 e.symm)]; exact a
      · show dget (T.pile_of ++ [(n, T.made + 1)]) r.2 = _
        rw [g, if_neg (fun e => (old _ i (b z)).1 e.symm)]; exact b z
    · have a : dget (T.pile_of ++ [(n, T.made + 1)]) m = some i := a
      have b : dget (T.pile_of ++ [(n, T.made + 1)]) k = some i := b
      rw [g] at a b
      by_cases e : n = m
      · rw [if_pos e] at a
        cases a
        by_cases e2 : n = k
        · rw [← e, ← e2]; exact .refl _
        · rw [if_neg e2] at b
          exact absurd rfl (old k _ b).2
      · rw [if_neg e] at a
        by_cases e2 : n = k
        · rw [if_pos e2] at b
          cases b
          exact absurd rfl (old m _ a).2
        · rw [if_neg e2] at b
          exact h.s2 m k i a b
    · have a : dget (T.pile_of ++ [(n, T.made + 1)]) m = some i := a
      rw [g] at a
      by_cases e : n = m
      · exact .inl (by rw [e]; simp)
      · rw [if_neg e] at a
        exact (h.s3 m i a).imp (fun q => List.mem_cons_of_mem _ q) id
/-- a fold of puts -/
theorem puts_ok {one : Int} : ∀ (l : List Str) (P : List (Str × Int)), P.length + l.length ≤ 900 → Ok (forR (fun (s : List (Str × Int)) (x : Str) => R.need (s.length < sizeLine) <| R.ok (dput s x one)) l P) fun P' => (∀ m, dget P' m = if m ∈ l then some one else dget P m) ∧ ((P.map (·.1)).Nodup → (P'.map (·.1)).Nodup)
  | [], P, _ => .ret ⟨fun m => by simp, id⟩
  | x :: l, P, hl => by
    rw [List.length_cons] at hl
    have := len_dput P x one
    obtain ⟨P', e, h1, h2⟩ := puts_ok (one := one) l (dput P x one) (by omega)
    refine ⟨P', ?_, fun m => ?_, fun nd => h2 (nodup_dput nd _ _)⟩
    · show (R.need _ _).bind _ = _
      rw [R.need_pos (line9 (by omega)), R.bind_ok]; exact e
    · rw [h1, dget_put]
      by_cases c : m ∈ l
      · rw [if_pos c, if_pos (by simp [c])]
      · rw [if_neg c]
        by_cases d : x = m
        · rw [if_pos d, if_pos (by simp [d])]
        · rw [if_neg d, if_neg (by simp [c]; exact fun e => d e.symm)]
theorem merge_ok {D : Rw} {X : List Str} {T : Threads} (h : PW D X T) (lim : X.length + 2 * D.length ≤ 400) {i j : Int} {li lj : List Str} (hi : dget T.piles i = some li) (hj : dget T.piles j = some lj) (ij : i ≠ j) :
    Ok ((forR (fun (s : List (Str × Int)) (x : Str) => R.need (s.length < sizeLine) <| R.ok (dput s x i)) lj T.pile_of).bind fun (s26 : List (Str × Int)) => (dgetR (ddrop T.piles j) i).bind fun y31 => R.need ((ddrop T.piles j).length < sizeLine) <| R.need (y31.length + lj.length ≤ sizeLine) <| R.ok ((⟨T.goes_to, s26, dput (ddrop T.piles j) i (y31 ++ lj), T.comes_from, T.made⟩ : Threads)))
      fun T' => T'.goes_to = T.goes_to ∧ T'.comes_from = T.comes_from ∧ ∀ n a, (dget T.pile_of n = some i ∧ dget T.pile_of a = some j ∨ dget T.pile_of n = some j ∧ dget T.pile_of a = some i) → a ≠ ("" : Str) → PW ((n, a) :: D) X T' := by
  have l1 := h.len
  have l2 := h.many
  have l3 := h.plen hi
  have l4 := h.plen hj
  obtain ⟨i1, i2, i3, i4⟩ := h.p3 i li hi
  obtain ⟨j1, j2, j3, j4⟩ := h.p3 j lj hj
  refine .bind (puts_ok lj T.pile_of (by omega)) fun P' ⟨g, nd⟩ => ?_
  have gi : dget (ddrop T.piles j) i = some li := by rw [dget_drop, if_neg (fun e => ij e.symm)]; exact hi
  have ld := len_ddrop T.piles j
  refine .bindE (dgetR_ok gi) (.need (line9 (by omega)) (.need (le_line (by omega)) (.ret ⟨rfl, rfl, fun n a hna ne => ?_⟩)))
  have g' : ∀ m, dget P' m = if dget T.pile_of m = some j then some i else dget T.pile_of m := fun m => by
    rw [g]
    by_cases c : m ∈ lj
    · rw [if_pos c, if_pos (j2 m c)]
    · rw [if_neg c]
      by_cases d : dget T.pile_of m = some j
      · obtain ⟨l, hl, hm⟩ := h.p2 m j d
        rw [hj] at hl; cases hl
        exact absurd hm c
      · rw [if_neg d]
  have g2 : ∀ k, dget (dput (ddrop T.piles j) i (li ++ lj)) k = if i = k then some (li ++ lj) else if j = k then none else dget T.piles k := fun k => by
    rw [dget_put, dget_drop]
  have up : ∀ m k, dget T.pile_of m = some k → dget P' m = some (if k = j then i else k) := fun m k q => by
    rw [g']
    by_cases c : k = j
    · rw [if_pos (by rw [q, c]), if_pos c]
    · rw [if_neg (fun e => c (by rw [q] at e; exact Option.some.inj e)), if_neg c, q]
  have dn : ∀ m k, dget P' m = some k → (dget T.pile_of m = some j ∧ k = i) ∨ (dget T.pile_of m = some k ∧ k ≠ j) := fun m k q => by
    rw [g'] at q
    by_cases c : dget T.pile_of m = some j
    · rw [if_pos c] at q; cases q; exact .inl ⟨c, rfl⟩
    · rw [if_neg c] at q
      exact .inr ⟨q, fun e => c (by rw [q, e])⟩
  have edge : Conn ((n, a) :: D) n a := .step (.refl _) ⟨(n, a), by simp, ne, .inl ⟨rfl, rfl⟩⟩
  have mono : ∀ {x y}, Conn D x y → Conn ((n, a) :: D) x y := fun c => c.mono fun r hr => List.mem_cons_of_mem _ hr
  have cross : ∀ x y, dget T.pile_of x = some i → dget T.pile_of y = some j → Conn ((n, a) :: D) x y := fun x y hx hy => by
    rcases hna with ⟨q1, q2⟩ | ⟨q1, q2⟩
    · exact ((mono (h.s2 x n i hx q1)).trans edge).trans (mono (h.s2 a y j q2 hy))
    · exact ((mono (h.s2 x a i hx q2)).trans edge.symm).trans (mono (h.s2 n y j q1 hy))
  refine ⟨nd h.kn, nodup_dput (nodup_ddrop h.pn _) _ _, fun m k q => ?_, fun k l q => ?_, fun r hr => ?_, fun x y k q1 q2 => ?_, fun m k q => ?_⟩
  · rcases dn m k q with ⟨c, rfl⟩ | ⟨c, d⟩
    · refine ⟨li ++ lj, by show dget (dput _ _ _) _ = _; rw [g2, if_pos rfl], ?_⟩
      obtain ⟨l, hl, hm⟩ := h.p2 m j c
      rw [hj] at hl; cases hl
      exact List.mem_append.mpr (.inr hm)
    · obtain ⟨l, hl, hm⟩ := h.p2 m k c
      by_cases e : i = k
      · subst e
        rw [hi] at hl; cases hl
        exact ⟨li ++ lj, by show dget (dput _ _ _) _ = _; rw [g2, if_pos rfl], List.mem_append.mpr (.inl hm)⟩
      · exact ⟨l, by show dget (dput _ _ _) _ = _; rw [g2, if_neg e, if_neg (fun z => d z.symm)]; exact hl, hm⟩
  · have q : dget (dput (ddrop T.piles j) i (li ++ lj)) k = some l := q
    rw [g2] at q
    by_cases e : i = k
    · subst e
      rw [if_pos rfl] at q; cases q
      refine ⟨?_, fun m hm => ?_, by simp [i3], i4⟩
      · rw [List.nodup_append]
        refine ⟨i1, j1, fun x hx y hy z => ?_⟩
        subst z
        exact ij (Option.some.inj ((i2 x hx).symm.trans (j2 x hy)))
      · show dget P' m = _
        rcases List.mem_append.mp hm with hm | hm
        · rw [up m i (i2 m hm), if_neg ij]
        · rw [up m j (j2 m hm), if_pos rfl]
    · rw [if_neg e] at q
      by_cases d : j = k
      · rw [if_pos d] at q; cases q
      · rw [if_neg d] at q
        obtain ⟨b1, b2, b3, b4⟩ := h.p3 k l q
        refine ⟨b1, fun m hm => ?_, b3, b4⟩
        show dget P' m = _
        rw [up m k (b2 m hm), if_neg (fun z => d z.symm)]
  · show ∃ k, dget P' r.1 = some k ∧ _
    rcases List.mem_cons.mp hr with rfl | hr
    · refine ⟨i, ?_, fun _ => ?_⟩
      · rcases hna with ⟨q1, q2⟩ | ⟨q1, q2⟩
        · rw [up n i q1, if_neg ij]
        · rw [up n j q1, if_pos rfl]
      · show dget P' a = _
        rcases hna with ⟨q1, q2⟩ | ⟨q1, q2⟩
        · rw [up a j q2, if_pos rfl]
        · rw [up a i q2, if_neg ij]
    · obtain ⟨k, b1, b2⟩ := h.s1 r hr
      exact ⟨_, up _ k b1, fun z => up _ k (b2 z)⟩
  · rcases dn x k q1 with ⟨c, rfl⟩ | ⟨c, d⟩
    · rcases dn y _ q2 with ⟨c2, _⟩ | ⟨c2, _⟩
      · exact mono (h.s2 x y j c c2)
      · exact (cross y x c2 c).symm
    · rcases dn y k q2 with ⟨c2, rfl⟩ | ⟨c2, _⟩
      · exact cross x y c c2
      · exact mono (h.s2 x y k c c2)
  · have : ∃ k0, dget T.pile_of m = some k0 := by
      rcases dn m k q with ⟨c, _⟩ | ⟨c, _⟩
      · exact ⟨_, c⟩
      · exact ⟨_, c⟩
    obtain ⟨k0, c⟩ := this
    exact (h.s3 m k0 c).imp id fun ⟨r, hr, z⟩ => ⟨r, List.mem_cons_of_mem _ hr, z⟩
theorem put_ok {D : Rw} {X : List Str} {T : Threads} (h : PW D X T) (lim : X.length + 2 * D.length ≤ 400) {n a : Str} {i j : Int} (hn : dget T.pile_of n = some i) (ha : dget T.pile_of a = some j) (ne : a ≠ ("" : Str)) :
    Ok (m_Threads_put_together T i j) fun T' => T'.goes_to = T.goes_to ∧ T'.comes_from = T.comes_from ∧ PW ((n, a) :: D) X T' := by
  unfold m_Threads_put_together
  refine .ite (fun c => ?_) fun c => ?_
  · have c : i = j := of_decide_eq_true c
    subst c
    refine .ret ⟨rfl, rfl, h.kn, h.pn, h.p2, h.p3, fun r hr => ?_, fun x y k a b => (h.s2 x y k a b).mono fun r hr => List.mem_cons_of_mem _ hr, fun m k q => (h.s3 m k q).imp id fun ⟨r, hr, z⟩ => ⟨r, List.mem_cons_of_mem _ hr, z⟩⟩
    rcases List.mem_cons.mp hr with rfl | hr
    · exact ⟨i, hn, fun _ => ha⟩
    · exact h.s1 r hr
  · have ij : i ≠ j := fun e => c (decide_eq_true e)
    obtain ⟨li, hi, _⟩ := h.p2 n i hn
    obtain ⟨lj, hj, _⟩ := h.p2 a j ha
    refine .bindE (dgetR_ok hi) (.bindE (dgetR_ok hj) ?_)
    refine .bind (Q := fun s => s = (i, j) ∨ s = (j, i)) (.ite (fun _ => .ret (.inr rfl)) fun _ => .ret (.inl rfl)) fun s hs => ?_
    rcases hs with rfl | rfl
    · refine .bindE (dgetR_ok hj) ?_
      refine Ok.mono (merge_ok h lim hi hj ij) fun T' ⟨e1, e2, e3⟩ => ⟨e1, e2, e3 n a (.inl ⟨hn, ha⟩) ne⟩
    · refine .bindE (dgetR_ok hi) ?_
      refine Ok.mono (merge_ok h lim hj hi fun e => ij e.symm) fun T' ⟨e1, e2, e3⟩ => ⟨e1, e2, e3 n a (.inr ⟨hn, ha⟩) ne⟩
theorem hang_ok {D : Rw} {T : Threads} (h : PW D [] T) (lim : D.length ≤ 150) {n a : Str} (hg : dget T.goes_to n = some a) : Ok (m_Threads_hang T n) fun T' => T'.goes_to = T.goes_to ∧ T'.comes_from = T.comes_from ∧ PW ((n, a) :: D) [] T' := by
  unfold m_Threads_hang
  refine .bind (pile_ok h (by simp; omega) n) fun ⟨i, T1⟩ ⟨e1, e2, h1, hi, _⟩ => ?_
  dsimp only at e1 e2 h1 hi ⊢
  rw [e1]
  refine .bindE (dgetR_ok hg) ?_
  refine .bind (Q := fun T' => T'.goes_to = T.goes_to ∧ T'.comes_from = T.comes_from ∧ PW ((n, a) :: D) [] T') (.ite (fun c => ?_) fun c => ?_) fun T' hT => .ret hT
  · have ne : a ≠ ("" : Str) := fun e => by rw [e, decide_eq_true rfl] at c; exact absurd c (by decide)
    refine .bindE (dgetR_ok hg) ?_
    refine .bind (pile_ok h1 (by simp; omega) a) fun ⟨j, T2⟩ ⟨e3, e4, h2, hj, keep⟩ => ?_
    dsimp only at e3 e4 h2 hj keep ⊢
    refine .bind (put_ok h2 (by simp; omega) (keep n i hi) hj ne) fun T3 ⟨e5, e6, h3⟩ => .ret ⟨by rw [e5, e3, e1], by rw [e6, e4, e2], h3.kn, h3.pn, h3.p2, h3.p3, h3.s1, h3.s2, fun m k q => ?_⟩
    rcases h3.s3 m k q with q | z
    · rcases List.mem_cons.mp q with q | q
      · exact .inr ⟨(n, a), by simp, .inr ⟨q, by rw [q]; exact ne⟩⟩
      · exact .inr ⟨(n, a), by simp, .inl (by simpa using q)⟩
    · exact .inr z
  · have e : a = ("" : Str) := Classical.byContradiction fun ne => c (by rw [decide_eq_false ne]; rfl)
    subst e
    refine .ret ⟨e1, e2, h1.kn, h1.pn, h1.p2, h1.p3, fun r hr => ?_, fun x y k a b => (h1.s2 x y k a b).mono fun r hr => List.mem_cons_of_mem _ hr, fun m k q => ?_⟩
    · rcases List.mem_cons.mp hr with rfl | hr
      · exact ⟨i, hi, fun z => absurd rfl z⟩
      · exact h1.s1 r hr
    · rcases h1.s3 m k q with q | ⟨r, hr, z⟩
      · exact .inr ⟨(n, ("" : Str)), by simp, .inl (by simpa using q)⟩
      · exact .inr ⟨r, List.mem_cons_of_mem _ hr, z⟩
def fa (D : Rw) (a : Str) : List (Str × Bool) := (D.filter fun r => decide (r.2 = a)).map fun r => (r.1, true)
structure TH (D : Rw) (T : Threads) : Prop where
  go : T.goes_to = D
  nd : (D.map (·.1)).Nodup
  ck : (T.comes_from.map (·.1)).Nodup
  cg : ∀ a, dget T.comes_from a = if fa D a = [] then none else some (fa D a)
  pw : PW D [] T
theorem th0 : TH [] (⟨[], [], [], [], 0⟩ : Threads) :=
  ⟨rfl, List.nodup_nil, List.nodup_nil, fun _ => rfl, List.nodup_nil, List.nodup_nil, (fun _ _ h => nomatch h), (fun _ _ h => nomatch h), (fun _ h => nomatch h), (fun _ _ _ h => nomatch h), (fun _ _ h => nomatch h)⟩
theorem TH.clen {D : Rw} {T : Threads} (h : TH D T) : T.comes_from.length ≤ D.length := by
  have : (T.comes_from.map (·.1)).length ≤ (D.map (·.2)).length := nodup_lenG h.ck fun a ha => by
    obtain ⟨v, hv⟩ := dhas_get (dhas_iff.mpr ha)
    rw [h.cg] at hv
    by_cases c : fa D a = []
    · rw [if_pos c] at hv; cases hv
    · cases q : D.filter (fun r => decide (r.2 = a)) with
      | nil => exact absurd (by unfold fa; rw [q]; rfl) c
      | cons r l =>
        have hr : r ∈ D.filter (fun r => decide (r.2 = a)) := by rw [q]; simp
        obtain ⟨h1, h2⟩ := List.mem_filter.mp hr
        exact List.mem_map.mpr ⟨r, h1, of_decide_eq_true h2⟩
  rw [List.length_map, List.length_map] at this
  exact this
theorem fa_len (D : Rw) (a : Str) : (fa D a).length ≤ D.length := by unfold fa; rw [List.length_map]; exact List.length_filter_le ..
theorem fa_keys (D : Rw) (a : Str) : (fa D a).map (·.1) = (D.filter fun r => decide (r.2 = a)).map (·.1) := by unfold fa; rw [List.map_map]; rfl
theorem cget {D : Rw} {T : Threads} (h : TH D T) (a : Str) : (dget T.comes_from a).getD [] = fa D a := by
  rw [h.cg]
  by_cases c : fa D a = []
  · rw [if_pos c, c]; rfl
  · rw [if_neg c]; rfl
theorem fa_app (D : Rw) (n a b : Str) : fa (D ++ [(n, a)]) b = if a = b then fa D b ++ [(n, true)] else fa D b := by
  unfold fa
  rw [List.filter_append, List.map_append]
  by_cases c : a = b
  · rw [if_pos c, List.filter_cons_of_pos (by simp [c])]; rfl
  · rw [if_neg c, List.filter_cons_of_neg (by simp [c])]; simp
theorem fa_no {D : Rw} {n : Str} (h : dhas D n = false) (a : Str) : dhas (fa D a) n = false := by
  rw [dhas_false, fa_keys]
  intro q
  obtain ⟨r, hr, e⟩ := List.mem_map.mp q
  exact dhas_false.mp h (List.mem_map.mpr ⟨r, (List.mem_filter.mp hr).1, e⟩)
theorem tsure_ok {D : Rw} {T : Threads} (h : TH D T) {n : Str} (c : dhas D n = true) : m_Threads_sure T n = .ok () := by
  unfold m_Threads_sure
  rw [h.go, c]; rfl
theorem tadd_ok {D : Rw} {T : Threads} (h : TH D T) (lim : D.length ≤ 100) {n a : Str} (hn : dhas D n = false) : Ok (m_Threads_add T n a) fun T' => TH (D ++ [(n, a)]) T' := by
  have lc := h.clen
  have lf := fa_len D a
  unfold m_Threads_add
  rw [h.go]
  refine .ifF (by rw [hn]; decide) (.need (line9 (by omega)) (.need (line9 (by omega)) (.need (line9 (by rw [cget h]; omega)) ?_)))
  rw [cget h, dput_new hn, dput_new (fa_no hn a)]
  have nd : ((D ++ [(n, a)]).map (·.1)).Nodup := by rw [← dput_new hn]; exact nodup_dput h.nd _ _
  refine .bind (Q := fun T' => TH (D ++ [(n, a)]) T') ?_ fun T' hT => .ret hT
  have hw : PW D [] (⟨D ++ [(n, a)], T.pile_of, T.piles, dput (setE T.comes_from a []) a (fa D a ++ [(n, true)]), T.made⟩ : Threads) := ⟨h.pw.kn, h.pw.pn, h.pw.p2, h.pw.p3, h.pw.s1, h.pw.s2, h.pw.s3⟩
  obtain ⟨T', e, e1, e2, e3⟩ := hang_ok hw (by omega) (n := n) (a := a) (dget_last hn)
  rw [e]
  refine .ret ⟨e1, nd, ?_, fun b => ?_, e3.congr fun r => by simp [or_comm]⟩
  · rw [e2]; exact nodup_dput (setE_nodup h.ck _ _) _ _
  · rw [e2, setE_get, fa_app]
    by_cases c : a = b
    · subst c
      rw [if_pos rfl, if_pos rfl, if_neg (by simp)]
    · rw [if_neg c, if_neg c, h.cg]
theorem drops_ok : ∀ (l : List Str) (P : List (Str × Int)), l.Nodup → (∀ n, n ∈ l → dhas P n = true) → Ok (forR (fun (s : List (Str × Int)) (x : Str) => (dgetR s x).bind fun _ => R.ok (ddrop s x)) l P) fun P' => (∀ m, dget P' m = if m ∈ l then none else dget P m) ∧ ((P.map (·.1)).Nodup → (P'.map (·.1)).Nodup)
  | [], P, _, _ => .ret ⟨fun m => by simp, id⟩
  | x :: l, P, nd, hl => by
    obtain ⟨n1, n2⟩ := List.nodup_cons.mp nd
    obtain ⟨v, hv⟩ := dhas_get (hl x (by simp))
    obtain ⟨P', e, h1, h2⟩ := drops_ok l (ddrop P x) n2 fun n hn => by
      have := hl n (List.mem_cons_of_mem _ hn)
      unfold dhas at *
      rw [dget_drop, if_neg (fun z => n1 (by rw [z]; exact hn))]; exact this
    refine ⟨P', ?_, fun m => ?_, fun nd => h2 (nodup_ddrop nd _)⟩
    · show ((dgetR P x).bind fun _ => R.ok (ddrop P x)).bind _ = _
      rw [dgetR_ok hv]; exact e
    · rw [h1, dget_drop]
      by_cases c : m ∈ l
      · rw [if_pos c, if_pos (by simp [c])]
      · rw [if_neg c]
        by_cases d : x = m
        · rw [if_pos d, if_pos (by simp [d])]
        · rw [if_neg d, if_neg (by simp [c]; exact fun e => d e.symm)]
theorem fa_drop (D : Rw) (n b : Str) : fa (ddrop D n) b = ddrop (fa D b) n := by
  unfold fa ddrop
  rw [List.filter_map, List.filter_filter, List.filter_filter]
  congr 1
  refine List.filter_congr fun r _ => ?_
  show (decide (r.2 = b) && decide (r.1 ≠ n)) = (decide (r.1 ≠ n) && decide (r.2 = b))
  exact Bool.and_comm _ _
theorem ddrop_no {κ β : Type} [DecidableEq κ] {d : List (κ × β)} {k : κ} (h : dhas d k = false) : ddrop d k = d := by
  unfold ddrop
  exact List.filter_eq_self.mpr fun p hp => decide_eq_true fun e => dhas_false.mp h (List.mem_map.mpr ⟨p, hp, e⟩)
theorem mem_ddrop {κ β : Type} [DecidableEq κ] {d : List (κ × β)} {k : κ} {p : κ × β} : p ∈ ddrop d k ↔ p ∈ d ∧ p.1 ≠ k := by
  unfold ddrop
  rw [List.mem_filter, decide_eq_true_eq]
theorem ttake_ok {D : Rw} {T : Threads} (h : TH D T) (lim : D.length ≤ 60) {n a : Str} (hn : dget D n = some a) : Ok (m_Threads_take_out T n) fun T' => TH (ddrop D n) T' := by
  have hh := has_of hn
  have W := h.pw
  unfold m_Threads_take_out
  refine .bindE (tsure_ok h hh) ?_
  rw [h.go]
  have hm : (n, a) ∈ D := dget_mem hn
  have hf : dget (fa D a) n = some true := by
    refine dget_of_mem ?_ (List.mem_map.mpr ⟨(n, a), List.mem_filter.mpr ⟨hm, decide_eq_true rfl⟩, rfl⟩)
    rw [fa_keys]; exact h.nd.sublist (List.filter_sublist.map _)
  have fne : fa D a ≠ [] := fun e => by rw [e] at hf; cases hf
  have gc : dget T.comes_from a = some (fa D a) := by rw [h.cg, if_neg fne]
  have g4 : dget (dput T.comes_from a (ddrop (fa D a) n)) a = some (ddrop (fa D a) n) := by rw [dget_put, if_pos rfl]
  refine .bindE (dgetR_ok hn) (.bindE (dgetR_ok gc) (.bindE (dgetR_ok hf) (.bindE (dgetR_ok g4) ?_)))
  refine .bind (Q := fun C => (C.map (·.1)).Nodup ∧ ∀ b, dget C b = if fa (ddrop D n) b = [] then none else some (fa (ddrop D n) b)) ?_ fun C ⟨ck, cg⟩ => ?_
  · have other : ∀ b, a ≠ b → fa (ddrop D n) b = fa D b := fun b ne => by
      rw [fa_drop]
      refine ddrop_no (dhas_false.mpr fun q => ?_)
      rw [fa_keys] at q
      obtain ⟨r, hr, e⟩ := List.mem_map.mp q
      obtain ⟨r1, r2⟩ := List.mem_filter.mp hr
      have := dget_of_mem h.nd (k := r.1) (v := r.2) r1
      rw [e, hn] at this
      exact ne ((Option.some.inj this).trans (of_decide_eq_true r2))
    refine .ite (fun c => ?_) fun c => ?_
    · have c : ddrop (fa D a) n = [] := List.length_eq_zero_iff.mp (by have := of_decide_eq_true c; omega)
      refine .bindE (dgetR_ok g4) (.ret ⟨nodup_ddrop (nodup_dput h.ck _ _) _, fun b => ?_⟩)
      rw [dget_drop]
      by_cases d : a = b
      · subst d; rw [if_pos rfl, fa_drop, if_pos c]
      · rw [if_neg d, dget_put, if_neg d, h.cg, other b d]
    · have c : ¬ ddrop (fa D a) n = [] := fun e => c (by rw [e]; rfl)
      refine .ret ⟨nodup_dput h.ck _ _, fun b => ?_⟩
      rw [dget_put]
      by_cases d : a = b
      · subst d; rw [if_pos rfl, fa_drop, if_neg c]
      · rw [if_neg d, h.cg, other b d]
  obtain ⟨i, hi, _⟩ := W.s1 (n, a) hm
  have hi : dget T.pile_of n = some i := hi
  obtain ⟨old, ho, hno⟩ := W.p2 n i hi
  obtain ⟨o1, o2, o3, o4⟩ := W.p3 i old ho
  have lo := W.plen ho
  refine .bindE (dgetR_ok hi) (.bindE (dgetR_ok ho) ?_)
  refine .bind (drops_ok old T.pile_of o1 fun m hm => has_of (o2 m hm)) fun P' ⟨gp, np⟩ => ?_
  have gp' : ∀ m k, dget P' m = some k ↔ dget T.pile_of m = some k ∧ k ≠ i := fun m k => by
    rw [gp]
    constructor
    · intro q
      by_cases c : m ∈ old
      · rw [if_pos c] at q; cases q
      · rw [if_neg c] at q
        refine ⟨q, fun e => c ?_⟩
        obtain ⟨l, hl, hm⟩ := W.p2 m k q
        rw [e, ho] at hl; cases hl
        exact hm
    · rintro ⟨q, ne⟩
      rw [if_neg (fun c => ne (Option.some.inj (q.symm.trans (o2 m c)))), q]
  let base : Rw := D.filter fun r => decide (dget T.pile_of r.1 ≠ some i)
  have mb : ∀ r, r ∈ base ↔ r ∈ D ∧ dget T.pile_of r.1 ≠ some i := fun r => by
    show r ∈ D.filter _ ↔ _
    rw [List.mem_filter, decide_eq_true_eq]
  have path : ∀ x y, Conn D x y → ∀ k, k ≠ i → dget T.pile_of x = some k → Conn base x y ∧ dget T.pile_of y = some k := by
    intro x y c
    induction c with
    | refl => exact fun k _ q => ⟨.refl _, q⟩
    | @step u v _ e ih =>
      intro k ne q
      obtain ⟨c1, q1⟩ := ih k ne q
      obtain ⟨r, hr, z, w⟩ := e
      obtain ⟨j, s1, s2⟩ := W.s1 r hr
      rcases w with ⟨e1, e2⟩ | ⟨e1, e2⟩
      · have : j = k := Option.some.inj (by rw [← s1, ← e1, q1])
        subst this
        exact ⟨.step c1 ⟨r, (mb r).mpr ⟨hr, by rw [s1]; exact fun y => ne (Option.some.inj y)⟩, z, .inl ⟨e1, e2⟩⟩, by rw [e2]; exact s2 z⟩
      · have : j = k := Option.some.inj (by rw [← s2 z, ← e1, q1])
        subst this
        exact ⟨.step c1 ⟨r, (mb r).mpr ⟨hr, by rw [s1]; exact fun y => ne (Option.some.inj y)⟩, z, .inr ⟨e1, e2⟩⟩, by rw [e2]; exact s1⟩
  have W0 : PW base [] (⟨ddrop D n, P', ddrop T.piles i, C, T.made⟩ : Threads) := by
    refine ⟨np W.kn, nodup_ddrop W.pn _, fun m k q => ?_, fun k l q => ?_, fun r hr => ?_, fun x y k q1 q2 => ?_, fun m k q => ?_⟩
    · obtain ⟨q1, ne⟩ := (gp' m k).mp q
      obtain ⟨l, hl, hm⟩ := W.p2 m k q1
      exact ⟨l, by show dget (ddrop T.piles i) k = _; rw [dget_drop, if_neg (fun e => ne e.symm)]; exact hl, hm⟩
    · have q : dget (ddrop T.piles i) k = some l := q
      rw [dget_drop] at q
      by_cases c : i = k
      · rw [if_pos c] at q; cases q
      · rw [if_neg c] at q
        obtain ⟨b1, b2, b3, b4⟩ := W.p3 k l q
        exact ⟨b1, fun m hm => (gp' m k).mpr ⟨b2 m hm, fun e => c e.symm⟩, b3, b4⟩
    · obtain ⟨r1, r2⟩ := (mb r).mp hr
      obtain ⟨k, s1, s2⟩ := W.s1 r r1
      have ne : k ≠ i := fun e => r2 (by rw [s1, e])
      exact ⟨k, (gp' _ k).mpr ⟨s1, ne⟩, fun z => (gp' _ k).mpr ⟨s2 z, ne⟩⟩
    · obtain ⟨z1, ne⟩ := (gp' x k).mp q1
      obtain ⟨z2, _⟩ := (gp' y k).mp q2
      exact (path x y (W.s2 x y k z1 z2) k ne z1).1
    · obtain ⟨z1, ne⟩ := (gp' m k).mp q
      rcases W.s3 m k z1 with w | ⟨r, hr, w⟩
      · exact nomatch w
      · obtain ⟨j, s1, s2⟩ := W.s1 r hr
        have : j = k := by
          rcases w with e | ⟨e, nz⟩
          · rw [e, s1] at z1; exact Option.some.inj z1
          · rw [e, s2 (by rw [← e]; exact nz)] at z1; exact Option.some.inj z1
        subst this
        exact .inr ⟨r, (mb r).mpr ⟨hr, by rw [s1]; exact fun y => ne (Option.some.inj y)⟩, w⟩
  have lb : base.length ≤ D.length := List.length_filter_le ..
  have hold : old.length ≤ 2 * D.length := by simpa using lo
  refine .forI (fun p (S : Threads) => S.goes_to = ddrop D n ∧ S.comes_from = C ∧ ∃ E, PW E [] S ∧ (∀ r, r ∈ E ↔ (r ∈ base ∨ (r ∈ ddrop D n ∧ r.1 ∈ p))) ∧ E.length ≤ base.length + (p.filter fun x => dhas (ddrop D n) x).length) ⟨rfl, rfl, base, W0, fun r => by simp, by simp⟩ ?_ ?_
  · rintro p x q S ep ⟨e1, e2, E, hE, mE, lE⟩
    have ndp : (p.filter fun x => dhas (ddrop D n) x).length ≤ D.length := by
      have : (p.filter fun x => dhas (ddrop D n) x).length ≤ ((ddrop D n).map (·.1)).length := nodup_lenG ((o1.sublist (by rw [ep]; exact List.sublist_append_left _ _)).filter _) fun y hy => dhas_iff.mp (List.mem_filter.mp hy).2
      have l2 := len_ddrop D n
      rw [List.length_map] at this
      omega
    rw [e1]
    refine .bind (Q := fun S' => S'.goes_to = ddrop D n ∧ S'.comes_from = C ∧ ∃ E, PW E [] S' ∧ (∀ r, r ∈ E ↔ (r ∈ base ∨ (r ∈ ddrop D n ∧ r.1 ∈ p ++ [x]))) ∧ E.length ≤ base.length + ((p ++ [x]).filter fun x => dhas (ddrop D n) x).length) (.ite (fun c => ?_) fun c => ?_) fun S' hS => .ret hS
    · obtain ⟨b, hb⟩ := dhas_get c
      obtain ⟨S', e, f1, f2, f3⟩ := hang_ok hE (by omega) (n := x) (a := b) (by rw [e1]; exact hb)
      rw [e]
      refine .ret ⟨f1.trans e1, f2.trans e2, (x, b) :: E, f3, fun r => ?_, ?_⟩
      · rw [List.mem_cons, mE]
        constructor
        · rintro (rfl | q | ⟨q1, q2⟩)
          · exact .inr ⟨dget_mem hb, by simp⟩
          · exact .inl q
          · exact .inr ⟨q1, by simp [q2]⟩
        · rintro (q | ⟨q1, q2⟩)
          · exact .inr (.inl q)
          · rcases List.mem_append.mp q2 with z | z
            · exact .inr (.inr ⟨q1, z⟩)
            · have z : r.1 = x := by simpa using z
              have := dget_of_mem (nodup_ddrop h.nd n) (k := r.1) (v := r.2) q1
              rw [z, hb] at this
              exact .inl (Prod.ext z (Option.some.inj this).symm)
      · rw [List.filter_append, List.filter_cons_of_pos (by simpa using c), List.length_cons, List.length_append]
        show _ ≤ base.length + (_ + 1)
        omega
    · refine .ret ⟨e1, e2, E, hE, fun r => ?_, ?_⟩
      · rw [mE]
        constructor
        · rintro (q | ⟨q1, q2⟩)
          · exact .inl q
          · exact .inr ⟨q1, by simp [q2]⟩
        · rintro (q | ⟨q1, q2⟩)
          · exact .inl q
          · rcases List.mem_append.mp q2 with z | z
            · exact .inr ⟨q1, z⟩
            · have z : r.1 = x := by simpa using z
              exact absurd (dhas_iff.mpr (List.mem_map.mpr ⟨r, q1, z⟩)) c
      · rw [List.filter_append, List.filter_cons_of_neg (by simpa using c)]
        simpa using lE
  · rintro S ⟨e1, e2, E, hE, mE, _⟩
    refine .ret ⟨e1, nodup_ddrop h.nd n, by rw [e2]; exact ck, fun b => by rw [e2]; exact cg b, hE.congr fun r => ?_⟩
    rw [mE]
    constructor
    · rintro (q | ⟨q1, _⟩)
      · obtain ⟨r1, r2⟩ := (mb r).mp q
        exact mem_ddrop.mpr ⟨r1, fun e => r2 (by rw [e]; exact hi)⟩
      · exact q1
    · intro q
      obtain ⟨q1, q2⟩ := mem_ddrop.mp q
      by_cases c : dget T.pile_of r.1 = some i
      · obtain ⟨l, hl, hm⟩ := W.p2 r.1 i c
        rw [ho] at hl; cases hl
        exact .inr ⟨q, hm⟩
      · exact .inl ((mb r).mpr ⟨q1, c⟩)
theorem fm_y {α β : Type} {f : α → Option β} {x : α} {l : List α} {b : β} (h : f x = some b) : (x :: l).filterMap f = b :: l.filterMap f := List.filterMap_cons_some h
theorem fm_n {α β : Type} {f : α → Option β} {x : α} {l : List α} (h : f x = none) : (x :: l).filterMap f = l.filterMap f := List.filterMap_cons_none h
theorem one_at {D : Rw} (nd : (D.map (·.1)).Nodup) {x a : Str} (h : dget D x = some a) : (D.filterMap fun r => if r.1 = x then some r.2 else none) = [a] ∧ (D.filterMap fun r => if r.1 = x then some r else none) = [(x, a)] := by
  induction D with
  | nil => cases h
  | cons r D ih =>
    rw [List.map_cons, List.nodup_cons] at nd
    rw [dget_cons] at h
    by_cases c : r.1 = x
    · rw [if_pos c] at h
      cases h
      have none1 : ∀ q, q ∈ D → ¬ q.1 = x := fun q hq e => nd.1 (by rw [c, ← e]; exact List.mem_map.mpr ⟨q, hq, rfl⟩)
      have e1 : (D.filterMap fun r => if r.1 = x then some r.2 else none) = [] := List.filterMap_eq_nil_iff.mpr fun q hq => if_neg (none1 q hq)
      have e2 : (D.filterMap fun r => if r.1 = x then some r else none) = [] := List.filterMap_eq_nil_iff.mpr fun q hq => if_neg (none1 q hq)
      rw [fm_y (f := fun r : Str × Str => if r.1 = x then some r.2 else none) (b := r.2) (if_pos c), fm_y (f := fun r : Str × Str => if r.1 = x then some r else none) (b := r) (if_pos c), e1, e2]
      exact ⟨rfl, by rw [← c]⟩
    · rw [if_neg c] at h
      rw [fm_n (f := fun r : Str × Str => if r.1 = x then some r.2 else none) (if_neg c), fm_n (f := fun r : Str × Str => if r.1 = x then some r else none) (if_neg c)]
      exact ih nd.2 h
theorem none_at {D : Rw} {x : Str} (h : dget D x = none) : (D.filterMap fun r => if r.1 = x then some r else none) = [] :=
  List.filterMap_eq_nil_iff.mpr fun q hq => if_neg fun e => dget_none.mp h (List.mem_map.mpr ⟨q, hq, e⟩)
theorem remP_drop {n a : Str} : ∀ {D : Rw}, (D.map (·.1)).Nodup → dget D n = some a → remP D (n, a) = ddrop D n
  | [], _, h => by cases h
  | r :: D, nd, h => by
    rw [List.map_cons, List.nodup_cons] at nd
    rw [dget_cons] at h
    have ih := remP_drop (n := n) (a := a) (D := D) nd.2
    unfold remP at *
    unfold ddrop at *
    rw [List.findIdx_cons]
    by_cases c : r.1 = n
    · rw [if_pos c] at h
      have e : r = (n, a) := Prod.ext c (Option.some.inj h)
      have f : (D.filter fun kv => decide (kv.1 ≠ n)) = D := List.filter_eq_self.mpr fun y hy => decide_eq_true fun z => nd.1 (by rw [c, ← z]; exact List.mem_map.mpr ⟨y, hy, rfl⟩)
      rw [List.filter_cons_of_neg (by simp [c]), f, decide_eq_true e]; rfl
    · rw [if_neg c] at h
      rw [List.filter_cons_of_pos (by simp [c]), decide_eq_false (fun e => c (by rw [e])), ← ih h]; rfl
structure G22 (ns : List Str) (D : Rw) : Prop where
  nd : (D.map (·.1)).Nodup
  sub : ∀ r, r ∈ D → r.1 ∈ ns ∧ Asc r.2
  nm : ∀ n, n ∈ ns → Nm n
  few : ns.length ≤ 10
theorem G22.len {ns : List Str} {D : Rw} (h : G22 ns D) : D.length ≤ 10 := by
  have := nodup_lenG h.nd fun n hn => by
    obtain ⟨r, hr, e⟩ := List.mem_map.mp hn
    rw [← e]; exact (h.sub r hr).1
  have := h.few
  rw [List.length_map] at *
  omega
theorem G22.lay {ns : List Str} {D E : Rw} (h : G22 ns D) (s : ∀ r, r ∈ E → r ∈ D) : (Lay.lay E : Bool) = true := List.all_eq_true.mpr fun r hr => by
  obtain ⟨a, b⟩ := h.sub r (s r hr)
  show (Lay.lay r.1 && Lay.lay r.2) = true
  rw [(h.nm _ a).asc.lay, b.lay]; rfl
theorem target_ok {ns : List Str} (h : ∀ n, n ∈ ns → Nm n) (l : 2 ≤ ns.length ∧ ns.length ≤ 10) {n : Str} (hn : n ∈ ns) (w : Int) : Ok (m_law_target ns n w) Asc := by
  unfold m_law_target
  refine .lets (.ite (fun _ => .ret asc_empty) fun _ => .ite (fun _ => .ret (h n hn).asc) fun _ => .ite (fun _ => ?_) fun _ => ?_)
  · refine .idx (by decide) (by omega) fun x hx _ => .idx (by decide) (by omega) fun y hy _ => ?_
    have hl := (h x hx).len
    have l0 : ("0" : Str).length = 1 := by decide +kernel
    have h01 : (if (decide (((y).length : Int) < 20)) = true then 1 else 0 : Int) = 0 ∨ (if (decide (((y).length : Int) < 20)) = true then 1 else 0 : Int) = 1 := by split <;> simp
    generalize (if (decide (((y).length : Int) < 20)) = true then 1 else 0 : Int) = c at *
    have hc : c.toNat ≤ 1 := by omega
    refine .need (le_line (by have := (h y hy).len; omega)) (.need ⟨le_line (by rw [l0]; omega), by omega, by omega⟩ (.need (le_line (by rw [rep_len, l0]; omega)) (.ret ((h x hx).asc.app fun d hd => ?_))))
    rw [rep_tl] at hd
    obtain ⟨l, hl, hd⟩ := List.mem_flatten.mp hd
    rw [(List.mem_replicate.mp hl).2] at hd
    exact (show Asc ("0" : Str) from Asc.lit (by decide +kernel)) d hd
  · refine .need (by omega) (.idx (Int.emod_nonneg _ (by omega)) (Int.emod_lt_of_pos _ (by omega)) fun x hx _ => .ret (h x hx).asc)
theorem pool_ok {r1 : List Int} (hl : r1.length = 60) (hr : ∀ x, x ∈ r1 → 0 ≤ x ∧ x < 2147483629) : Ok (m_law_pool r1) fun ns => 2 ≤ ns.length ∧ ns.length ≤ 10 ∧ ∀ n, n ∈ ns → Nm n := by
  unfold m_law_pool
  refine .idx (by decide) (by omega) fun x1 h1 _ => .lets (.need (by omega) (.need (by rw [rngL_len]; exact le_line (by omega)) ?_))
  refine .comp Nm (fun k hk => ?_) fun ns e hn => .ret ⟨?_, ?_, hn⟩
  · have hk := rngL_mem hk
    refine .idx (by decide) (by omega) fun x0 h0 _ => .bind (nameBy_ok ⟨(hr x0 h0).1, by have := (hr x0 h0).2; omega⟩ ⟨hk.1, by omega⟩) fun n hn => .ret ⟨n, rfl, hn⟩
  · rw [e, rngL_len]; omega
  · rw [e, rngL_len]; omega
theorem cut_two {r1 : List Int} (hl : r1.length = 60) {i j : Int} (h0 : 0 ≤ i) (hj : j = i + 2) (h1 : j ≤ 60) : (cutL r1 (some i) (some j)).length = 2 := by
  unfold cutL
  rw [sIx_nn h0, sIx_nn (show 0 ≤ j by omega), List.length_take, List.length_drop]
  omega
def hangB (a b : Str × Str) : Bool := (decide (a.2 = b.1)) || ((decide (b.2 = a.1)) || ((!decide (a.2 = ("" : Str))) && (decide (a.2 = b.2))))
theorem hang_eq (a b : Str × Str) : m_law_hang a b = .ok (hangB a b) := rfl
theorem hangB_iff {a b : Str × Str} : hangB a b = true ↔ a.2 = b.1 ∨ b.2 = a.1 ∨ (a.2 ≠ ("" : Str) ∧ a.2 = b.2) := by
  unfold hangB
  simp
theorem key_one {D : Rw} (nd : (D.map (·.1)).Nodup) {r s : Str × Str} (hr : r ∈ D) (hs : s ∈ D) (e : r.1 = s.1) : r = s := by
  have a := dget_of_mem nd (k := r.1) (v := r.2) hr
  have b := dget_of_mem nd (k := s.1) (v := s.2) hs
  rw [e, b] at a
  exact Prod.ext e (Option.some.inj a).symm
structure WD (D : Rw) : Prop where
  nd : (D.map (·.1)).Nodup
  ne : ∀ r, r ∈ D → r.1 ≠ ("" : Str)
  asc : ∀ r, r ∈ D → Asc r.1 ∧ Asc r.2
  few : D.length ≤ 60
theorem WD.lay {D E : Rw} (h : WD D) (s : ∀ r, r ∈ E → r ∈ D) : (Lay.lay E : Bool) = true := List.all_eq_true.mpr fun r hr => by
  obtain ⟨a, b⟩ := h.asc r (s r hr)
  show (Lay.lay r.1 && Lay.lay r.2) = true
  rw [a.lay, b.lay]; rfl
theorem WD.lay1 {D : Rw} (h : WD D) {r : Str × Str} (hr : r ∈ D) : (Lay.lay r : Bool) = true := by
  obtain ⟨a, b⟩ := h.asc r hr
  show (Lay.lay r.1 && Lay.lay r.2) = true
  rw [a.lay, b.lay]; rfl
theorem whileN_to {τ : Type} {c : τ → Bool} {f : τ → R τ} (I : τ → Prop) (w : τ → Nat) {n : Nat} {s : τ} (h0 : I s) (hn : w s < n) (hs : ∀ s, I s → c s = true → Ok (f s) fun s' => I s' ∧ w s' < w s) : Ok (whileN n c f s) fun s => I s ∧ c s = false := by
  obtain ⟨s', e, h1, h2⟩ := whileN_ok (f := f) (c := c) I w (fun s h c => by
    obtain ⟨s', e, h⟩ := hs s h c
    exact ⟨s', e, h⟩) n s h0 hn
  exact ⟨s', e, h1, h2⟩
theorem memD_iff {α : Type} [DecidableEq α] {x : α} {xs : List α} : memD x xs = true ↔ x ∈ xs := by
  unfold memD; exact decide_eq_true_iff
theorem memD_no {α : Type} [DecidableEq α] {x : α} {xs : List α} (h : ¬ x ∈ xs) : memD x xs = false := Bool.eq_false_iff.mpr fun z => h (memD_iff.mp z)
/-- what a walk has found is closed -/
theorem closed_all {D : Rw} (W : WD D) {F : Rw} (sub : ∀ r, r ∈ F → r ∈ D) {n : Str} {a : Str} (h0 : (n, a) ∈ F) (cl : ∀ r, r ∈ D → ∀ f, f ∈ F → hangB r f = true → r ∈ F) {x : Str} (c : Conn D n x) : (∃ r, r ∈ F ∧ r.1 = x) ∨ ∃ r, r ∈ F ∧ r.2 = x ∧ x ≠ ("" : Str) := by
  induction c with
  | refl => exact .inl ⟨_, h0, rfl⟩
  | @step u v _ e ih =>
    obtain ⟨r, hr, nz, w⟩ := e
    rcases w with ⟨e1, e2⟩ | ⟨e1, e2⟩
    · refine .inr ?_
      have hF : r ∈ F := by
        rcases ih with ⟨q, hq, z⟩ | ⟨q, hq, z, _⟩
        · rw [key_one W.nd hr (sub q hq) (by rw [z, e1])]; exact hq
        · exact cl r hr q hq (hangB_iff.mpr (.inr (.inl (by rw [z, e1]))))
      exact ⟨r, hF, e2.symm, by rw [e2]; exact nz⟩
    · refine .inl ?_
      have hF : r ∈ F := by
        rcases ih with ⟨q, hq, z⟩ | ⟨q, hq, z, _⟩
        · exact cl r hr q hq (hangB_iff.mpr (.inl (by rw [z, e1])))
        · exact cl r hr q hq (hangB_iff.mpr (.inr (.inr ⟨nz, by rw [z, e1]⟩)))
      exact ⟨r, hF, e2.symm⟩
theorem hang_conn {D : Rw} (W : WD D) {r f : Str × Str} (hr : r ∈ D) (hf : f ∈ D) (h : hangB r f = true) : Conn D f.1 r.1 := by
  have er : r.2 ≠ ("" : Str) → Conn D r.1 r.2 := fun z => .step (.refl _) ⟨r, hr, z, .inl ⟨rfl, rfl⟩⟩
  have ef : f.2 ≠ ("" : Str) → Conn D f.1 f.2 := fun z => .step (.refl _) ⟨f, hf, z, .inl ⟨rfl, rfl⟩⟩
  rcases hangB_iff.mp h with e | e | ⟨nz, e⟩
  · have := er (by rw [e]; exact W.ne f hf)
    rw [e] at this
    exact this.symm
  · have := ef (by rw [e]; exact W.ne r hr)
    rw [e] at this
    exact this
  · have := er nz
    rw [e] at this
    exact (ef (by rw [← e]; exact nz)).trans this.symm
/-- the thread of a name: a list that is settled by its members -/
structure IsThr (D : Rw) (n : Str) (l : List Str) : Prop where
  up : l.Pairwise fun a b => leT a b = true
  nd : l.Nodup
  mem : ∀ x, x ∈ l ↔ dhas D x = true ∧ Conn D n x
theorem IsThr.one {D : Rw} {n : Str} {l m : List Str} (h : IsThr D n l) (k : IsThr D n m) : l = m :=
  up_one h.up k.up (perm_same h.nd k.nd fun x => (h.mem x).trans (k.mem x).symm)
theorem fm_filter {α : Type} (p : α → Bool) (l : List α) : l.filterMap (fun x => if p x = true then some x else none) = l.filter p := by
  induction l with
  | nil => rfl
  | cons r D ih =>
    by_cases c : p r = true
    · rw [fm_y (f := fun r => if p r = true then some r else none) (b := r) (if_pos c), List.filter_cons_of_pos c, ih]
    · rw [fm_n (f := fun r => if p r = true then some r else none) (if_neg c), List.filter_cons_of_neg c, ih]
theorem rows_filter {D : Rw} (p : Str × Str → Bool) {f : Unit → (Str × Str) → R (Unit × Option (Str × Str))} {ρ : Type} {P : ρ → Prop} {k : Unit × Rw → R ρ} (hf : ∀ r, r ∈ D → f () r = .ok ((), if p r = true then some r else none)) (hk : Ok (k ((), D.filter p)) P) : Ok ((compR f D ()).bind k) P := by
  refine .compF (fun r => if p r = true then some r else none) (fun r hr => ⟨_, hf r hr, rfl⟩) ?_
  rw [fm_filter p D]; exact hk
theorem lthread_ok {D : Rw} (W : WD D) {n : Str} (hn : dhas D n = true) : Ok (m_law_thread D n) fun l => IsThr D n l := by
  obtain ⟨a, ha⟩ := dhas_get hn
  have few := W.few
  unfold m_law_thread
  refine .need (le_line (by omega)) ?_
  refine .compF (fun r => if r.1 = n then some r else none) (fun r _ => .ite (fun c => .ret (by rw [if_pos (of_decide_eq_true c)])) fun c => .ret (by rw [if_neg (fun z => c (decide_eq_true z))])) ?_
  dsimp only
  rw [(one_at W.nd ha).2]
  let I : Rw × Int → Prop := fun s => s.1.Nodup ∧ (∀ r, r ∈ s.1 → r ∈ D) ∧ (n, a) ∈ s.1 ∧ 0 ≤ s.2 ∧ s.2 ≤ s.1.length ∧ (∀ r, r ∈ s.1 → Conn D n r.1) ∧ ∀ j : Nat, (j : Int) < s.2 → ∀ f, s.1[j]? = some f → ∀ r, r ∈ D → hangB r f = true → r ∈ s.1
  have lenI : ∀ s, I s → s.1.length ≤ D.length := fun s h => nodup_lenG h.1 h.2.1
  have hI0 : I ([(n, a)], 0) := ⟨by simp, fun r hr => by rw [List.mem_singleton.mp hr]; exact dget_mem ha, by simp, Int.le_refl _, by show (0 : Int) ≤ ((1 : Nat) : Int); omega, fun r hr => by rw [List.mem_singleton.mp hr]; exact .refl _, fun j hj => by dsimp only at hj; omega⟩
  refine .bind (Q := fun s => I s ∧ ¬ s.2 < (s.1.length : Int)) ?_ fun s ⟨h, hs⟩ => ?_
  · refine Ok.mono (whileN_to I (fun s => D.length - s.2.toNat) hI0 (by show D.length - 0 < 64; omega) fun s h c => ?_) fun s ⟨h1, h2⟩ => ⟨h1, fun z => by rw [decide_eq_true z] at h2; cases h2⟩
    · obtain ⟨F, i⟩ := s
      obtain ⟨f1, f2, f3, f4, f5, f6, f7⟩ := h
      dsimp only at f1 f2 f3 f4 f5 f6 f7 ⊢
      have c : i < (F.length : Int) := of_decide_eq_true c
      have lF : F.length ≤ D.length := nodup_lenG f1 f2
      obtain ⟨f, e1, hf, e2⟩ := idxR_mem f4 c
      refine .need (le_line (by omega)) ?_
      refine rows_filter (fun r => decide (¬ r ∈ F) && hangB r f) (fun r hr => ?_) ?_
      · refine Ok.eq (.need (W.lay1 hr) (.need (W.lay f2) ?_))
        refine .bind (Q := fun b => b = (decide (¬ r ∈ F) && hangB r f)) (.ite (fun c => ?_) fun c => ?_) fun b hb => ?_
        · have c2 : ¬ r ∈ F := fun z => by
            rw [memD_iff.mpr z] at c; exact absurd c (by decide)
          refine .bindE e1 (.bindE (hang_eq r f) (.ret ?_))
          rw [decide_eq_true c2]; rfl
        · have c2 : r ∈ F := Classical.byContradiction fun z => c (by rw [memD_no z]; rfl)
          refine .ret ?_
          rw [decide_eq_false (fun z => z c2)]; rfl
        · subst hb
          exact .ite (fun c => .ret (by rw [if_pos c])) fun c => .ret (by rw [if_neg c])
      · dsimp only
        have lG : (D.filter fun r => decide (¬ r ∈ F) && hangB r f).length ≤ D.length := List.length_filter_le ..
        have mG : ∀ r, r ∈ (D.filter fun r => decide (¬ r ∈ F) && hangB r f) ↔ r ∈ D ∧ ¬ r ∈ F ∧ hangB r f = true := fun r => by
          rw [List.mem_filter, Bool.and_eq_true, decide_eq_true_eq]
        refine .need (le_line (by omega)) (.lets (.lets (.ret ⟨⟨?_, ?_, ?_, by dsimp only; omega, ?_, ?_, ?_⟩, by dsimp only; omega⟩)))
        · rw [List.nodup_append]
          exact ⟨f1, (nodup_of_map W.nd).filter _, fun x hx y hy e => ((mG y).mp hy).2.1 (by rw [← e]; exact hx)⟩
        · intro r hr
          rcases List.mem_append.mp hr with q | q
          · exact f2 r q
          · exact ((mG r).mp q).1
        · exact List.mem_append.mpr (.inl f3)
        · dsimp only
          rw [List.length_append]; omega
        · intro r hr
          rcases List.mem_append.mp hr with q | q
          · exact f6 r q
          · obtain ⟨q1, _, q3⟩ := (mG r).mp q
            exact (f6 f hf).trans (hang_conn W q1 (f2 f hf) q3)
        · intro j hj g hg r hr hh
          dsimp only at hj hg ⊢
          by_cases z : (j : Int) < i
          · have lj : j < F.length := by omega
            rw [List.getElem?_append_left lj] at hg
            exact List.mem_append.mpr (.inl (f7 j z g hg r hr hh))
          · have ej : j = i.toNat := by omega
            rw [ej, List.getElem?_append_left (by omega), e2] at hg
            cases hg
            by_cases y : r ∈ F
            · exact List.mem_append.mpr (.inl y)
            · exact List.mem_append.mpr (.inr ((mG r).mpr ⟨hr, y, hh⟩))
  · obtain ⟨F, i⟩ := s
    obtain ⟨f1, f2, f3, f4, f5, f6, f7⟩ := h
    dsimp only at f1 f2 f3 f4 f5 f6 f7 hs ⊢
    have lF : F.length ≤ D.length := nodup_lenG f1 f2
    have cl : ∀ r, r ∈ D → ∀ f, f ∈ F → hangB r f = true → r ∈ F := fun r hr f hf hh => by
      obtain ⟨j, hj⟩ := List.getElem?_of_mem hf
      have lj := (List.getElem?_eq_some_iff.mp hj).1
      exact f7 j (by omega) f hj r hr hh
    refine .need (le_line (by omega)) (.compM (fun r => r.1) (fun r _ => .ret rfl) (.need (by dsimp only; rw [List.length_map]; omega) (.ret ⟨sortT_up _, ?_, fun x => ?_⟩)))
    · refine (sortT_perm _).nodup_iff.mpr ?_
      exact nodup_map_on (fun r hr s hs e => key_one W.nd (f2 r hr) (f2 s hs) e) f1
    · rw [(sortT_perm _).mem_iff]
      constructor
      · intro q
        obtain ⟨r, hr, e⟩ := List.mem_map.mp q
        rw [← e]
        exact ⟨dhas_iff.mpr (List.mem_map.mpr ⟨r, f2 r hr, rfl⟩), f6 r hr⟩
      · rintro ⟨q1, q2⟩
        obtain ⟨r, hr, e⟩ := List.mem_map.mp (dhas_iff.mp q1)
        rcases closed_all W f2 f3 cl q2 with ⟨s, hs, z⟩ | ⟨s, hs, z, nz⟩
        · exact List.mem_map.mpr ⟨s, hs, z⟩
        · have : r ∈ F := cl r hr s hs (hangB_iff.mpr (.inr (.inl (by rw [z, ← e]))))
          exact List.mem_map.mpr ⟨r, this, e⟩
theorem pile_conn {D : Rw} {T : Threads} (h : PW D [] T) {n x : Str} (c : Conn D n x) : ∀ {i}, dget T.pile_of n = some i → dget T.pile_of x = some i := by
  induction c with
  | refl => exact fun h => h
  | @step u v _ e ih =>
    intro i hi
    have hu := ih hi
    obtain ⟨r, hr, nz, w⟩ := e
    obtain ⟨j, s1, s2⟩ := h.s1 r hr
    rcases w with ⟨e1, e2⟩ | ⟨e1, e2⟩
    · rw [e1, s1] at hu
      rw [e2, s2 nz]; exact hu
    · rw [e1, s2 nz] at hu
      rw [e2, s1]; exact hu
theorem Conn.congr {D E : Rw} (p : ∀ r, r ∈ D ↔ r ∈ E) {a b : Str} : Conn D a b ↔ Conn E a b := ⟨fun c => c.mono fun r hr => (p r).mp hr, fun c => c.mono fun r hr => (p r).mpr hr⟩
theorem has_perm {D E : Rw} (p : D.Perm E) (x : Str) : dhas D x = dhas E x := by
  rw [Bool.eq_iff_iff, dhas_iff, dhas_iff]; exact (p.map _).mem_iff
theorem thread_is {D E : Rw} {T : Threads} (h : TH D T) (p : D.Perm E) (lim : D.length ≤ 60) {n : Str} (hn : dhas D n = true) : Ok (m_Threads_thread T n) fun l => IsThr E n l := by
  obtain ⟨a, ha⟩ := dhas_get hn
  obtain ⟨i, hi, _⟩ := h.pw.s1 _ (dget_mem ha)
  have hi : dget T.pile_of n = some i := hi
  obtain ⟨l, hl, hm⟩ := h.pw.p2 n i hi
  obtain ⟨o1, o2, _, _⟩ := h.pw.p3 i l hl
  have ll := h.pw.plen hl
  have ll : l.length ≤ 120 := by
    have : ([] : List Str).length = 0 := rfl
    omega
  unfold m_Threads_thread
  refine .bindE (tsure_ok h hn) (.bindE (dgetR_ok hi) (.bindE (dgetR_ok hl) (.need (le_line (by omega)) ?_)))
  refine .compF (fun x => if dhas D x = true then some x else none) (fun x _ => by rw [h.go]; exact .ite (fun c => .ret (by rw [if_pos c])) fun c => .ret (by rw [if_neg c])) ?_
  dsimp only
  rw [fm_filter (fun x => dhas D x) l]
  have lf : (l.filter fun x => dhas D x).length ≤ D.length := by
    have := nodup_lenG (o1.filter fun x => dhas D x) (ys := D.map (·.1)) fun x hx => dhas_iff.mp (List.mem_filter.mp hx).2
    rw [List.length_map] at this
    exact this
  refine .need (by omega) (.ret ⟨sortT_up _, (sortT_perm _).nodup_iff.mpr (o1.filter _), fun x => ?_⟩)
  rw [(sortT_perm _).mem_iff, List.mem_filter, has_perm p, ← Conn.congr fun r => p.mem_iff]
  constructor
  · rintro ⟨q1, q2⟩
    exact ⟨q2, h.pw.s2 n x i hi (o2 x q1)⟩
  · rintro ⟨q1, q2⟩
    obtain ⟨l2, hl2, hx⟩ := h.pw.p2 x i (pile_conn h.pw q2 hi)
    rw [hl] at hl2; cases hl2
    exact ⟨hx, q1⟩
/-- all threads, by their first names -/
def thsOf (f : Str → List Str) : List Str → List (List Str) → List (List Str)
  | [], L => L
  | x :: S, L => thsOf f S (if f x ∈ L then L else L ++ [f x])
theorem thsOf_app (f : Str → List Str) : ∀ (A B : List Str) (L : List (List Str)), thsOf f (A ++ B) L = thsOf f B (thsOf f A L)
  | [], _, _ => rfl
  | x :: A, B, L => thsOf_app f A B _
theorem thsOf_mem (f : Str → List Str) : ∀ (S : List Str) (L : List (List Str)) (l : List Str), l ∈ thsOf f S L ↔ l ∈ L ∨ ∃ x, x ∈ S ∧ f x = l
  | [], L, l => by simp [thsOf]
  | x :: S, L, l => by
    unfold thsOf
    rw [thsOf_mem f S]
    by_cases c : f x ∈ L
    · rw [if_pos c]
      constructor
      · rintro (q | ⟨y, hy, e⟩)
        · exact .inl q
        · exact .inr ⟨y, by simp [hy], e⟩
      · rintro (q | ⟨y, hy, e⟩)
        · exact .inl q
        · rcases List.mem_cons.mp hy with rfl | hy
          · exact .inl (by rw [← e]; exact c)
          · exact .inr ⟨y, hy, e⟩
    · rw [if_neg c, List.mem_append, List.mem_singleton]
      constructor
      · rintro ((q | q) | ⟨y, hy, e⟩)
        · exact .inl q
        · exact .inr ⟨x, by simp, q.symm⟩
        · exact .inr ⟨y, by simp [hy], e⟩
      · rintro (q | ⟨y, hy, e⟩)
        · exact .inl (.inl q)
        · rcases List.mem_cons.mp hy with rfl | hy
          · exact .inl (.inr e.symm)
          · exact .inr ⟨y, hy, e⟩
theorem thsOf_len (f : Str → List Str) : ∀ (S : List Str) (L : List (List Str)), (thsOf f S L).length ≤ L.length + S.length
  | [], L => Nat.le_refl _
  | x :: S, L => by
    unfold thsOf
    rw [List.length_cons]
    by_cases c : f x ∈ L
    · rw [if_pos c]
      have := thsOf_len f S L
      omega
    · rw [if_neg c]
      have := thsOf_len f S (L ++ [f x])
      rw [List.length_append] at this
      have e : [f x].length = 1 := rfl
      omega
theorem thsOf_snoc (f : Str → List Str) (p : List Str) (x : Str) (L : List (List Str)) : thsOf f (p ++ [x]) L = if f x ∈ thsOf f p L then thsOf f p L else thsOf f p L ++ [f x] := by
  rw [thsOf_app]; rfl
/-- the thread of a name by the law's walk -/
def thrL (E : Rw) (n : Str) : List Str := match m_law_thread E n with
  | .ok l => l
  | _ => []
theorem thrL_ok {E : Rw} (W : WD E) {n : Str} (hn : dhas E n = true) : m_law_thread E n = .ok (thrL E n) ∧ IsThr E n (thrL E n) := by
  obtain ⟨l, e, h⟩ := lthread_ok W hn
  unfold thrL
  rw [e]; exact ⟨rfl, h⟩
theorem thread_eq {D E : Rw} {T : Threads} (h : TH D T) (p : D.Perm E) (W : WD E) {n : Str} (hn : dhas E n = true) : m_Threads_thread T n = .ok (thrL E n) := by
  have l := p.length_eq
  have := W.few
  obtain ⟨m, e, k⟩ := thread_is h p (by omega) (n := n) (by rw [has_perm p]; exact hn)
  rw [e, k.one (thrL_ok W hn).2]
theorem thr_asc {E : Rw} (W : WD E) {n : Str} (hn : dhas E n = true) : ∀ x, x ∈ thrL E n → x ∈ E.map (·.1) := fun x hx => dhas_iff.mp (((thrL_ok W hn).2.mem x).mp hx).1
theorem key_asc {E : Rw} (W : WD E) {x : Str} (h : x ∈ E.map (·.1)) : Asc x := by
  obtain ⟨r, hr, e⟩ := List.mem_map.mp h
  rw [← e]; exact (W.asc r hr).1
def thsL (E : Rw) : List (List Str) := thsOf (thrL E) (sortT (E.map (·.1))) []
theorem lthreads_ok {E : Rw} (W : WD E) : m_law_threads E = .ok (thsL E) := by
  have few := W.few
  have sp := sortT_perm (E.map (·.1))
  have lS : (sortT (E.map (·.1))).length ≤ 60 := by rw [sp.length_eq, List.length_map]; exact few
  have mem : ∀ x, x ∈ sortT (E.map (·.1)) → x ∈ E.map (·.1) := fun x hx => sp.mem_iff.mp hx
  unfold thsL
  refine Ok.eq ?_
  unfold m_law_threads
  refine .need (le_line (by omega)) (.compM (fun r => r.1) (fun r _ => .ret rfl) ?_)
  dsimp only
  refine .need (by rw [List.length_map]; omega) ?_
  have e0 : (E.map fun r => r.1) = E.map (·.1) := rfl
  rw [e0]
  generalize sortT (E.map (·.1)) = S at *
  refine .forI (fun p (L : List (List Str)) => L = thsOf (thrL E) p []) rfl ?_ ?_
  · rintro p x q L ep rfl
    have hx : dhas E x = true := dhas_iff.mpr (mem x (by rw [ep]; simp))
    have hp := pre_lt ep
    have ll := thsOf_len (thrL E) p []
    have ll : (thsOf (thrL E) p []).length ≤ 60 := by
      have : ([] : List (List Str)).length = 0 := rfl
      omega
    have l1 : (Lay.lay (thrL E x) : Bool) = true := strs_lay fun y hy => key_asc W (thr_asc W hx y hy)
    have l2 : (Lay.lay (thsOf (thrL E) p []) : Bool) = true := List.all_eq_true.mpr fun l hl => by
      rcases (thsOf_mem (thrL E) p [] l).mp hl with z | ⟨y, hy, e⟩
      · exact nomatch z
      · rw [← e]
        exact strs_lay fun z hz => key_asc W (thr_asc W (dhas_iff.mpr (mem y (by rw [ep]; simp [hy]))) z hz)
    refine .bindE (thrL_ok W hx).1 (.need l1 (.need l2 (.bind (Q := fun L => L = thsOf (thrL E) (p ++ [x]) []) ?_ fun L hL => .ret hL)))
    rw [thsOf_snoc]
    by_cases c : thrL E x ∈ thsOf (thrL E) p []
    · refine .ifF (by rw [memD_iff.mpr c]; decide) (.ret ?_)
      rw [if_pos c]
    · refine .ifT (by rw [memD_no c]; rfl) (.need (line9 (by omega)) (.ret ?_))
      rw [if_neg c]
  · rintro L rfl
    exact .ret rfl
theorem threads_eq {D E : Rw} {T : Threads} (h : TH D T) (p : D.Perm E) (W : WD E) : m_Threads_threads T = .ok (thsL E) := by
  have few := W.few
  have lD := p.length_eq
  have sp := sortT_perm (E.map (·.1))
  have lS : (sortT (E.map (·.1))).length ≤ 60 := by rw [sp.length_eq, List.length_map]; exact few
  have mem : ∀ x, x ∈ sortT (E.map (·.1)) → dhas E x = true := fun x hx => dhas_iff.mpr (sp.mem_iff.mp hx)
  have eS : sortT (D.map (·.1)) = sortT (E.map (·.1)) := sortT_congr (p.map _)
  unfold thsL
  refine Ok.eq ?_
  unfold m_Threads_threads
  rw [h.go]
  refine .need (by omega) ?_
  rw [eS]
  generalize sortT (E.map (·.1)) = S at *
  have pile : ∀ x, dhas E x = true → ∃ i, dget T.pile_of x = some i := fun x hx => by
    obtain ⟨a, ha⟩ := dhas_get (by rw [has_perm p]; exact hx : dhas D x = true)
    obtain ⟨i, hi, _⟩ := h.pw.s1 _ (dget_mem ha)
    exact ⟨i, hi⟩
  refine .forFI (fun q (s : List (List Str) × List (Int × Bool)) => s.1 = thsOf (thrL E) q [] ∧ s.2.length ≤ q.length ∧ ∀ j, dhas s.2 j = true ↔ ∃ x, x ∈ q ∧ dget T.pile_of x = some j) ⟨rfl, Nat.le_refl _, fun j => ⟨(fun z => by cases z), fun ⟨x, hx, _⟩ => nomatch hx⟩⟩ ?_ ?_
  · rintro q x r ⟨L, t⟩ ep ⟨h1, h2, h3⟩
    have hp := pre_lt ep
    have hxS : x ∈ S := by rw [ep]; simp
    have hx := mem x hxS
    obtain ⟨i, hi⟩ := pile x hx
    dsimp only at h1 h2 h3 ⊢
    have key : dhas t i = true ↔ thrL E x ∈ thsOf (thrL E) q [] := by
      rw [h3, thsOf_mem]
      constructor
      · rintro ⟨y, hy, gy⟩
        have hyE := mem y (by rw [ep]; simp [hy])
        refine .inr ⟨y, hy, ?_⟩
        have c : Conn E y x := (Conn.congr fun r => p.mem_iff).mp (h.pw.s2 y x i gy hi)
        refine IsThr.one (thrL_ok W hyE).2 ⟨(thrL_ok W hx).2.up, (thrL_ok W hx).2.nd, fun z => ?_⟩
        rw [(thrL_ok W hx).2.mem]
        exact ⟨fun ⟨a, b⟩ => ⟨a, c.trans b⟩, fun ⟨a, b⟩ => ⟨a, c.symm.trans b⟩⟩
      · rintro (z | ⟨y, hy, e⟩)
        · exact nomatch z
        · have hyE := mem y (by rw [ep]; simp [hy])
          have : x ∈ thrL E y := by
            rw [e]; exact ((thrL_ok W hx).2.mem x).mpr ⟨hx, .refl _⟩
          have c : Conn E y x := (((thrL_ok W hyE).2.mem x).mp this).2
          obtain ⟨j, hj⟩ := pile y hyE
          have := pile_conn h.pw ((Conn.congr fun r => p.mem_iff).mpr c) hj
          rw [hi] at this
          exact ⟨y, hy, by rw [hj, this]⟩
    refine .bindE (dgetR_ok hi) ?_
    by_cases c : dhas t i = true
    · refine .ifT c (.ret ⟨_, rfl, ?_, by dsimp only; rw [List.length_append]; omega, fun j => ?_⟩)
      · dsimp only
        rw [h1, thsOf_snoc, if_pos (key.mp c)]
      · dsimp only
        rw [h3]
        constructor
        · rintro ⟨y, hy, e⟩
          exact ⟨y, by simp [hy], e⟩
        · rintro ⟨y, hy, e⟩
          rcases List.mem_append.mp hy with z | z
          · exact ⟨y, z, e⟩
          · rw [List.mem_singleton.mp z, hi] at e
            cases e
            exact (h3 i).mp c
    · refine .ifF c (.bindE (dgetR_ok hi) (.need (line9 (by omega)) (.bindE (thread_eq h p W hx) ?_)))
      have ll := thsOf_len (thrL E) q []
      have ll : L.length ≤ 60 := by
        have : ([] : List (List Str)).length = 0 := rfl
        rw [h1]; omega
      have hno : dhas t i = false := by simpa using c
      refine .need (line9 (by omega)) (.ret ⟨_, rfl, ?_, by dsimp only; rw [dput_new hno, List.length_append, List.length_append]; exact Nat.add_le_add_right h2 1, fun j => ?_⟩)
      · dsimp only
        rw [h1, thsOf_snoc, if_neg (fun z => c (key.mpr z))]
      · dsimp only
        rw [dhas_iff, mem_kput, ← dhas_iff, h3]
        constructor
        · rintro (e | ⟨y, hy, e⟩)
          · exact ⟨x, by simp, by rw [e]; exact hi⟩
          · exact ⟨y, by simp [hy], e⟩
        · rintro ⟨y, hy, e⟩
          rcases List.mem_append.mp hy with z | z
          · exact .inr ⟨y, z, e⟩
          · rw [List.mem_singleton.mp z, hi] at e
            cases e
            exact .inl rfl
  · rintro ⟨L, t⟩ ⟨h1, _, _⟩
    exact .ret h1
structure Sm (x : Any) (n d : Nat) : Prop where
  pl : plA x = true
  sh : (pdA x).showable = true
  hd : (pdA x).hasDict = false
  dp : (pdA x).depth ≤ d
  ln : (pdA x).shown.length ≤ n
theorem Sm.up {x : Any} {n m d e : Nat} (h : Sm x n d) (k : n ≤ m) (j : d ≤ e) : Sm x m e := ⟨h.pl, h.sh, h.hd, Nat.le_trans h.dp j, Nat.le_trans h.ln k⟩
theorem Sm.str {s : Str} (h : Asc s) (l : s.length ≤ 40) : Sm (.str s) 402 0 := by
  have h3 := StrLaws.reprText_len s fun c hc => by have := h c hc; omega
  exact ⟨plA_str s, by rw [pdA_str]; rfl, by rw [pdA_str]; rfl, by rw [pdA_str]; exact Nat.zero_le _, by rw [pdA_str]; show (reprText s).length ≤ _; omega⟩
theorem Sm.int {i : Int} (h0 : 0 ≤ i) (h1 : i < 1000) : Sm (.int i) 6 0 := by
  refine ⟨plA_int i, ?_, by rw [pdA_int]; rfl, by rw [pdA_int]; exact Nat.zero_le _, by rw [pdA_int]; exact (num_wd h0 (by omega)).2.1⟩
  rw [pdA_int]
  refine decide_eq_true ?_
  have : i.natAbs.log2 ≤ i.natAbs := Nat.log2_le_self _
  omega
theorem smAll {n d : Nat} : ∀ {xs : List Any}, (∀ x, x ∈ xs → Sm x n d) → plAL xs = true ∧ PyData.showableAll (pdAL xs) = true ∧ PyData.hasDictAll (pdAL xs) = false ∧ PyData.depthAll (pdAL xs) ≤ d ∧ (PyData.shownAll (pdAL xs)).length = xs.length ∧ ((PyData.shownAll (pdAL xs)).map (·.length)).sum ≤ xs.length * n
  | [], _ => by
    rw [plAL, pdAL]
    simp [PyData.showableAll, PyData.hasDictAll, PyData.depthAll, PyData.shownAll]
  | x :: r, h => by
    have hx := h x (by simp)
    obtain ⟨a, b, c, e, f, g⟩ := smAll (n := n) (d := d) (xs := r) fun y hy => h y (List.mem_cons_of_mem _ hy)
    rw [plAL, pdAL]
    simp only [PyData.showableAll, PyData.hasDictAll, PyData.depthAll, PyData.shownAll, hx.pl, hx.sh, hx.hd, a, b, c, List.length_cons, List.map_cons, List.sum_cons]
    have := hx.dp
    have := hx.ln
    refine ⟨rfl, rfl, rfl, by omega, by omega, ?_⟩
    rw [Nat.add_mul]
    omega
theorem Sm.lst {n d : Nat} {xs : List Any} (h : ∀ x, x ∈ xs → Sm x n d) {m : Nat} (hm : xs.length * n + 2 * xs.length + 3 ≤ m) : Sm (.lst xs) m (d + 1) := by
  obtain ⟨a, b, c, e, f, g⟩ := smAll h
  refine ⟨by rw [plA]; exact a, by rw [pdA, PyData.showable]; exact b, by rw [pdA, PyData.hasDict]; exact c, by rw [pdA, PyData.depth]; omega, ?_⟩
  rw [pdA, PyData.shown]
  have := listText_len_le (PyData.shownAll (pdAL xs))
  omega
theorem Sm.lsA {l : List Str} (h : ∀ x, x ∈ l → Asc x ∧ x.length ≤ 40) (hl : l.length ≤ 20) : Sm (lsA l) 8100 1 := by
  refine Sm.lst (n := 402) (d := 0) (fun x hx => ?_) (by rw [List.length_map]; omega)
  obtain ⟨y, hy, rfl⟩ := List.mem_map.mp hx
  obtain ⟨a, b⟩ := h y hy
  exact Sm.str a b
theorem reprA_ok {n d : Nat} {xs : List Any} (h : ∀ x, x ∈ xs → Sm x n d) (hd : d + 1 ≤ 40) (hm : xs.length * n + 2 * xs.length + 3 ≤ 16777216) : reprA xs = .ok (PyData.list (pdAL xs)).shown := by
  have S := Sm.lst h hm
  have e : pdA (.lst xs) = .list (pdAL xs) := by rw [pdA]
  obtain ⟨a, b, c, f, g⟩ := S
  rw [e] at b c f g
  rw [plA] at a
  unfold reprA
  rw [R.need_pos ⟨a, b, c, by omega, le_line g⟩]
theorem names_eq {D E : Rw} {T : Threads} (h : TH D T) (p : D.Perm E) (few : D.length ≤ 60) : m_Threads_names T = .ok (sortT (E.map (·.1))) := by
  unfold m_Threads_names
  rw [h.go, R.need_pos (by omega)]
  exact congrArg R.ok (sortT_congr (p.map _))
structure WS (E : Rw) : Prop extends WD E where
  sh : ∀ r, r ∈ E → r.1.length ≤ 40
  ten : E.length ≤ 20
theorem ws_of22 {ns : List Str} {D : Rw} (g : G22 ns D) : WS D :=
  ⟨⟨g.nd, fun r hr => (g.nm _ (g.sub r hr).1).ne, fun r hr => ⟨(g.nm _ (g.sub r hr).1).asc, (g.sub r hr).2⟩, by have := g.len; omega⟩, fun r hr => by have := (g.nm _ (g.sub r hr).1).len; omega, by have := g.len; omega⟩
/-- lists that are told: names, or lists of names -/
structure Tl (l : List Any) : Prop where
  sm : ∀ x, x ∈ l → Sm x 8100 1
  ly : ∀ x, x ∈ l → plA x = true ∧ (pdA x).canLay0 = true ∧ (pdA x).depth ≤ 2
  is : ∀ x, x ∈ l → (x.is "str" || x.is "list") = true
  few : l.length ≤ 20
theorem tl_names {l : List Str} (h : ∀ x, x ∈ l → Asc x ∧ x.length ≤ 40) (hl : l.length ≤ 20) : Tl (l.map Any.str) := by
  refine ⟨fun x hx => ?_, fun x hx => ?_, fun x hx => ?_, by rw [List.length_map]; exact hl⟩
  · obtain ⟨y, hy, rfl⟩ := List.mem_map.mp hx
    exact (Sm.str (h y hy).1 (h y hy).2).up (by decide) (by decide)
  · obtain ⟨y, hy, rfl⟩ := List.mem_map.mp hx
    obtain ⟨a, b, c⟩ := asc_pl (h y hy).1
    exact ⟨a, b, by omega⟩
  · obtain ⟨y, hy, rfl⟩ := List.mem_map.mp hx
    show ((("str" : String) == "str" || _) || _) = true
    rfl
theorem tl_lists {L : List (List Str)} (h : ∀ l, l ∈ L → (∀ x, x ∈ l → Asc x ∧ x.length ≤ 40) ∧ l.length ≤ 20) (hl : L.length ≤ 20) : Tl (L.map lsA) := by
  refine ⟨fun x hx => ?_, fun x hx => ?_, fun x hx => ?_, by rw [List.length_map]; exact hl⟩
  · obtain ⟨y, hy, rfl⟩ := List.mem_map.mp hx
    exact Sm.lsA (h y hy).1 (h y hy).2
  · obtain ⟨y, hy, rfl⟩ := List.mem_map.mp hx
    exact lsts_lay fun w hw => ((h y hy).1 w hw).1
  · obtain ⟨y, hy, rfl⟩ := List.mem_map.mp hx
    show ((("list" : String) == "str" || _) || (("list" : String) == "list" || _)) = true
    rfl
theorem Tl.isl {l : List Any} (h : Tl l) : m_law_is_list l l = .ok true := by
  obtain ⟨a, b, c⟩ := lst_lay h.ly
  refine Ok.eq ?_
  unfold m_law_is_list
  refine .bindE (eqA_self a b (by omega)) (.ifF (by decide) (.need (le_line (by have := h.few; omega)) (.compM (fun x => x.is "str" || x.is "list") (fun x _ => .ret rfl) (.ret ?_))))
  show (l.map _).all id = true
  rw [List.all_map]; exact List.all_eq_true.mpr fun x hx => h.is x hx
abbrev Hf := List (List Any × Str)
structure HI (p : List Any × Str) (c : Nat) : Prop where
  sm : ∀ x, x ∈ p.1 → Sm x 8100 1
  few : p.1.length ≤ 20 + c
  rp : reprA p.1 = .ok p.2
theorem HI.up {p : List Any × Str} {c d : Nat} (h : HI p c) (k : c ≤ d) : HI p d := ⟨h.sm, by have := h.few; omega, h.rp⟩
def HF (held : Hf) (c n : Nat) : Prop := (∀ p, p ∈ held → HI p c) ∧ held.length ≤ n
theorem HF.up {held : Hf} {c d n m : Nat} (h : HF held c n) (k : c ≤ d) (j : n ≤ m) : HF held d m := ⟨fun p hp => (h.1 p hp).up k, Nat.le_trans h.2 j⟩
theorem repr_sm {l : List Any} (h : ∀ x, x ∈ l → Sm x 8100 1) (hl : l.length ≤ 200) : reprA l = .ok (PyData.list (pdAL l)).shown := reprA_ok h (by decide) (by omega)
theorem push_ok {held : Hf} {c n : Nat} (h : HF held c n) (hn : n ≤ 500) {l : List Any} (t : Tl l) {ρ : Type} {P : ρ → Prop} {k : Hf → R ρ} (hk : ∀ held', HF held' c (n + 1) → held' ≠ [] → Ok (k held') P) : Ok ((reprA l).bind fun s46 => R.need (held.length < sizeLine) <| k (held ++ [(l, s46)])) P := by
  have e := repr_sm t.sm (by have := t.few; omega)
  refine .bindE e (.need (line9 (by have := h.2; omega)) (hk _ ⟨fun p hp => ?_, ?_⟩ (by simp)))
  · rcases List.mem_append.mp hp with q | q
    · exact h.1 p q
    · rw [List.mem_singleton.mp q]
      exact ⟨t.sm, by have := t.few; dsimp only; omega, e⟩
  · rw [List.length_append]; exact Nat.add_le_add_right h.2 1
theorem looked_ok {ns : List Str} {D : Rw} {T : Threads} (h : TH D T) (g : G22 ns D) {w : Int} {n : Str} (hn : w ≠ 0 → w ≠ 1 → dhas D n = true) {held : Hf} {c k : Nat} (hh : HF held c k) (hk : k ≤ 500) : Ok (m_law_looked T D w n held) fun r => r.1 = true ∧ HF r.2 c (k + 1) ∧ r.2 ≠ [] := by
  have W := ws_of22 g
  have lD := g.len
  have pm := List.Perm.refl D
  have ks : ∀ x, x ∈ D.map (·.1) → Asc x ∧ x.length ≤ 40 := fun x hx => by
    obtain ⟨r, hr, e⟩ := List.mem_map.mp hx
    rw [← e]; exact ⟨(W.asc r hr).1, W.sh r hr⟩
  have thr : ∀ x, dhas D x = true → (∀ y, y ∈ thrL D x → Asc y ∧ y.length ≤ 40) ∧ (thrL D x).length ≤ 20 := fun x hx => by
    have t := thr_asc W.toWD hx
    refine ⟨fun y hy => ks y (t y hy), ?_⟩
    have := nodup_lenG (thrL_ok W.toWD hx).2.nd t
    rw [List.length_map] at this
    omega
  unfold m_law_looked
  refine .bind (Q := fun s => s.1 = s.2 ∧ Tl s.2) ?_ fun s ⟨e, t⟩ => ?_
  · refine .ite (fun c0 => ?_) fun c0 => ?_
    · refine .bindE (names_eq h pm (by omega)) (.lets (.need (le_line (by omega)) (.compM (fun r => r.1) (fun r _ => .ret rfl) (.need (by dsimp only; rw [List.length_map]; omega) (.lets (.ret ⟨rfl, ?_⟩))))))
      refine tl_names (fun x hx => ks x ((sortT_perm _).mem_iff.mp hx)) ?_
      rw [(sortT_perm _).length_eq, List.length_map]; omega
    · refine .bind (Q := fun s => s.1 = s.2 ∧ Tl s.2) ?_ fun s hs => .ret hs
      refine .ite (fun c1 => ?_) fun c1 => ?_
      · refine .bindE (threads_eq h pm W.toWD) (.lets (.bindE (lthreads_ok W.toWD) (.lets (.ret ⟨rfl, ?_⟩))))
        refine tl_lists (fun l hl => ?_) ?_
        · rcases (thsOf_mem (thrL D) _ [] l).mp hl with z | ⟨x, hx, e⟩
          · exact nomatch z
          · rw [← e]; exact thr x (dhas_iff.mpr ((sortT_perm _).mem_iff.mp hx))
        · have := thsOf_len (thrL D) (sortT (D.map (·.1))) []
          rw [(sortT_perm _).length_eq, List.length_map] at this
          have z : ([] : List (List Str)).length = 0 := rfl
          unfold thsL; omega
      · have hx := hn (fun e => c0 (decide_eq_true e)) fun e => c1 (decide_eq_true e)
        exact .bindE (thread_eq h pm W.toWD hx) (.lets (.bindE (thrL_ok W.toWD hx).1 (.lets (.ret ⟨rfl, tl_names (thr n hx).1 (thr n hx).2⟩))))
  · rw [e]
    refine .bindE t.isl (.ifF (by decide) ?_)
    exact push_ok hh hk t fun held' h' ne => .ret ⟨rfl, h', ne⟩
theorem ixJ_last {α : Type} {xs : List α} (h : xs ≠ []) : ∃ x, ixJ xs (-1) = .ok (xs.length - 1, x) ∧ xs[xs.length - 1]? = some x := by
  have hp : 0 < xs.length := List.length_pos_iff.mpr h
  have e : ixN xs.length (-1) = some (xs.length - 1) := by
    unfold ixN
    rw [if_neg (by decide), if_pos (by omega)]
    congr 1
    omega
  have g : xs[xs.length - 1]? = some xs[xs.length - 1] := List.getElem?_eq_getElem (by omega)
  refine ⟨_, ?_, g⟩
  unfold ixJ
  rw [e]
  dsimp only
  rw [g]
theorem stands_ok {ns : List Str} {D : Rw} {T : Threads} (h : TH D T) (g : G22 ns D) (w : Int) {held : Hf} {c k : Nat} (hh : HF held c k) (hk : k ≤ 400) (hc : c ≤ 100) : Ok (m_law_stands T D w held) fun r => r.1 = true ∧ HF r.2 (c + 1) (k + 6) := by
  have lD := g.len
  have W := ws_of22 g
  have lay : (Lay.lay D : Bool) = true := g.lay fun r hr => hr
  unfold m_law_stands
  have h01 : (if (decide ((w % 3) = 1)) = true then 1 else 0 : Int) = 0 ∨ (if (decide ((w % 3) = 1)) = true then 1 else 0 : Int) = 1 := by split <;> simp
  generalize (if (decide ((w % 3) = 1)) = true then 1 else 0 : Int) = z at *
  have hz : ∃ n : Nat, ((3 + (z * 3)) : Int).toNat = n ∧ 3 ≤ n ∧ n ≤ 6 := ⟨_, rfl, by omega, by omega⟩
  obtain ⟨n, en, n3, n6⟩ := hz
  rw [en]
  refine .need (by omega) ?_
  refine .forFI (fun p (s : Hf) => HF s c (k + p.length) ∧ (s ≠ [] ∨ p.length = 0 ∨ (p.length = 1 ∧ w % 3 = 2))) ⟨hh, .inr (.inl rfl)⟩ ?_ ?_
  · rintro p x q s ep ⟨hs, hne⟩
    obtain ⟨hx, hp⟩ := rng_pre ep
    refine .lets ?_
    refine .bind (Q := fun b => (b = true ↔ ((w + x) % 3 = 2 ∧ D = []))) (.ite (fun c => .need lay (.need rfl (.ret ?_))) fun c => .ret ?_) fun b hb => .ite (fun c => .ret ⟨_, rfl, hs.up (Nat.le_refl _) (by rw [List.length_append]; omega), ?_⟩) fun c => ?_
    · rw [decide_eq_true_eq]
      exact ⟨fun y => ⟨of_decide_eq_true c, y⟩, fun y => y.2⟩
    · exact ⟨fun y => absurd y Bool.false_ne_true, fun y => absurd (decide_eq_true y.1) c⟩
    · have := (hb.mp c).1
      rcases hne with y | y | ⟨y1, y2⟩
      · exact .inl y
      · exact .inr (.inr ⟨by rw [List.length_append, y]; rfl, by omega⟩)
      · exfalso; omega
    · refine .need lay (.need rfl (.bind (Q := fun nm => D ≠ [] → dhas D nm = true) (.ite (fun c => ?_) fun c => .ret fun y => absurd y fun e => ?_) fun nm hnm => ?_))
      · have hD : D ≠ [] := fun e => by rw [decide_eq_true e] at c; exact absurd c (by decide)
        have hpos : 0 < D.length := List.length_pos_iff.mpr hD
        refine .need (by omega) (.idx (Int.emod_nonneg _ (by omega)) (Int.emod_lt_of_pos _ (by omega)) fun r hr _ => .ret fun _ => dhas_iff.mpr (List.mem_map.mpr ⟨r, hr, rfl⟩))
      · exact c (by rw [decide_eq_false e]; rfl)
      · refine .bind (looked_ok h g (w := (w + x) % 3) (n := nm) (fun y1 y2 => hnm fun e => c (hb.mpr ⟨by omega, e⟩)) hs (by omega)) fun r ⟨e1, e2, e3⟩ => .ifF (by rw [e1]; decide) (.ret ⟨_, rfl, by rw [List.length_append]; exact e2, .inl e3⟩)
  · rintro s ⟨hs, hne⟩
    rw [rngL_len] at hs hne
    have hne : s ≠ [] := by
      rcases hne with y | y | ⟨y, _⟩
      · exact y
      · omega
      · omega
    show Ok (R.bind _ _) _
    refine .bind (Q := fun s => HF s (c + 1) (k + 6)) (.ite (fun _ => ?_) fun _ => .ret (hs.up (by omega) (by omega))) fun s hs => .ret ⟨rfl, hs⟩
    obtain ⟨x, e1, g1⟩ := ixJ_last hne
    have hx := hs.1 x (List.mem_of_getElem? g1)
    have zz : Sm (.str ("zz" : Str)) 8100 1 := (Sm.str (Asc.lit (by decide +kernel)) (by decide +kernel)).up (by decide) (by decide)
    refine Ok.bind2 (Z := fun t => t = (s.length - 1, x)) ⟨_, e1, rfl⟩ ?_
    rintro j y ⟨⟩
    refine .need (line9 (by have := hx.few; omega)) ?_
    have ne2 : s.set (s.length - 1) (x.1 ++ [(Any.str ("zz" : Str))], x.2) ≠ [] := fun e => hne (by
      have := congrArg List.length e
      rw [List.length_set] at this
      exact List.length_eq_zero_iff.mp this)
    obtain ⟨x2, e2, g2⟩ := ixJ_last ne2
    have hp : 0 < s.length := List.length_pos_iff.mpr hne
    rw [List.length_set, List.getElem?_set_self (by omega)] at g2
    have ex : x2 = (x.1 ++ [(Any.str ("zz" : Str))], x.2) := (Option.some.inj g2).symm
    subst ex
    have sm : ∀ a, a ∈ x.1 ++ [(Any.str ("zz" : Str))] → Sm a 8100 1 := fun a ha => by
      rcases List.mem_append.mp ha with q | q
      · exact hx.sm a q
      · rw [List.mem_singleton.mp q]; exact zz
    have ll : (x.1 ++ [(Any.str ("zz" : Str))]).length ≤ 20 + (c + 1) := by
      rw [List.length_append]
      have := hx.few
      show x.1.length + 1 ≤ _
      omega
    have er := repr_sm sm (by omega)
    refine Ok.bind2 (Z := fun t => t = ((s.set (s.length - 1) (x.1 ++ [(Any.str ("zz" : Str))], x.2)).length - 1, (x.1 ++ [(Any.str ("zz" : Str))], x.2))) ⟨_, e2, rfl⟩ ?_
    rintro j y ⟨⟩
    refine .bindE er (.ret ?_)
    dsimp only
    rw [List.length_set, List.set_set]
    refine ⟨fun p hp => ?_, by rw [List.length_set]; have := hs.2; omega⟩
    rcases mem_set hp with q | q
    · exact (hs.1 p q).up (by omega)
    · rw [q]; exact ⟨sm, ll, er⟩
theorem done_ok {ns : List Str} {D : Rw} {T : Threads} (h : TH D T) (g : G22 ns D) (ln : 2 ≤ ns.length) {dr : List Int} (ld : dr.length = 2) : Ok (m_law_done T D ns dr) fun r => r.1 = true ∧ TH r.2.2 r.2.1 ∧ G22 ns r.2.2 := by
  have lD := g.len
  have few := g.few
  unfold m_law_done
  refine .idx (by decide) (by omega) fun x1 _ _ => .need (by omega) (.idx (Int.emod_nonneg _ (by omega)) (Int.emod_lt_of_pos _ (by omega)) fun n hn _ => .need (le_line (by omega)) ?_)
  refine .compF (fun r => if r.1 = n then some r else none) (fun r _ => .ite (fun c => .ret (by rw [if_pos (of_decide_eq_true c)])) fun c => .ret (by rw [if_neg (fun z => c (decide_eq_true z))])) ?_
  dsimp only
  cases hx : dget D n with
  | none =>
    rw [none_at hx]
    have hno : dhas D n = false := by unfold dhas; rw [hx]; rfl
    refine .need rfl (.need rfl (.ifF (by decide) (.idx (by decide) (by omega) fun x37 _ _ => .bind (target_ok g.nm ⟨ln, few⟩ hn x37) fun a ha => .need (line9 (by omega)) ?_)))
    have fin : ∀ T', TH (D ++ [(n, a)]) T' → TH (D ++ [(n, a)]) T' ∧ G22 ns (D ++ [(n, a)]) := fun T' hT => ⟨hT, hT.nd, fun r hr => by
      rcases List.mem_append.mp hr with q | q
      · exact g.sub r q
      · rw [List.mem_singleton.mp q]; exact ⟨hn, ha⟩, g.nm, g.few⟩
    refine .bind (Q := fun b => b = true → a = ("" : Str)) (.ite (fun c => .idx (by decide) (by omega) fun _ _ _ => .ret fun _ => of_decide_eq_true c) fun _ => .ret fun z => absurd z Bool.false_ne_true) fun b hb => .ite (fun c => ?_) fun _ => ?_
    · have ea := hb c
      refine .bind (tadd_ok h (by omega) (n := n) (a := ("" : Str)) hno) fun T' hT => ?_
      rw [← ea] at hT
      obtain ⟨k1, k2⟩ := fin T' hT
      exact .ret ⟨rfl, k1, k2⟩
    · refine .bind (tadd_ok h (by omega) (n := n) (a := a) hno) fun T' hT => ?_
      obtain ⟨k1, k2⟩ := fin T' hT
      exact .ret ⟨rfl, k1, k2⟩
  | some a =>
    have hm : (n, a) ∈ D := dget_mem hx
    rw [(one_at h.nd hx).2]
    have ly : (Lay.lay ([(n, a)] : Rw) : Bool) = true := g.lay fun r hr => by rw [List.mem_singleton.mp hr]; exact hm
    have ne : (!decide (([(n, a)] : Rw) = [])) = true := by rw [decide_eq_false (by simp)]; rfl
    refine .need ly (.need rfl (.ifT ne (.bindE (a := (n, a)) rfl ?_)))
    refine .need (g.lay fun r hr => hr) (.need (by show (Lay.lay n && Lay.lay a) = true; rw [(g.nm n hn).asc.lay, (g.sub _ hm).2.lay]; rfl) (.need hm ?_))
    rw [remP_drop h.nd hx]
    refine .bind (ttake_ok h (by omega) hx) fun T' hT => .ret ⟨rfl, hT, hT.nd, fun r hr => g.sub r (mem_ddrop.mp hr).1, g.nm, g.few⟩
theorem law_ok (s : Script) (_ : s.ns.length ≤ 63) : m_law s = .ok true := by
  refine Ok.eq ?_
  unfold m_law
  refine .bind (draws_ok s (n := 60) (by decide)) fun r1 ⟨l1, hr⟩ => ?_
  have l1 : r1.length = 60 := by omega
  refine .bind (pool_ok l1 hr) fun ns ⟨a1, a2, hn⟩ => ?_
  refine .bindE (a := ⟨[], [], [], [], 0⟩) rfl (.idx (by decide) (by omega) fun x10 _ _ => .need (by omega) ?_)
  refine .forFI (fun p (s : Threads × Rw × Hf) => TH s.2.1 s.1 ∧ G22 ns s.2.1 ∧ HF s.2.2 p.length (6 * p.length)) ⟨th0, ⟨List.nodup_nil, (fun _ h => nomatch h), hn, a2⟩, (fun _ h => nomatch h), Nat.le_refl _⟩ ?_ ?_
  · rintro p k q ⟨T, D, held⟩ ep ⟨h, g, hh⟩
    dsimp only at h g hh ⊢
    obtain ⟨hk, hp⟩ := rng_pre ep
    refine .bind (done_ok h g a1 (cut_two l1 (by omega) (by omega) (by omega))) fun r ⟨e, h1, g1⟩ => .ifF (by rw [e]; decide) ?_
    refine .idx (by omega) (by omega) fun x20 _ _ => .bind (stands_ok h1 g1 x20 hh (by omega) (by omega)) fun r2 ⟨e2, h2⟩ => .ifF (by rw [e2]; decide) (.ret ⟨_, rfl, h1, g1, h2.up (by rw [List.length_append]; exact Nat.le_refl _) (by rw [List.length_append]; show _ ≤ 6 * (p.length + 1); omega)⟩)
  · rintro ⟨T, D, held⟩ ⟨_, _, hh⟩
    dsimp only at hh ⊢
    show Ok (R.need _ _) _
    have hx : (rngL 0 (1 + (x10 % 14)).toNat).length ≤ 14 := by rw [rngL_len]; omega
    refine .need (le_line (by have := hh.2; dsimp only; omega)) (.compM (fun _ => true) (fun p hp => .bindE (hh.1 p hp).rp (.ret (by rw [decide_eq_true rfl]))) (.ret ?_))
    show (held.map _).all id = true
    rw [List.all_map]
    exact List.all_eq_true.mpr fun p hp => rfl
end Lw
namespace Lw
open PySem PySem.Spec PyProof.Rows L2 Ml
def ThreadsA {G : Gx} (a : Addr) (x : Threads) : Asn G := exA fun (dx : Addr) => exA fun (p_goes_to : Addr) => exA fun (p_pile_of : Addr) => exA fun (p_piles : Addr) => exA fun (p_comes_from : Addr) => star [cell a (.ins (G.cl 2) dx [("goes_to", .ref p_goes_to), ("pile_of", .ref p_pile_of), ("piles", .ref p_piles), ("comes_from", .ref p_comes_from), ("made", (.int (x.made)))]), dictA p_goes_to (x.goes_to : (List (Str × Str))), dictA p_pile_of (x.pile_of : (List (Str × Int))), dictE lstA p_piles (x.piles : (List (Int × (List Str)))), dictE dictA p_comes_from (x.comes_from : (List (Str × (List (Str × Bool)))))]
theorem open_Threads {G : Gx} {H : Hp} {a : Addr} {x : Threads} {M : List (Asn G)} (h : Sep H (ThreadsA a x :: M)) : ∃ (dx : Addr) (p_goes_to : Addr) (p_pile_of : Addr) (p_piles : Addr) (p_comes_from : Addr), Sep H ([cell a (.ins (G.cl 2) dx [("goes_to", .ref p_goes_to), ("pile_of", .ref p_pile_of), ("piles", .ref p_piles), ("comes_from", .ref p_comes_from), ("made", (.int (x.made)))]), dictA p_goes_to (x.goes_to : (List (Str × Str))), dictA p_pile_of (x.pile_of : (List (Str × Int))), dictE lstA p_piles (x.piles : (List (Int × (List Str)))), dictE dictA p_comes_from (x.comes_from : (List (Str × (List (Str × Bool)))))] ++ M : List (Asn G)) := by
  unfold ThreadsA at h
  obtain ⟨dx, h⟩ := Sep.ex h
  obtain ⟨p_goes_to, h⟩ := Sep.ex h
  obtain ⟨p_pile_of, h⟩ := Sep.ex h
  obtain ⟨p_piles, h⟩ := Sep.ex h
  obtain ⟨p_comes_from, h⟩ := Sep.ex h
  exact ⟨dx, p_goes_to, p_pile_of, p_piles, p_comes_from, Sep.star1 h⟩
theorem ins_Threads {G : Gx} {H : Hp} {L : List (Asn G)} {i : Nat} {a : Addr} {x : Threads} (h : Sep H L) (e : L[i]? = some (ThreadsA a x)) : ∃ (dx : Addr) (p_goes_to : Addr) (p_pile_of : Addr) (p_piles : Addr) (p_comes_from : Addr), H a = some (.ins (G.cl 2) dx [("goes_to", .ref p_goes_to), ("pile_of", .ref p_pile_of), ("piles", .ref p_piles), ("comes_from", .ref p_comes_from), ("made", (.int (x.made)))]) := by
  obtain ⟨fp, dx, p_goes_to, p_pile_of, p_piles, p_comes_from, f1, f2, _, ⟨_, hO⟩, _⟩ := h.at e
  exact ⟨dx, p_goes_to, p_pile_of, p_piles, p_comes_from, hO⟩
theorem pack_Threads {G : Gx} {H : Hp} {a : Addr} {x : Threads} {M : List (Asn G)} {dx : Addr} {p_goes_to : Addr} {p_pile_of : Addr} {p_piles : Addr} {p_comes_from : Addr} (h : Sep H ([cell a (.ins (G.cl 2) dx [("goes_to", .ref p_goes_to), ("pile_of", .ref p_pile_of), ("piles", .ref p_piles), ("comes_from", .ref p_comes_from), ("made", (.int (x.made)))]), dictA p_goes_to (x.goes_to : (List (Str × Str))), dictA p_pile_of (x.pile_of : (List (Str × Int))), dictE lstA p_piles (x.piles : (List (Int × (List Str)))), dictE dictA p_comes_from (x.comes_from : (List (Str × (List (Str × Bool)))))] ++ M : List (Asn G))) : Sep H (ThreadsA a x :: M) := Sep.exI dx (Sep.exI p_goes_to (Sep.exI p_pile_of (Sep.exI p_piles (Sep.exI p_comes_from (Sep.unstar1 h)))))
structure Txt (G : Gx) (mg : Str → Option Value) where
  a_Threads___init__ : Addr
  fd_Threads___init__ : FuncData
  F_Threads___init__ : Fun G.K "__init__" "Threads.__init__" s_Threads___init__ a_Threads___init__ fd_Threads___init__
  b_Threads___init__ : Binds G.K fd_Threads___init__ ["self"] []
  kp_Threads___init__ : PySem.W.keepIn G.K (.ref a_Threads___init__) = true
  k_Threads : Mk G.K (G.cl 2) a_Threads___init__
  a_Threads_pile : Addr
  fd_Threads_pile : FuncData
  F_Threads_pile : Fun G.K "pile" "Threads.pile" s_Threads_pile a_Threads_pile fd_Threads_pile
  b_Threads_pile : Binds G.K fd_Threads_pile ["self", "name"] []
  kp_Threads_pile : PySem.W.keepIn G.K (.ref a_Threads_pile) = true
  m_Threads_pile : Meth G.K (G.cl 2) "pile" a_Threads_pile
  a_Threads_put_together : Addr
  fd_Threads_put_together : FuncData
  F_Threads_put_together : Fun G.K "put_together" "Threads.put_together" s_Threads_put_together a_Threads_put_together fd_Threads_put_together
  b_Threads_put_together : Binds G.K fd_Threads_put_together ["self", "one", "other"] []
  kp_Threads_put_together : PySem.W.keepIn G.K (.ref a_Threads_put_together) = true
  m_Threads_put_together : Meth G.K (G.cl 2) "put_together" a_Threads_put_together
  a_Threads_hang : Addr
  fd_Threads_hang : FuncData
  F_Threads_hang : Fun G.K "hang" "Threads.hang" s_Threads_hang a_Threads_hang fd_Threads_hang
  b_Threads_hang : Binds G.K fd_Threads_hang ["self", "name"] []
  kp_Threads_hang : PySem.W.keepIn G.K (.ref a_Threads_hang) = true
  m_Threads_hang : Meth G.K (G.cl 2) "hang" a_Threads_hang
  a_Threads_sure : Addr
  fd_Threads_sure : FuncData
  F_Threads_sure : Fun G.K "sure" "Threads.sure" s_Threads_sure a_Threads_sure fd_Threads_sure
  b_Threads_sure : Binds G.K fd_Threads_sure ["self", "name"] []
  kp_Threads_sure : PySem.W.keepIn G.K (.ref a_Threads_sure) = true
  m_Threads_sure : Meth G.K (G.cl 2) "sure" a_Threads_sure
  a_Threads_add : Addr
  fd_Threads_add : FuncData
  F_Threads_add : FunD G.K "add" "Threads.add" (defArgs s_Threads_add) (defBody s_Threads_add) (defScope s_Threads_add) [.str ("" : Str)] [] a_Threads_add fd_Threads_add
  b_Threads_add : Binds G.K fd_Threads_add ["self", "name", "answers"] []
  kp_Threads_add : PySem.W.keepIn G.K (.ref a_Threads_add) = true
  ds_Threads_add_2 : List Value
  bd_Threads_add_2 : Vals (([.str ("" : Str)] : List V).drop 0) ds_Threads_add_2 ∧ Binds G.K fd_Threads_add ["self", "name", "answers"] ds_Threads_add_2
  m_Threads_add : Meth G.K (G.cl 2) "add" a_Threads_add
  a_Threads_take_out : Addr
  fd_Threads_take_out : FuncData
  F_Threads_take_out : Fun G.K "take_out" "Threads.take_out" s_Threads_take_out a_Threads_take_out fd_Threads_take_out
  b_Threads_take_out : Binds G.K fd_Threads_take_out ["self", "name"] []
  kp_Threads_take_out : PySem.W.keepIn G.K (.ref a_Threads_take_out) = true
  m_Threads_take_out : Meth G.K (G.cl 2) "take_out" a_Threads_take_out
  a_Threads_names : Addr
  fd_Threads_names : FuncData
  F_Threads_names : Fun G.K "names" "Threads.names" s_Threads_names a_Threads_names fd_Threads_names
  b_Threads_names : Binds G.K fd_Threads_names ["self"] []
  kp_Threads_names : PySem.W.keepIn G.K (.ref a_Threads_names) = true
  m_Threads_names : Meth G.K (G.cl 2) "names" a_Threads_names
  a_Threads_thread : Addr
  fd_Threads_thread : FuncData
  F_Threads_thread : Fun G.K "thread" "Threads.thread" s_Threads_thread a_Threads_thread fd_Threads_thread
  b_Threads_thread : Binds G.K fd_Threads_thread ["self", "name"] []
  kp_Threads_thread : PySem.W.keepIn G.K (.ref a_Threads_thread) = true
  m_Threads_thread : Meth G.K (G.cl 2) "thread" a_Threads_thread
  a_Threads_threads : Addr
  fd_Threads_threads : FuncData
  F_Threads_threads : Fun G.K "threads" "Threads.threads" s_Threads_threads a_Threads_threads fd_Threads_threads
  b_Threads_threads : Binds G.K fd_Threads_threads ["self"] []
  kp_Threads_threads : PySem.W.keepIn G.K (.ref a_Threads_threads) = true
  m_Threads_threads : Meth G.K (G.cl 2) "threads" a_Threads_threads
  a_law_draws : Addr
  fd_law_draws : FuncData
  F_law_draws : Fun G.K "_law_draws" "_law_draws" s_law_draws a_law_draws fd_law_draws
  b_law_draws : Binds G.K fd_law_draws ["_law_script", "_law_many"] []
  kp_law_draws : PySem.W.keepIn G.K (.ref a_law_draws) = true
  g_law_draws : mg "_law_draws" = some (.ref a_law_draws)
  a_law_name_by : Addr
  fd_law_name_by : FuncData
  F_law_name_by : Fun G.K "_law_name_by" "_law_name_by" s_law_name_by a_law_name_by fd_law_name_by
  b_law_name_by : Binds G.K fd_law_name_by ["_law_shape", "_law_k"] []
  kp_law_name_by : PySem.W.keepIn G.K (.ref a_law_name_by) = true
  g_law_name_by : mg "_law_name_by" = some (.ref a_law_name_by)
  a_law_pool : Addr
  fd_law_pool : FuncData
  F_law_pool : Fun G.K "_law_pool" "_law_pool" s_law_pool a_law_pool fd_law_pool
  b_law_pool : Binds G.K fd_law_pool ["_law_draws_here"] []
  kp_law_pool : PySem.W.keepIn G.K (.ref a_law_pool) = true
  g_law_pool : mg "_law_pool" = some (.ref a_law_pool)
  a_law_hang : Addr
  fd_law_hang : FuncData
  F_law_hang : Fun G.K "_law_hang" "_law_hang" s_law_hang a_law_hang fd_law_hang
  b_law_hang : Binds G.K fd_law_hang ["_law_one", "_law_other"] []
  kp_law_hang : PySem.W.keepIn G.K (.ref a_law_hang) = true
  g_law_hang : mg "_law_hang" = some (.ref a_law_hang)
  a_law_thread : Addr
  fd_law_thread : FuncData
  F_law_thread : Fun G.K "_law_thread" "_law_thread" s_law_thread a_law_thread fd_law_thread
  b_law_thread : Binds G.K fd_law_thread ["_law_rows", "_law_name"] []
  kp_law_thread : PySem.W.keepIn G.K (.ref a_law_thread) = true
  g_law_thread : mg "_law_thread" = some (.ref a_law_thread)
  a_law_threads : Addr
  fd_law_threads : FuncData
  F_law_threads : Fun G.K "_law_threads" "_law_threads" s_law_threads a_law_threads fd_law_threads
  b_law_threads : Binds G.K fd_law_threads ["_law_rows"] []
  kp_law_threads : PySem.W.keepIn G.K (.ref a_law_threads) = true
  g_law_threads : mg "_law_threads" = some (.ref a_law_threads)
  a_law_is_list : Addr
  fd_law_is_list : FuncData
  F_law_is_list : Fun G.K "_law_is_list" "_law_is_list" s_law_is_list a_law_is_list fd_law_is_list
  b_law_is_list : Binds G.K fd_law_is_list ["_law_found", "_law_due"] []
  kp_law_is_list : PySem.W.keepIn G.K (.ref a_law_is_list) = true
  g_law_is_list : mg "_law_is_list" = some (.ref a_law_is_list)
  a_law_target : Addr
  fd_law_target : FuncData
  F_law_target : Fun G.K "_law_target" "_law_target" s_law_target a_law_target fd_law_target
  b_law_target : Binds G.K fd_law_target ["_law_pool_here", "_law_name", "_law_draw"] []
  kp_law_target : PySem.W.keepIn G.K (.ref a_law_target) = true
  g_law_target : mg "_law_target" = some (.ref a_law_target)
  a_law_done : Addr
  fd_law_done : FuncData
  F_law_done : Fun G.K "_law_done" "_law_done" s_law_done a_law_done fd_law_done
  b_law_done : Binds G.K fd_law_done ["_law_threads_here", "_law_rows", "_law_pool_here", "_law_draws_here"] []
  kp_law_done : PySem.W.keepIn G.K (.ref a_law_done) = true
  g_law_done : mg "_law_done" = some (.ref a_law_done)
  a_law_looked : Addr
  fd_law_looked : FuncData
  F_law_looked : Fun G.K "_law_looked" "_law_looked" s_law_looked a_law_looked fd_law_looked
  b_law_looked : Binds G.K fd_law_looked ["_law_threads_here", "_law_rows", "_law_look", "_law_name", "_law_held"] []
  kp_law_looked : PySem.W.keepIn G.K (.ref a_law_looked) = true
  g_law_looked : mg "_law_looked" = some (.ref a_law_looked)
  a_law_stands : Addr
  fd_law_stands : FuncData
  F_law_stands : Fun G.K "_law_stands" "_law_stands" s_law_stands a_law_stands fd_law_stands
  b_law_stands : Binds G.K fd_law_stands ["_law_threads_here", "_law_rows", "_law_draw", "_law_held"] []
  kp_law_stands : PySem.W.keepIn G.K (.ref a_law_stands) = true
  g_law_stands : mg "_law_stands" = some (.ref a_law_stands)
  a_law : Addr
  fd_law : FuncData
  F_law : Fun G.K "law" "law" s_law a_law fd_law
  b_law : Binds G.K fd_law ["_law_script"] []
  kp_law : PySem.W.keepIn G.K (.ref a_law) = true
  g_law : mg "law" = some (.ref a_law)
  g_MailError : mg "MailError" = some (.ref (G.cl 0))
  g_NoName : mg "NoName" = some (.ref (G.cl 1))
  x_NoName : PySem.W.excIn G.K (G.cl 1) [.type "ValueError", .type "Exception", .type "BaseException", .type "object"] "ValueError.__new__" = true
  kp_NoName : PySem.W.keepIn G.K (.ref (G.cl 1)) = true
  r_NoName : ∀ {X : Cx}, X.K = G.K → Raises X (.ref (G.cl 1))
  g_Threads : mg "Threads" = some (.ref (G.cl 2))
  cl_Threads : Cls G.K (G.cl 2)
  n_Threads_goes_to : NoAttr G.K (G.cl 2) "goes_to"
  n_Threads_pile_of : NoAttr G.K (G.cl 2) "pile_of"
  n_Threads_piles : NoAttr G.K (G.cl 2) "piles"
  n_Threads_comes_from : NoAttr G.K (G.cl 2) "comes_from"
  n_Threads_made : NoAttr G.K (G.cl 2) "made"
  fz_Threads : G.fz (G.cl 2) = none
  z_all : mg "all" = none
  z_int : mg "int" = none
  z_isinstance : mg "isinstance" = none
  z_len : mg "len" = none
  z_list : mg "list" = none
  z_range : mg "range" = none
  z_repr : mg "repr" = none
  z_sorted : mg "sorted" = none
  z_str : mg "str" = none
section
variable {P : Program} {w : World} {G : Gx} {mg : Str → Option Value} {base : Heap}
def sp_Threads___init__ (G : Gx) : Sp := fun vs H Q E => ∃ (a_v_self d_v_self : Addr) (F : Asn G), vs = [.ref a_v_self] ∧ Sep H ([cell a_v_self (.ins (G.cl 2) d_v_self []), F] : List (Asn G)) ∧ R.wp (m_Threads___init__ ) (fun r => ∀ H', Sep H' ([ThreadsA a_v_self r, F] : List (Asn G)) → Q .non H') (fun _ => False)
abbrev N_Threads___init__ : List Str := ["self"]
theorem sc_Threads___init__ : FnScope N_Threads___init__ ["self"] (defScope s_Threads___init__) := ⟨rfl, rfl, rfl, by decide +kernel, rfl, by decide +kernel, by decide +kernel⟩
theorem ok_Threads___init__ (T : Txt G mg) : FnOk P w G.K mg base CX0 1 T.a_Threads___init__ T.fd_Threads___init__ ["self"] (sp_Threads___init__ G) := by
  have nd := sc_Threads___init__.nd
  refine Fun.ok T.F_Threads___init__ sc_Threads___init__ (fun vs H Q E h => ?_) (fun cdv A outer s H vs Q E hr h => ?_)
  · obtain ⟨a_v_self, d_v_self, F, rfl, _⟩ := h; rfl
  · obtain ⟨a_v_self, d_v_self, F, rfl, hS, hm⟩ := h
    refine ⟨_, (pss_cons (ps_fld (pv 0) pe_dnewK rfl)
      (pss_cons (ps_fld (pv 0) pe_dnewK rfl)
      (pss_cons (ps_fld (pv 0) pe_dnewK rfl)
      (pss_cons (ps_fld (pv 0) pe_dnewK rfl)
      (pss_one (ps_fld (pv 0) pe_int rfl)))))), ?_⟩
    unfold m_Threads___init__ at hm
    refine f_seq ?_
    refine c_sfld ?_
    refine k_dnew (κ := Str) (β := Str) hS fun p1 H hS => ?_
    refine ev_to (ev_var rfl) ?_
    refine k_sfld (fs' := [("goes_to", (.ref p1))]) hS (i := 1) rfl T.cl_Threads T.n_Threads_goes_to rfl (by show 0 < 1000; decide) (by show decide (G.fz (G.cl 2) = some 1) = false; rw [T.fz_Threads]; rfl) rfl fun H hS => ?_
    have hS : Sep H ([dictA p1 (([] : (List (Str × Str))) : (List (Str × Str))), cell a_v_self (.ins (G.cl 2) d_v_self [("goes_to", (.ref p1))]), F] : List (Asn G)) := hS
    refine sq_nx ?_
    refine f_seq ?_
    refine c_sfld ?_
    refine k_dnew (κ := Str) (β := Int) hS fun p2 H hS => ?_
    refine ev_to (ev_var rfl) ?_
    refine k_sfld (fs' := [("goes_to", (.ref p1)), ("pile_of", (.ref p2))]) hS (i := 2) rfl T.cl_Threads T.n_Threads_pile_of rfl (by show 1 < 1000; decide) (by show decide (G.fz (G.cl 2) = some 2) = false; rw [T.fz_Threads]; rfl) rfl fun H hS => ?_
    have hS : Sep H ([dictA p2 (([] : (List (Str × Int))) : (List (Str × Int))), dictA p1 (([] : (List (Str × Str))) : (List (Str × Str))), cell a_v_self (.ins (G.cl 2) d_v_self [("goes_to", (.ref p1)), ("pile_of", (.ref p2))]), F] : List (Asn G)) := hS
    refine sq_nx ?_
    refine f_seq ?_
    refine c_sfld ?_
    refine k_dnewE (κ := Int) (β := (List Str)) (E := lstA) hS fun p3 H hS => ?_
    refine ev_to (ev_var rfl) ?_
    refine k_sfld (fs' := [("goes_to", (.ref p1)), ("pile_of", (.ref p2)), ("piles", (.ref p3))]) hS (i := 3) rfl T.cl_Threads T.n_Threads_piles rfl (by show 2 < 1000; decide) (by show decide (G.fz (G.cl 2) = some 3) = false; rw [T.fz_Threads]; rfl) rfl fun H hS => ?_
    have hS : Sep H ([dictE lstA p3 (([] : (List (Int × (List Str)))) : (List (Int × (List Str)))), dictA p2 (([] : (List (Str × Int))) : (List (Str × Int))), dictA p1 (([] : (List (Str × Str))) : (List (Str × Str))), cell a_v_self (.ins (G.cl 2) d_v_self [("goes_to", (.ref p1)), ("pile_of", (.ref p2)), ("piles", (.ref p3))]), F] : List (Asn G)) := hS
    refine sq_nx ?_
    refine f_seq ?_
    refine c_sfld ?_
    refine k_dnewE (κ := Str) (β := (List (Str × Bool))) (E := dictA) hS fun p4 H hS => ?_
    refine ev_to (ev_var rfl) ?_
    refine k_sfld (fs' := [("goes_to", (.ref p1)), ("pile_of", (.ref p2)), ("piles", (.ref p3)), ("comes_from", (.ref p4))]) hS (i := 4) rfl T.cl_Threads T.n_Threads_comes_from rfl (by show 3 < 1000; decide) (by show decide (G.fz (G.cl 2) = some 4) = false; rw [T.fz_Threads]; rfl) rfl fun H hS => ?_
    have hS : Sep H ([dictE dictA p4 (([] : (List (Str × (List (Str × Bool))))) : (List (Str × (List (Str × Bool))))), dictE lstA p3 (([] : (List (Int × (List Str)))) : (List (Int × (List Str)))), dictA p2 (([] : (List (Str × Int))) : (List (Str × Int))), dictA p1 (([] : (List (Str × Str))) : (List (Str × Str))), cell a_v_self (.ins (G.cl 2) d_v_self [("goes_to", (.ref p1)), ("pile_of", (.ref p2)), ("piles", (.ref p3)), ("comes_from", (.ref p4))]), F] : List (Asn G)) := hS
    refine sq_nx ?_
    refine c_sfld ?_
    refine ev_to ev_c ?_
    refine ev_to (ev_var rfl) ?_
    refine k_sfld (fs' := [("goes_to", (.ref p1)), ("pile_of", (.ref p2)), ("piles", (.ref p3)), ("comes_from", (.ref p4)), ("made", (.int (0)))]) hS (i := 4) rfl T.cl_Threads T.n_Threads_made rfl (by show 4 < 1000; decide) (by show decide (G.fz (G.cl 2) = some 5) = false; rw [T.fz_Threads]; rfl) rfl fun H hS => ?_
    have hS : Sep H ([dictE dictA p4 (([] : (List (Str × (List (Str × Bool))))) : (List (Str × (List (Str × Bool))))), dictE lstA p3 (([] : (List (Int × (List Str)))) : (List (Int × (List Str)))), dictA p2 (([] : (List (Str × Int))) : (List (Str × Int))), dictA p1 (([] : (List (Str × Str))) : (List (Str × Str))), cell a_v_self (.ins (G.cl 2) d_v_self [("goes_to", (.ref p1)), ("pile_of", (.ref p2)), ("piles", (.ref p3)), ("comes_from", (.ref p4)), ("made", (.int (0)))]), F] : List (Asn G)) := hS
    have hS : Sep H (ThreadsA a_v_self (⟨([] : (List (Str × Str))), ([] : (List (Str × Int))), ([] : (List (Int × (List Str)))), ([] : (List (Str × (List (Str × Bool))))), 0⟩ : Threads) :: [F] : List (Asn G)) := pack_Threads (hS.sel [4, 3, 2, 1, 0, 5] (by decide) rfl)
    exact hm _ (hS.sel [0, 1] (by decide) rfl)
def sp_Threads_pile (G : Gx) : Sp := fun vs H Q E => ∃ (a_v_self : Addr) (v_self : Threads) (v_name : Str) (F : Asn G), vs = [.ref a_v_self, (.str (v_name))] ∧ Sep H ([ThreadsA a_v_self v_self, F] : List (Asn G)) ∧ R.wp (m_Threads_pile v_self v_name) (fun r => ∀ H', Sep H' ([ThreadsA a_v_self r.2, F] : List (Asn G)) → Q (.int (r.1)) H') (fun _ => False)
abbrev N_Threads_pile : List Str := ["self", "name"]
theorem sc_Threads_pile : FnScope N_Threads_pile ["self", "name"] (defScope s_Threads_pile) := ⟨rfl, rfl, rfl, by decide +kernel, rfl, by decide +kernel, by decide +kernel⟩
theorem ok_Threads_pile (T : Txt G mg) : FnOk P w G.K mg base CX0 1 T.a_Threads_pile T.fd_Threads_pile ["self", "name"] (sp_Threads_pile G) := by
  have nd := sc_Threads_pile.nd
  refine Fun.ok T.F_Threads_pile sc_Threads_pile (fun vs H Q E h => ?_) (fun cdv A outer s H vs Q E hr h => ?_)
  · obtain ⟨a_v_self, v_self, v_name, F, rfl, _⟩ := h; rfl
  · obtain ⟨a_v_self, v_self, v_name, F, rfl, hS, hm⟩ := h
    refine ⟨_, (pss_cons (ps_if (pt_cmp (pc_dnotin (hu_of hr) (pv 1) (pe_fld (pv 0) rfl))) (pss_cons (ps_fldaug (pv 0) pe_int ip_add)
      (pss_cons (ps_asg (pe_fld (pv 0) rfl) (pg_sub (pe_fld (pv 0) rfl) (pv 1) (set_dict (hu_of hr))))
      (pss_one (ps_asg (pe_fz (pe_lst (pa_cons (pv 1) pa_nil))) (pg_sub (pe_fld (pv 0) rfl) (pe_fld (pv 0) rfl) (set_dict (hu_of hr))))))) pss_nil)
      (pss_one (ps_ret (pe_dget (hu_of hr) (pe_fld (pv 0) rfl) (pv 1) (fun _ _ => rfl))))), ?_⟩
    unfold m_Threads_pile at hm
    have hS : Sep H (ThreadsA a_v_self v_self :: [F] : List (Asn G)) := hS.sel [0, 1] (by decide) rfl
    obtain ⟨dx1, p2, p3, p4, p5, hS⟩ := open_Threads hS
    have hS : Sep H ([cell a_v_self (.ins (G.cl 2) dx1 [("goes_to", (.ref p2)), ("pile_of", (.ref p3)), ("piles", (.ref p4)), ("comes_from", (.ref p5)), ("made", (.int (v_self.made)))]), dictA p2 (v_self.goes_to : (List (Str × Str))), dictA p3 (v_self.pile_of : (List (Str × Int))), dictE lstA p4 (v_self.piles : (List (Int × (List Str)))), dictE dictA p5 (v_self.comes_from : (List (Str × (List (Str × Bool))))), F] : List (Asn G)) := hS
    refine f_seq ?_
    refine f_if ?_
    refine et_to (et_B (ev_dnotin hS (i := 2) (k := v_name) rfl (ev_var rfl) (ev_fld (ev_var rfl) (hS.getCell (i := 0) rfl) T.cl_Threads T.n_Threads_pile_of rfl))) ?_
    refine ifK_J (τ := (List (Str × Int)) × (List (Int × (List Str))) × Int) (fun (s6 : (List (Str × Int)) × (List (Int × (List Str))) × Int) (σ : L2.St) (H : Hp) => σ = [some (.ref a_v_self), some (.str (v_name))] ∧ Sep H ([cell a_v_self (.ins (G.cl 2) dx1 [("goes_to", (.ref p2)), ("pile_of", (.ref p3)), ("piles", (.ref p4)), ("comes_from", (.ref p5)), ("made", (.int (s6.2.2)))]), dictA p2 (v_self.goes_to : (List (Str × Str))), dictA p3 (s6.1 : (List (Str × Int))), dictE lstA p4 (s6.2.1 : (List (Int × (List Str)))), dictE dictA p5 (v_self.comes_from : (List (Str × (List (Str × Bool))))), F] : List (Asn G))) hm (fun hb q hm nx => ?_) (fun hb q hm nx => ?_) (fun s6 σ H hm hI => ?_)
    ·
      refine f_seq ?_
      refine c_fldaug ?_
      refine ev_to (ev_var rfl) ?_
      refine ⟨_, _, _, _, _, rfl, hS.getCell (i := 0) rfl, T.cl_Threads, T.n_Threads_made, rfl, ?_⟩
      refine ev_to ev_c ?_
      refine ⟨_, _, rfl, rfl, ?_⟩
      refine k_fldaug2 hS (i := 0) rfl (by show 5 < 1000; decide) (by show decide (G.fz (G.cl 2) = some 5) = false; rw [T.fz_Threads]; rfl) rfl fun H hS => ?_
      have hS : Sep H ([cell a_v_self (.ins (G.cl 2) dx1 [("goes_to", (.ref p2)), ("pile_of", (.ref p3)), ("piles", (.ref p4)), ("comes_from", (.ref p5)), ("made", (.int (v_self.made + 1)))]), dictA p2 (v_self.goes_to : (List (Str × Str))), dictA p3 (v_self.pile_of : (List (Str × Int))), dictE lstA p4 (v_self.piles : (List (Int × (List Str)))), dictE dictA p5 (v_self.comes_from : (List (Str × (List (Str × Bool))))), F] : List (Asn G)) := hS
      refine sq_nx ?_
      refine f_seq ?_
      refine c_asgS ?_
      refine ev_to (ev_fld (ev_var rfl) (hS.getCell (i := 0) rfl) T.cl_Threads T.n_Threads_made rfl) ?_
      refine ev_to (ev_fld (ev_var rfl) (hS.getCell (i := 0) rfl) T.cl_Threads T.n_Threads_pile_of rfl) ?_
      refine ev_to (ev_var rfl) ?_
      obtain ⟨h7, hm⟩ := R.wp_need hm
      refine k_setD (k := v_name) (y := v_self.made + 1) hS (i := 2) rfl rfl h7 rfl fun H hS => ?_
      have hS : Sep H ([cell a_v_self (.ins (G.cl 2) dx1 [("goes_to", (.ref p2)), ("pile_of", (.ref p3)), ("piles", (.ref p4)), ("comes_from", (.ref p5)), ("made", (.int (v_self.made + 1)))]), dictA p2 (v_self.goes_to : (List (Str × Str))), dictA p3 (dput v_self.pile_of v_name (v_self.made + 1) : (List (Str × Int))), dictE lstA p4 (v_self.piles : (List (Int × (List Str)))), dictE dictA p5 (v_self.comes_from : (List (Str × (List (Str × Bool))))), F] : List (Asn G)) := hS
      refine sq_nx ?_
      refine c_asgS ?_
      refine c_fz ?_
      refine c_lst ?_
      refine ea_to (ea_cons (ev_var rfl) ea_nil) ?_
      refine k_lst (α := Str) (vs := [(.str (v_name))]) (xs := [v_name]) hS ⟨rfl, True.intro⟩ (by show 1 ≤ sizeLine; decide) fun p8 H hS => ?_
      refine fz_no ?_
      refine ev_to (ev_fld (ev_var rfl) (hS.getCell (i := 1) rfl) T.cl_Threads T.n_Threads_piles rfl) ?_
      refine ev_to (ev_fld (ev_var rfl) (hS.getCell (i := 1) rfl) T.cl_Threads T.n_Threads_made rfl) ?_
      obtain ⟨h9, hm⟩ := R.wp_need hm
      obtain ⟨h10, hm⟩ := R.wp_need hm
      refine k_newE' (k := v_self.made + 1) (hS.sel [4, 0, 1, 2, 3, 5, 6] (by decide) rfl : Sep H (dictE lstA p4 (v_self.piles : (List (Int × (List Str)))) :: lstA p8 ([v_name] : (List Str)) :: [cell a_v_self (.ins (G.cl 2) dx1 [("goes_to", (.ref p2)), ("pile_of", (.ref p3)), ("piles", (.ref p4)), ("comes_from", (.ref p5)), ("made", (.int (v_self.made + 1)))]), dictA p2 (v_self.goes_to : (List (Str × Str))), dictA p3 (dput v_self.pile_of v_name (v_self.made + 1) : (List (Str × Int))), dictE dictA p5 (v_self.comes_from : (List (Str × (List (Str × Bool))))), F] : List (Asn G))) h10 h9 fun H hS => ?_
      have hS : Sep H ([dictE lstA p4 (v_self.piles ++ [(v_self.made + 1, [v_name])] : (List (Int × (List Str)))), cell a_v_self (.ins (G.cl 2) dx1 [("goes_to", (.ref p2)), ("pile_of", (.ref p3)), ("piles", (.ref p4)), ("comes_from", (.ref p5)), ("made", (.int (v_self.made + 1)))]), dictA p2 (v_self.goes_to : (List (Str × Str))), dictA p3 (dput v_self.pile_of v_name (v_self.made + 1) : (List (Str × Int))), dictE dictA p5 (v_self.comes_from : (List (Str × (List (Str × Bool))))), F] : List (Asn G)) := hS
      exact nx _ _ _ hm ⟨rfl, hS.sel [1, 2, 3, 0, 4, 5] (by decide) rfl⟩
    ·
      refine st_nx ?_
      exact nx _ _ _ hm ⟨rfl, hS.sel [0, 1, 2, 3, 4, 5] (by decide) rfl⟩
    · obtain ⟨rfl, hS⟩ := hI
      refine sq_nx ?_
      refine c_ret ?_
      obtain ⟨y11, hy11, hm⟩ := wp_dget hm
      obtain ⟨v12, g13, hv14⟩ := dget_some hS (i := 2) rfl hy11
      have hv14 : v12 = (.int (y11)) := hv14
      subst hv14
      refine ev_to (ev_dget (y := y11) hS (i := 2) rfl (ev_fld (ev_var rfl) (hS.getCell (i := 0) rfl) T.cl_Threads T.n_Threads_pile_of rfl) (ev_var rfl) g13) ?_
      have hS : Sep H (ThreadsA a_v_self (⟨v_self.goes_to, s6.1, s6.2.1, v_self.comes_from, s6.2.2⟩ : Threads) :: [F] : List (Asn G)) := pack_Threads (hS.sel [0, 1, 2, 3, 4, 5] (by decide) rfl)
      exact hm _ (hS.sel [0, 1] (by decide) rfl)
def sp_Threads_put_together (G : Gx) : Sp := fun vs H Q E => ∃ (a_v_self : Addr) (v_self : Threads) (v_one : Int) (v_other : Int) (F : Asn G), vs = [.ref a_v_self, (.int (v_one)), (.int (v_other))] ∧ Sep H ([ThreadsA a_v_self v_self, F] : List (Asn G)) ∧ R.wp (m_Threads_put_together v_self v_one v_other) (fun r => ∀ H', Sep H' ([ThreadsA a_v_self r, F] : List (Asn G)) → Q .non H') (fun _ => False)
abbrev N_Threads_put_together : List Str := ["self", "one", "other", "moved", "name"]
theorem sc_Threads_put_together : FnScope N_Threads_put_together ["self", "one", "other"] (defScope s_Threads_put_together) := ⟨rfl, rfl, rfl, by decide +kernel, rfl, by decide +kernel, by decide +kernel⟩
theorem ok_Threads_put_together (T : Txt G mg) : FnOk P w G.K mg base CX0 1 T.a_Threads_put_together T.fd_Threads_put_together ["self", "one", "other"] (sp_Threads_put_together G) := by
  have nd := sc_Threads_put_together.nd
  refine Fun.ok T.F_Threads_put_together sc_Threads_put_together (fun vs H Q E h => ?_) (fun cdv A outer s H vs Q E hr h => ?_)
  · obtain ⟨a_v_self, v_self, v_one, v_other, F, rfl, _⟩ := h; rfl
  · obtain ⟨a_v_self, v_self, v_one, v_other, F, rfl, hS, hm⟩ := h
    refine ⟨_, (pss_cons (ps_if (pt_cmpR op_eq (pv 1) (pv 2) (nomark _)) (pss_one ps_retN) pss_nil)
      (pss_cons (ps_if (pt_cmpR op_lt (pe_callB (lenSqK G.K) (by rfl) T.z_len PySem.boot_len (pa_cons (pe_fz (pe_dget (hu_of hr) (pe_fld (pv 0) rfl) (pv 1) (fun _ _ => rfl))) pa_nil)) (pe_callB (lenSqK G.K) (by rfl) T.z_len PySem.boot_len (pa_cons (pe_fz (pe_dget (hu_of hr) (pe_fld (pv 0) rfl) (pv 2) (fun _ _ => rfl))) pa_nil)) (nomark _)) (pss_one (ps_par (i := 1) (j := 2) rfl nd rfl rfl (by decide) rfl rfl (pa_cons (pv 2) (pa_cons (pv 1) pa_nil)) rfl)) pss_nil)
      (pss_cons (ps_set (i := 3) nd rfl (Or.inl rfl) (pe_fz (pe_dpop1 (pe_fld (pv 0) rfl) (pv 2) m1)))
      (pss_cons (ps_for PassesOwn.never rfl (pi_listK G.K (pe_fz (pv 3))) (pg_name (i := 4) nd rfl (Or.inl rfl)) (pss_one (ps_asg (pv 1) (pg_sub (pe_fld (pv 0) rfl) (pv 4) (set_dict (hu_of hr))))))
      (pss_one (ps_daug (hu_of hr) (pe_fld (pv 0) rfl) (pv 1) (pe_fz (pv 3)) iop_ext (fun _ _ _ => rfl))))))), ?_⟩
    unfold m_Threads_put_together at hm
    have hS : Sep H (ThreadsA a_v_self v_self :: [F] : List (Asn G)) := hS.sel [0, 1] (by decide) rfl
    obtain ⟨dx1, p2, p3, p4, p5, hS⟩ := open_Threads hS
    have hS : Sep H ([cell a_v_self (.ins (G.cl 2) dx1 [("goes_to", (.ref p2)), ("pile_of", (.ref p3)), ("piles", (.ref p4)), ("comes_from", (.ref p5)), ("made", (.int (v_self.made)))]), dictA p2 (v_self.goes_to : (List (Str × Str))), dictA p3 (v_self.pile_of : (List (Str × Int))), dictE lstA p4 (v_self.piles : (List (Int × (List Str)))), dictE dictA p5 (v_self.comes_from : (List (Str × (List (Str × Bool))))), F] : List (Asn G)) := hS
    refine f_seq ?_
    refine f_if ?_
    refine et_to (et_test (ev_eqI (ev_var rfl) (ev_var rfl))) ?_
    refine ifK_2 (fun hb6 => ?_) (fun hb6 => ?_)
    · have hm := R.wp_ifY hm hb6
      refine c_retN ?_
      have hS : Sep H (ThreadsA a_v_self v_self :: [F] : List (Asn G)) := pack_Threads (hS.sel [0, 1, 2, 3, 4, 5] (by decide) rfl)
      exact hm _ (hS.sel [0, 1] (by decide) rfl)
    · have hm := R.wp_ifN hm (by first | (rw [hb6]; decide) | simpa using hb6)
      refine st_nx ?_
      refine sq_nx ?_
      refine f_seq ?_
      refine f_if ?_
      refine f_test ?_
      refine c_op ?_
      refine c_cb ?_
      refine c_cons ?_
      refine c_fz ?_
      refine c_dget ?_
      refine ev_to (ev_fld (ev_var rfl) (hS.getCell (i := 0) rfl) T.cl_Threads T.n_Threads_piles rfl) ?_
      refine k_dget1 ?_
      refine ev_to (ev_var rfl) ?_
      obtain ⟨x7, h8, hm⟩ := wp_dgetX hm
      refine k_dgetE (y := (x7 : (List Str))) (hS.sel [3, 0, 1, 2, 4, 5] (by decide) rfl : Sep _ (dictE lstA p4 (v_self.piles : (List (Int × (List Str)))) :: [cell a_v_self (.ins (G.cl 2) dx1 [("goes_to", (.ref p2)), ("pile_of", (.ref p3)), ("piles", (.ref p4)), ("comes_from", (.ref p5)), ("made", (.int (v_self.made)))]), dictA p2 (v_self.goes_to : (List (Str × Str))), dictA p3 (v_self.pile_of : (List (Str × Int))), dictE dictA p5 (v_self.comes_from : (List (Str × (List (Str × Bool))))), F] : List (Asn G))) h8 fun ps9 p10 j11 hl12 hj13 hp14 hS => ?_
      have hS : Sep H ([lstA p10 (x7 : (List Str)), dictXH id lstA p4 ps9 (v_self.piles : (List (Int × (List Str)))) j11, cell a_v_self (.ins (G.cl 2) dx1 [("goes_to", (.ref p2)), ("pile_of", (.ref p3)), ("piles", (.ref p4)), ("comes_from", (.ref p5)), ("made", (.int (v_self.made)))]), dictA p2 (v_self.goes_to : (List (Str × Str))), dictA p3 (v_self.pile_of : (List (Str × Int))), dictE dictA p5 (v_self.comes_from : (List (Str × (List (Str × Bool))))), F] : List (Asn G)) := hS
      refine fz_no ?_
      refine c_nil ?_
      refine k_lenG (hS.sq (i := 0) rfl) ?_
      have hS : Sep H ([dictE lstA p4 (v_self.piles : (List (Int × (List Str)))), cell a_v_self (.ins (G.cl 2) dx1 [("goes_to", (.ref p2)), ("pile_of", (.ref p3)), ("piles", (.ref p4)), ("comes_from", (.ref p5)), ("made", (.int (v_self.made)))]), dictA p2 (v_self.goes_to : (List (Str × Str))), dictA p3 (v_self.pile_of : (List (Str × Int))), dictE dictA p5 (v_self.comes_from : (List (Str × (List (Str × Bool))))), F] : List (Asn G)) := unfocDE0 hl12 hj13 hp14 (hS.sel [0, 1, 2, 3, 4, 5, 6] (by decide) rfl)
      refine c_cb ?_
      refine c_cons ?_
      refine c_fz ?_
      refine c_dget ?_
      refine ev_to (ev_fld (ev_var rfl) (hS.getCell (i := 1) rfl) T.cl_Threads T.n_Threads_piles rfl) ?_
      refine k_dget1 ?_
      refine ev_to (ev_var rfl) ?_
      obtain ⟨x15, h16, hm⟩ := wp_dgetX hm
      refine k_dgetE (y := (x15 : (List Str))) (hS.sel [0, 1, 2, 3, 4, 5] (by decide) rfl : Sep _ (dictE lstA p4 (v_self.piles : (List (Int × (List Str)))) :: [cell a_v_self (.ins (G.cl 2) dx1 [("goes_to", (.ref p2)), ("pile_of", (.ref p3)), ("piles", (.ref p4)), ("comes_from", (.ref p5)), ("made", (.int (v_self.made)))]), dictA p2 (v_self.goes_to : (List (Str × Str))), dictA p3 (v_self.pile_of : (List (Str × Int))), dictE dictA p5 (v_self.comes_from : (List (Str × (List (Str × Bool))))), F] : List (Asn G))) h16 fun ps17 p18 j19 hl20 hj21 hp22 hS => ?_
      have hS : Sep H ([lstA p18 (x15 : (List Str)), dictXH id lstA p4 ps17 (v_self.piles : (List (Int × (List Str)))) j19, cell a_v_self (.ins (G.cl 2) dx1 [("goes_to", (.ref p2)), ("pile_of", (.ref p3)), ("piles", (.ref p4)), ("comes_from", (.ref p5)), ("made", (.int (v_self.made)))]), dictA p2 (v_self.goes_to : (List (Str × Str))), dictA p3 (v_self.pile_of : (List (Str × Int))), dictE dictA p5 (v_self.comes_from : (List (Str × (List (Str × Bool))))), F] : List (Asn G)) := hS
      refine fz_no ?_
      refine c_nil ?_
      refine k_lenG (hS.sq (i := 0) rfl) ?_
      have hS : Sep H ([dictE lstA p4 (v_self.piles : (List (Int × (List Str)))), cell a_v_self (.ins (G.cl 2) dx1 [("goes_to", (.ref p2)), ("pile_of", (.ref p3)), ("piles", (.ref p4)), ("comes_from", (.ref p5)), ("made", (.int (v_self.made)))]), dictA p2 (v_self.goes_to : (List (Str × Str))), dictA p3 (v_self.pile_of : (List (Str × Int))), dictE dictA p5 (v_self.comes_from : (List (Str × (List (Str × Bool))))), F] : List (Asn G)) := unfocDE0 hl20 hj21 hp22 (hS.sel [0, 1, 2, 3, 4, 5, 6] (by decide) rfl)
      refine ev_op2 (ev_i0 ev_c ev_c) ?_
      refine f_bl ?_
      refine ifK_J (τ := Int × Int) (fun (s23 : Int × Int) (σ : L2.St) (H : Hp) => σ = [some (.ref a_v_self), some (.int (s23.1)), some (.int (s23.2)), none, none] ∧ Sep H ([dictE lstA p4 (v_self.piles : (List (Int × (List Str)))), cell a_v_self (.ins (G.cl 2) dx1 [("goes_to", (.ref p2)), ("pile_of", (.ref p3)), ("piles", (.ref p4)), ("comes_from", (.ref p5)), ("made", (.int (v_self.made)))]), dictA p2 (v_self.goes_to : (List (Str × Str))), dictA p3 (v_self.pile_of : (List (Str × Int))), dictE dictA p5 (v_self.comes_from : (List (Str × (List (Str × Bool))))), F] : List (Asn G))) hm (fun hb q hm nx => ?_) (fun hb q hm nx => ?_) (fun s23 σ H hm hI => ?_)
      ·
        refine ea_to (ea_cons (ev_var rfl) (ea_cons (ev_var rfl) ea_nil)) ?_
        refine ⟨_, _, rfl, ?_⟩
        refine c_set (σ' := [some (.ref a_v_self), some (.int (v_other)), some (.int (v_one)), none, none]) rfl ?_
        exact nx _ _ _ hm ⟨rfl, hS.sel [0, 1, 2, 3, 4, 5] (by decide) rfl⟩
      ·
        refine st_nx ?_
        exact nx _ _ _ hm ⟨rfl, hS.sel [0, 1, 2, 3, 4, 5] (by decide) rfl⟩
      · obtain ⟨rfl, hS⟩ := hI
        refine sq_nx ?_
        refine f_seq ?_
        refine c_asg ?_
        refine c_fz ?_
        refine c_dpop1 ?_
        refine ev_to (ev_fld (ev_var rfl) (hS.getCell (i := 1) rfl) T.cl_Threads T.n_Threads_piles rfl) ?_
        refine k_pop1a (isD_Ei hS (i := 0) rfl) ?_
        refine ev_to (ev_var rfl) ?_
        obtain ⟨y24, hy24, hm⟩ := wp_dgetX hm
        refine k_pop1E (hS.sel [0, 1, 2, 3, 4, 5] (by decide) rfl : Sep _ (dictE lstA p4 (v_self.piles : (List (Int × (List Str)))) :: [cell a_v_self (.ins (G.cl 2) dx1 [("goes_to", (.ref p2)), ("pile_of", (.ref p3)), ("piles", (.ref p4)), ("comes_from", (.ref p5)), ("made", (.int (v_self.made)))]), dictA p2 (v_self.goes_to : (List (Str × Str))), dictA p3 (v_self.pile_of : (List (Str × Int))), dictE dictA p5 (v_self.comes_from : (List (Str × (List (Str × Bool))))), F] : List (Asn G))) hy24 fun v25 H hS => ?_
        have hS : Sep H ([lstA v25 (y24 : (List Str)), dictE lstA p4 (ddrop v_self.piles s23.2 : (List (Int × (List Str)))), cell a_v_self (.ins (G.cl 2) dx1 [("goes_to", (.ref p2)), ("pile_of", (.ref p3)), ("piles", (.ref p4)), ("comes_from", (.ref p5)), ("made", (.int (v_self.made)))]), dictA p2 (v_self.goes_to : (List (Str × Str))), dictA p3 (v_self.pile_of : (List (Str × Int))), dictE dictA p5 (v_self.comes_from : (List (Str × (List (Str × Bool))))), F] : List (Asn G)) := hS
        refine fz_no ?_
        refine c_set (σ' := [some (.ref a_v_self), some (.int (s23.1)), some (.int (s23.2)), some (.ref v25), none]) rfl ?_
        refine sq_nx ?_
        refine f_seq ?_
        refine c_for ?_
        refine c_il ?_
        refine ev_to (ev_fz (ev_var rfl)) ?_
        refine k_il hS (i := 0) rfl ?_
        refine k_for (τ := (List (Str × Int))) (fun (s26 : (List (Str × Int))) (σ : L2.St) (H : Hp) => ∃ (w29 : Option V), σ = [some (.ref a_v_self), some (.int (s23.1)), some (.int (s23.2)), some (.ref v25), w29] ∧ Sep H ([lstA v25 (y24 : (List Str)), dictE lstA p4 (ddrop v_self.piles s23.2 : (List (Int × (List Str)))), cell a_v_self (.ins (G.cl 2) dx1 [("goes_to", (.ref p2)), ("pile_of", (.ref p3)), ("piles", (.ref p4)), ("comes_from", (.ref p5)), ("made", (.int (v_self.made)))]), dictA p2 (v_self.goes_to : (List (Str × Str))), dictA p3 (s26 : (List (Str × Int))), dictE dictA p5 (v_self.comes_from : (List (Str × (List (Str × Bool))))), F] : List (Asn G))) (im := (Im.im G)) (s := (v_self.pile_of)) (fun _ => wk_list fun _ _ ⟨_, _, h⟩ => h.sq (i := 0) rfl) ⟨_, rfl, hS.sel [0, 1, 2, 3, 4, 5, 6] (by decide) rfl⟩ hm (fun s26 x27 v28 σ H q N hI hx hm nx => ?_) (fun s26 σ H hm hI => ?_)
        ·
          obtain ⟨w29, rfl, hS⟩ := hI
          cases hx
          refine c_gN (σ' := [some (.ref a_v_self), some (.int (s23.1)), some (.int (s23.2)), some (.ref v25), some (.str (x27))]) rfl ?_
          refine c_asgS ?_
          refine ev_to (ev_var rfl) ?_
          refine ev_to (ev_fld (ev_var rfl) (hS.getCell (i := 2) rfl) T.cl_Threads T.n_Threads_pile_of rfl) ?_
          refine ev_to (ev_var rfl) ?_
          obtain ⟨h30, hm⟩ := R.wp_need hm
          refine k_setD (k := x27) (y := s23.1) hS (i := 4) rfl rfl h30 rfl fun H hS => ?_
          have hS : Sep H ([lstA v25 (y24 : (List Str)), dictE lstA p4 (ddrop v_self.piles s23.2 : (List (Int × (List Str)))), cell a_v_self (.ins (G.cl 2) dx1 [("goes_to", (.ref p2)), ("pile_of", (.ref p3)), ("piles", (.ref p4)), ("comes_from", (.ref p5)), ("made", (.int (v_self.made)))]), dictA p2 (v_self.goes_to : (List (Str × Str))), dictA p3 (dput s26 x27 s23.1 : (List (Str × Int))), dictE dictA p5 (v_self.comes_from : (List (Str × (List (Str × Bool))))), F] : List (Asn G)) := hS
          exact nx _ _ _ hm ⟨_, rfl, hS.sel [0, 1, 2, 3, 4, 5, 6] (by decide) rfl⟩
        · obtain ⟨w29, rfl, hS⟩ := hI
          refine sq_nx ?_
          obtain ⟨y31, hy31, hm⟩ := wp_dgetX hm
          obtain ⟨h32, hm⟩ := R.wp_need hm
          obtain ⟨h33, hm⟩ := R.wp_need hm
          refine k_daugE (k := s23.1) (hS.sel [1, 0, 2, 3, 4, 5, 6] (by decide) rfl : Sep _ (dictE lstA p4 (ddrop v_self.piles s23.2 : (List (Int × (List Str)))) :: lstA v25 (y24 : (List Str)) :: [cell a_v_self (.ins (G.cl 2) dx1 [("goes_to", (.ref p2)), ("pile_of", (.ref p3)), ("piles", (.ref p4)), ("comes_from", (.ref p5)), ("made", (.int (v_self.made)))]), dictA p2 (v_self.goes_to : (List (Str × Str))), dictA p3 (s26 : (List (Str × Int))), dictE dictA p5 (v_self.comes_from : (List (Str × (List (Str × Bool))))), F] : List (Asn G))) (ev_fld (ev_var rfl) (hS.getCell (i := 2) rfl) T.cl_Threads T.n_Threads_piles rfl) (ev_var rfl) (ev_fz (ev_var rfl)) hy31 h32 h33 fun H hS => ?_
          have hS : Sep H ([dictE lstA p4 (dput (ddrop v_self.piles s23.2) s23.1 (y31 ++ y24) : (List (Int × (List Str)))), lstA v25 (y24 : (List Str)), cell a_v_self (.ins (G.cl 2) dx1 [("goes_to", (.ref p2)), ("pile_of", (.ref p3)), ("piles", (.ref p4)), ("comes_from", (.ref p5)), ("made", (.int (v_self.made)))]), dictA p2 (v_self.goes_to : (List (Str × Str))), dictA p3 (s26 : (List (Str × Int))), dictE dictA p5 (v_self.comes_from : (List (Str × (List (Str × Bool))))), F] : List (Asn G)) := hS
          have hS : Sep H (ThreadsA a_v_self (⟨v_self.goes_to, s26, dput (ddrop v_self.piles s23.2) s23.1 (y31 ++ y24), v_self.comes_from, v_self.made⟩ : Threads) :: [lstA v25 (y24 : (List Str)), F] : List (Asn G)) := pack_Threads (hS.sel [2, 3, 4, 0, 5, 1, 6] (by decide) rfl)
          exact hm _ (hS.sel [0, 2] (by decide) rfl)
def sp_Threads_hang (G : Gx) : Sp := fun vs H Q E => ∃ (a_v_self : Addr) (v_self : Threads) (v_name : Str) (F : Asn G), vs = [.ref a_v_self, (.str (v_name))] ∧ Sep H ([ThreadsA a_v_self v_self, F] : List (Asn G)) ∧ R.wp (m_Threads_hang v_self v_name) (fun r => ∀ H', Sep H' ([ThreadsA a_v_self r, F] : List (Asn G)) → Q .non H') (fun _ => False)
abbrev N_Threads_hang : List Str := ["self", "name", "here"]
theorem sc_Threads_hang : FnScope N_Threads_hang ["self", "name"] (defScope s_Threads_hang) := ⟨rfl, rfl, rfl, by decide +kernel, rfl, by decide +kernel, by decide +kernel⟩
theorem ok_Threads_hang (T : Txt G mg) : FnOk P w G.K mg base CX0 2 T.a_Threads_hang T.fd_Threads_hang ["self", "name"] (sp_Threads_hang G) := by
  have nd := sc_Threads_hang.nd
  refine Fun.ok T.F_Threads_hang sc_Threads_hang (fun vs H Q E h => ?_) (fun cdv A outer s H vs Q E hr h => ?_)
  · obtain ⟨a_v_self, v_self, v_name, F, rfl, _⟩ := h; rfl
  · obtain ⟨a_v_self, v_self, v_name, F, rfl, hS, hm⟩ := h
    refine ⟨_, (pss_cons (ps_set (i := 2) nd rfl (Or.inl rfl) (pe_meth (pv 0) T.cl_Threads T.m_Threads_pile (ok_Threads_pile T) (hr.mono (by decide)) T.b_Threads_pile .nil pass0 (pa_cons (pv 1) pa_nil)))
      (pss_one (ps_if (pt_cmpR op_ne (pe_dget (hu_of hr) (pe_fld (pv 0) rfl) (pv 1) (fun _ _ => rfl)) pe_str (nomark _)) (pss_one (ps_expr (pe_meth (pv 0) T.cl_Threads T.m_Threads_put_together (ok_Threads_put_together T) (hr.mono (by decide)) T.b_Threads_put_together .nil pass0 (pa_cons (pv 2) (pa_cons (pe_meth (pv 0) T.cl_Threads T.m_Threads_pile (ok_Threads_pile T) (hr.mono (by decide)) T.b_Threads_pile .nil pass0 (pa_cons (pe_dget (hu_of hr) (pe_fld (pv 0) rfl) (pv 1) (fun _ _ => rfl)) pa_nil)) pa_nil))))) pss_nil))), ?_⟩
    unfold m_Threads_hang at hm
    have hS : Sep H (ThreadsA a_v_self v_self :: [F] : List (Asn G)) := hS.sel [0, 1] (by decide) rfl
    obtain ⟨dx1, p2, p3, p4, p5, hS⟩ := open_Threads hS
    have hS : Sep H ([cell a_v_self (.ins (G.cl 2) dx1 [("goes_to", (.ref p2)), ("pile_of", (.ref p3)), ("piles", (.ref p4)), ("comes_from", (.ref p5)), ("made", (.int (v_self.made)))]), dictA p2 (v_self.goes_to : (List (Str × Str))), dictA p3 (v_self.pile_of : (List (Str × Int))), dictE lstA p4 (v_self.piles : (List (Int × (List Str)))), dictE dictA p5 (v_self.comes_from : (List (Str × (List (Str × Bool))))), F] : List (Asn G)) := hS
    refine f_seq ?_
    refine c_asg ?_
    refine c_meth ?_
    refine ev_to (ev_var rfl) ?_
    refine ⟨_, _, _, rfl, (hS.getCell (i := 0) rfl), rfl, ?_⟩
    refine ea_to (ea_cons (ev_var rfl) ea_nil) ?_
    have hS : Sep H (ThreadsA a_v_self v_self :: [F] : List (Asn G)) := pack_Threads (hS.sel [0, 1, 2, 3, 4, 5] (by decide) rfl)
    refine ⟨a_v_self, (v_self : Threads), v_name, star [F], rfl, Sep.unstar (M := [ThreadsA a_v_self v_self]) (hS.sel [0, 1] (by decide) rfl : Sep H (([ThreadsA a_v_self v_self] ++ [F] : List (Asn G)))), R.wp_mono (R.wp_bind hm) (fun r6 hm H hS => ?_) (fun _ z => z)⟩
    have hS : Sep H ([ThreadsA a_v_self r6.2, F] : List (Asn G)) := Sep.star (M := [ThreadsA a_v_self r6.2]) hS
    have hS : Sep H (ThreadsA a_v_self r6.2 :: [F] : List (Asn G)) := hS.sel [0, 1] (by decide) rfl
    obtain ⟨dx7, p8, p9, p10, p11, hS⟩ := open_Threads hS
    have hS : Sep H ([cell a_v_self (.ins (G.cl 2) dx7 [("goes_to", (.ref p8)), ("pile_of", (.ref p9)), ("piles", (.ref p10)), ("comes_from", (.ref p11)), ("made", (.int (r6.2.made)))]), dictA p8 (r6.2.goes_to : (List (Str × Str))), dictA p9 (r6.2.pile_of : (List (Str × Int))), dictE lstA p10 (r6.2.piles : (List (Int × (List Str)))), dictE dictA p11 (r6.2.comes_from : (List (Str × (List (Str × Bool))))), F] : List (Asn G)) := hS
    refine c_set (σ' := [some (.ref a_v_self), some (.str (v_name)), some (.int (r6.1))]) rfl ?_
    refine sq_nx ?_
    refine f_if ?_
    obtain ⟨y12, hy12, hm⟩ := wp_dget hm
    obtain ⟨v13, g14, hv15⟩ := dget_some hS (i := 1) rfl hy12
    have hv15 : v13 = (.str (y12)) := hv15
    subst hv15
    refine et_to (et_test (ev_neS (ev_dget (y := y12) hS (i := 1) rfl (ev_fld (ev_var rfl) (hS.getCell (i := 0) rfl) T.cl_Threads T.n_Threads_goes_to rfl) (ev_var rfl) g14) ev_c)) ?_
    have hS : Sep H (ThreadsA a_v_self r6.2 :: [F] : List (Asn G)) := pack_Threads (hS.sel [0, 1, 2, 3, 4, 5] (by decide) rfl)
    refine ifK_J (τ := Threads) (fun (s16 : Threads) (σ : L2.St) (H : Hp) => σ = [some (.ref a_v_self), some (.str (v_name)), some (.int (r6.1))] ∧ Sep H ([ThreadsA a_v_self s16, F] : List (Asn G))) hm (fun hb q hm nx => ?_) (fun hb q hm nx => ?_) (fun s16 σ H hm hI => ?_)
    ·
      have hS : Sep H (ThreadsA a_v_self r6.2 :: [F] : List (Asn G)) := hS.sel [0, 1] (by decide) rfl
      obtain ⟨dx17, p18, p19, p20, p21, hS⟩ := open_Threads hS
      have hS : Sep H ([cell a_v_self (.ins (G.cl 2) dx17 [("goes_to", (.ref p18)), ("pile_of", (.ref p19)), ("piles", (.ref p20)), ("comes_from", (.ref p21)), ("made", (.int (r6.2.made)))]), dictA p18 (r6.2.goes_to : (List (Str × Str))), dictA p19 (r6.2.pile_of : (List (Str × Int))), dictE lstA p20 (r6.2.piles : (List (Int × (List Str)))), dictE dictA p21 (r6.2.comes_from : (List (Str × (List (Str × Bool))))), F] : List (Asn G)) := hS
      refine c_drop ?_
      refine c_meth ?_
      refine ev_to (ev_var rfl) ?_
      refine ⟨_, _, _, rfl, (hS.getCell (i := 0) rfl), rfl, ?_⟩
      refine c_cons ?_
      refine ev_to (ev_var rfl) ?_
      refine c_cons ?_
      refine c_meth ?_
      refine ev_to (ev_var rfl) ?_
      refine ⟨_, _, _, rfl, (hS.getCell (i := 0) rfl), rfl, ?_⟩
      obtain ⟨y22, hy22, hm⟩ := wp_dget hm
      obtain ⟨v23, g24, hv25⟩ := dget_some hS (i := 1) rfl hy22
      have hv25 : v23 = (.str (y22)) := hv25
      subst hv25
      refine ea_to (ea_cons (ev_dget (y := y22) hS (i := 1) rfl (ev_fld (ev_var rfl) (hS.getCell (i := 0) rfl) T.cl_Threads T.n_Threads_goes_to rfl) (ev_var rfl) g24) ea_nil) ?_
      have hS : Sep H (ThreadsA a_v_self r6.2 :: [F] : List (Asn G)) := pack_Threads (hS.sel [0, 1, 2, 3, 4, 5] (by decide) rfl)
      refine ⟨a_v_self, (r6.2 : Threads), y22, star [F], rfl, Sep.unstar (M := [ThreadsA a_v_self r6.2]) (hS.sel [0, 1] (by decide) rfl : Sep H (([ThreadsA a_v_self r6.2] ++ [F] : List (Asn G)))), R.wp_mono (R.wp_bind hm) (fun r26 hm H hS => ?_) (fun _ z => z)⟩
      have hS : Sep H ([ThreadsA a_v_self r26.2, F] : List (Asn G)) := Sep.star (M := [ThreadsA a_v_self r26.2]) hS
      have hS : Sep H (ThreadsA a_v_self r26.2 :: [F] : List (Asn G)) := hS.sel [0, 1] (by decide) rfl
      obtain ⟨dx27, p28, p29, p30, p31, hS⟩ := open_Threads hS
      have hS : Sep H ([cell a_v_self (.ins (G.cl 2) dx27 [("goes_to", (.ref p28)), ("pile_of", (.ref p29)), ("piles", (.ref p30)), ("comes_from", (.ref p31)), ("made", (.int (r26.2.made)))]), dictA p28 (r26.2.goes_to : (List (Str × Str))), dictA p29 (r26.2.pile_of : (List (Str × Int))), dictE lstA p30 (r26.2.piles : (List (Int × (List Str)))), dictE dictA p31 (r26.2.comes_from : (List (Str × (List (Str × Bool))))), F] : List (Asn G)) := hS
      refine c_nil ?_
      have hS : Sep H (ThreadsA a_v_self r26.2 :: [F] : List (Asn G)) := pack_Threads (hS.sel [0, 1, 2, 3, 4, 5] (by decide) rfl)
      refine ⟨a_v_self, (r26.2 : Threads), r6.1, r26.1, star [F], rfl, Sep.unstar (M := [ThreadsA a_v_self r26.2]) (hS.sel [0, 1] (by decide) rfl : Sep H (([ThreadsA a_v_self r26.2] ++ [F] : List (Asn G)))), R.wp_mono (R.wp_bind hm) (fun r32 hm H hS => ?_) (fun _ z => z)⟩
      have hS : Sep H ([ThreadsA a_v_self r32, F] : List (Asn G)) := Sep.star (M := [ThreadsA a_v_self r32]) hS
      have hS : Sep H (ThreadsA a_v_self r32 :: [F] : List (Asn G)) := hS.sel [0, 1] (by decide) rfl
      obtain ⟨dx33, p34, p35, p36, p37, hS⟩ := open_Threads hS
      have hS : Sep H ([cell a_v_self (.ins (G.cl 2) dx33 [("goes_to", (.ref p34)), ("pile_of", (.ref p35)), ("piles", (.ref p36)), ("comes_from", (.ref p37)), ("made", (.int (r32.made)))]), dictA p34 (r32.goes_to : (List (Str × Str))), dictA p35 (r32.pile_of : (List (Str × Int))), dictE lstA p36 (r32.piles : (List (Int × (List Str)))), dictE dictA p37 (r32.comes_from : (List (Str × (List (Str × Bool))))), F] : List (Asn G)) := hS
      have hS : Sep H (ThreadsA a_v_self r32 :: [F] : List (Asn G)) := pack_Threads (hS.sel [0, 1, 2, 3, 4, 5] (by decide) rfl)
      exact nx _ _ _ hm ⟨rfl, hS.sel [0, 1] (by decide) rfl⟩
    ·
      have hS : Sep H (ThreadsA a_v_self r6.2 :: [F] : List (Asn G)) := hS.sel [0, 1] (by decide) rfl
      obtain ⟨dx38, p39, p40, p41, p42, hS⟩ := open_Threads hS
      have hS : Sep H ([cell a_v_self (.ins (G.cl 2) dx38 [("goes_to", (.ref p39)), ("pile_of", (.ref p40)), ("piles", (.ref p41)), ("comes_from", (.ref p42)), ("made", (.int (r6.2.made)))]), dictA p39 (r6.2.goes_to : (List (Str × Str))), dictA p40 (r6.2.pile_of : (List (Str × Int))), dictE lstA p41 (r6.2.piles : (List (Int × (List Str)))), dictE dictA p42 (r6.2.comes_from : (List (Str × (List (Str × Bool))))), F] : List (Asn G)) := hS
      refine st_nx ?_
      have hS : Sep H (ThreadsA a_v_self r6.2 :: [F] : List (Asn G)) := pack_Threads (hS.sel [0, 1, 2, 3, 4, 5] (by decide) rfl)
      exact nx _ _ _ hm ⟨rfl, hS.sel [0, 1] (by decide) rfl⟩
    · obtain ⟨rfl, hS⟩ := hI
      have hS : Sep H (ThreadsA a_v_self s16 :: [F] : List (Asn G)) := hS.sel [0, 1] (by decide) rfl
      obtain ⟨dx43, p44, p45, p46, p47, hS⟩ := open_Threads hS
      have hS : Sep H ([cell a_v_self (.ins (G.cl 2) dx43 [("goes_to", (.ref p44)), ("pile_of", (.ref p45)), ("piles", (.ref p46)), ("comes_from", (.ref p47)), ("made", (.int (s16.made)))]), dictA p44 (s16.goes_to : (List (Str × Str))), dictA p45 (s16.pile_of : (List (Str × Int))), dictE lstA p46 (s16.piles : (List (Int × (List Str)))), dictE dictA p47 (s16.comes_from : (List (Str × (List (Str × Bool))))), F] : List (Asn G)) := hS
      have hS : Sep H (ThreadsA a_v_self s16 :: [F] : List (Asn G)) := pack_Threads (hS.sel [0, 1, 2, 3, 4, 5] (by decide) rfl)
      exact hm _ (hS.sel [0, 1] (by decide) rfl)
def sp_Threads_sure (G : Gx) : Sp := fun vs H Q E => ∃ (a_v_self : Addr) (v_self : Threads) (v_name : Str) (F : Asn G), vs = [.ref a_v_self, (.str (v_name))] ∧ Sep H ([ThreadsA a_v_self v_self, F] : List (Asn G)) ∧ R.wp (m_Threads_sure v_self v_name) (fun r => ∀ H', Sep H' ([ThreadsA a_v_self v_self, F] : List (Asn G)) → Q .non H') (fun x => ∀ H', Sep H' ([ThreadsA a_v_self v_self, F] : List (Asn G)) → Eok G x E H')
abbrev N_Threads_sure : List Str := ["self", "name"]
theorem sc_Threads_sure : FnScope N_Threads_sure ["self", "name"] (defScope s_Threads_sure) := ⟨rfl, rfl, rfl, by decide +kernel, rfl, by decide +kernel, by decide +kernel⟩
theorem ok_Threads_sure (T : Txt G mg) : FnOk P w G.K mg base (L2.CX P w) 1 T.a_Threads_sure T.fd_Threads_sure ["self", "name"] (sp_Threads_sure G) := by
  have nd := sc_Threads_sure.nd
  refine Fun.okX T.F_Threads_sure sc_Threads_sure (fun vs H Q E h => ?_) (fun cdv A outer s H vs Q E hr h => ?_)
  · obtain ⟨a_v_self, v_self, v_name, F, rfl, _⟩ := h; rfl
  · obtain ⟨a_v_self, v_self, v_name, F, rfl, hS, hm⟩ := h
    refine ⟨_, (pss_one (ps_if (pt_cmp (pc_dnotin (hu_of hr) (pv 1) (pe_fld (pv 0) rfl))) (pss_one (ps_raise rfl (takes_of rfl rfl rfl rfl) (SkE.pmk_own1 PySem.F.excBase_ValueError T.x_NoName T.g_NoName T.kp_NoName (T.r_NoName rfl) rfl (pe_joined (.cons (pe_fmt (pv 1)) (.cons pe_str .nil)))))) pss_nil)), ?_⟩
    unfold m_Threads_sure at hm
    have hS : Sep H (ThreadsA a_v_self v_self :: [F] : List (Asn G)) := hS.sel [0, 1] (by decide) rfl
    obtain ⟨dx1, p2, p3, p4, p5, hS⟩ := open_Threads hS
    have hS : Sep H ([cell a_v_self (.ins (G.cl 2) dx1 [("goes_to", (.ref p2)), ("pile_of", (.ref p3)), ("piles", (.ref p4)), ("comes_from", (.ref p5)), ("made", (.int (v_self.made)))]), dictA p2 (v_self.goes_to : (List (Str × Str))), dictA p3 (v_self.pile_of : (List (Str × Int))), dictE lstA p4 (v_self.piles : (List (Int × (List Str)))), dictE dictA p5 (v_self.comes_from : (List (Str × (List (Str × Bool))))), F] : List (Asn G)) := hS
    refine f_if ?_
    refine et_to (et_B (ev_dnotin hS (i := 1) (k := v_name) rfl (ev_var rfl) (ev_fld (ev_var rfl) (hS.getCell (i := 0) rfl) T.cl_Threads T.n_Threads_goes_to rfl))) ?_
    refine ifK_2 (fun hb6 => ?_) (fun hb6 => ?_)
    · have hm := R.wp_ifY hm hb6
      obtain ⟨h7, hm⟩ := R.wp_need hm
      obtain ⟨h8, hm⟩ := R.wp_need hm
      refine f_fs (ev_var rfl) h7 h8 ?_
      revert hm; refine R.need_rev fun h9 hm => ?_
      refine f_fc ev_c h9 ?_
      refine f_je ?_
      have hS : Sep H (ThreadsA a_v_self v_self :: [F] : List (Asn G)) := pack_Threads (hS.sel [0, 1, 2, 3, 4, 5] (by decide) rfl)
      exact hm _ (hS.sel [0, 1] (by decide) rfl)
    · have hm := R.wp_ifN hm (by first | (rw [hb6]; decide) | simpa using hb6)
      refine st_nx ?_
      have hS : Sep H (ThreadsA a_v_self v_self :: [F] : List (Asn G)) := pack_Threads (hS.sel [0, 1, 2, 3, 4, 5] (by decide) rfl)
      exact hm _ (hS.sel [0, 1] (by decide) rfl)
def sp_Threads_add (G : Gx) : Sp := fun vs H Q E => ∃ (a_v_self : Addr) (v_self : Threads) (v_name : Str) (v_answers : Str) (F : Asn G), vs = [.ref a_v_self, (.str (v_name)), (.str (v_answers))] ∧ Sep H ([ThreadsA a_v_self v_self, F] : List (Asn G)) ∧ R.wp (m_Threads_add v_self v_name v_answers) (fun r => ∀ H', Sep H' ([ThreadsA a_v_self r, F] : List (Asn G)) → Q .non H') (fun x => ∀ H', Sep H' ([ThreadsA a_v_self v_self, F] : List (Asn G)) → Eok G x E H')
abbrev N_Threads_add : List Str := ["self", "name", "answers"]
theorem sc_Threads_add : FnScope N_Threads_add ["self", "name", "answers"] (defScope s_Threads_add) := ⟨rfl, rfl, rfl, by decide +kernel, rfl, by decide +kernel, by decide +kernel⟩
theorem ok_Threads_add (T : Txt G mg) : FnOk P w G.K mg base (L2.CX P w) 3 T.a_Threads_add T.fd_Threads_add ["self", "name", "answers"] (sp_Threads_add G) := by
  have nd := sc_Threads_add.nd
  refine FunD.ok T.F_Threads_add sc_Threads_add (fun vs H Q E h => ?_) (fun cdv A outer s H vs Q E hr h => ?_)
  · obtain ⟨a_v_self, v_self, v_name, v_answers, F, rfl, _⟩ := h; rfl
  · obtain ⟨a_v_self, v_self, v_name, v_answers, F, rfl, hS, hm⟩ := h
    refine ⟨_, (pss_cons (ps_if (pt_cmp (pc_din (hu_of hr) (pv 1) (pe_fld (pv 0) rfl))) (pss_one (ps_raise rfl (takes_of rfl rfl rfl rfl) (SkE.pmk_own1 PySem.F.excBase_ValueError T.x_NoName T.g_NoName T.kp_NoName (T.r_NoName rfl) rfl (pe_joined (.cons (pe_fmt (pv 1)) (.cons pe_str .nil)))))) pss_nil)
      (pss_cons (ps_asg (pv 2) (pg_sub (pe_fld (pv 0) rfl) (pv 1) (set_dict (hu_of hr))))
      (pss_cons (ps_asg pe_bl (pg_sub (pe_dsetd (pe_fld (pv 0) rfl) (pv 2) pe_dnewK m2) (pv 1) (set_dict (hu_of hr))))
      (pss_one (ps_expr (pe_meth (pv 0) T.cl_Threads T.m_Threads_hang (ok_Threads_hang T) (hr.mono (by decide)) T.b_Threads_hang .nil pass0 (pa_cons (pv 1) pa_nil))))))), ?_⟩
    unfold m_Threads_add at hm
    have hS : Sep H (ThreadsA a_v_self v_self :: [F] : List (Asn G)) := hS.sel [0, 1] (by decide) rfl
    obtain ⟨dx1, p2, p3, p4, p5, hS⟩ := open_Threads hS
    have hS : Sep H ([cell a_v_self (.ins (G.cl 2) dx1 [("goes_to", (.ref p2)), ("pile_of", (.ref p3)), ("piles", (.ref p4)), ("comes_from", (.ref p5)), ("made", (.int (v_self.made)))]), dictA p2 (v_self.goes_to : (List (Str × Str))), dictA p3 (v_self.pile_of : (List (Str × Int))), dictE lstA p4 (v_self.piles : (List (Int × (List Str)))), dictE dictA p5 (v_self.comes_from : (List (Str × (List (Str × Bool))))), F] : List (Asn G)) := hS
    refine f_seq ?_
    refine f_if ?_
    refine et_to (et_B (ev_din hS (i := 1) (k := v_name) rfl (ev_var rfl) (ev_fld (ev_var rfl) (hS.getCell (i := 0) rfl) T.cl_Threads T.n_Threads_goes_to rfl))) ?_
    refine ifK_2 (fun hb6 => ?_) (fun hb6 => ?_)
    · have hm := R.wp_ifY hm hb6
      obtain ⟨h7, hm⟩ := R.wp_need hm
      obtain ⟨h8, hm⟩ := R.wp_need hm
      refine f_fs (ev_var rfl) h7 h8 ?_
      revert hm; refine R.need_rev fun h9 hm => ?_
      refine f_fc ev_c h9 ?_
      refine f_je ?_
      have hS : Sep H (ThreadsA a_v_self v_self :: [F] : List (Asn G)) := pack_Threads (hS.sel [0, 1, 2, 3, 4, 5] (by decide) rfl)
      exact hm _ (hS.sel [0, 1] (by decide) rfl)
    · have hm := R.wp_ifN hm (by first | (rw [hb6]; decide) | simpa using hb6)
      refine st_nx ?_
      refine sq_nx ?_
      refine f_seq ?_
      refine c_asgS ?_
      refine ev_to (ev_var rfl) ?_
      refine ev_to (ev_fld (ev_var rfl) (hS.getCell (i := 0) rfl) T.cl_Threads T.n_Threads_goes_to rfl) ?_
      refine ev_to (ev_var rfl) ?_
      obtain ⟨h10, hm⟩ := R.wp_need hm
      refine k_setD (k := v_name) (y := v_answers) hS (i := 1) rfl rfl h10 rfl fun H hS => ?_
      have hS : Sep H ([cell a_v_self (.ins (G.cl 2) dx1 [("goes_to", (.ref p2)), ("pile_of", (.ref p3)), ("piles", (.ref p4)), ("comes_from", (.ref p5)), ("made", (.int (v_self.made)))]), dictA p2 (dput v_self.goes_to v_name v_answers : (List (Str × Str))), dictA p3 (v_self.pile_of : (List (Str × Int))), dictE lstA p4 (v_self.piles : (List (Int × (List Str)))), dictE dictA p5 (v_self.comes_from : (List (Str × (List (Str × Bool))))), F] : List (Asn G)) := hS
      refine sq_nx ?_
      refine f_seq ?_
      refine c_asgS ?_
      refine ev_to ev_c ?_
      refine c_dsetd ?_
      refine ev_to (ev_fld (ev_var rfl) (hS.getCell (i := 0) rfl) T.cl_Threads T.n_Threads_comes_from rfl) ?_
      refine k_setda (isD_Ei hS (i := 4) rfl) ?_
      refine ev_to (ev_var rfl) ?_
      refine k_setdb ?_
      refine k_dnew (κ := Str) (β := Bool) hS fun p11 H hS => ?_
      obtain ⟨h13, hm⟩ := R.wp_need hm
      refine k_setdE3 (k := v_answers) (hS.sel [5, 0, 1, 2, 3, 4, 6] (by decide) rfl : Sep _ (dictE dictA p5 (v_self.comes_from : (List (Str × (List (Str × Bool))))) :: dictA p11 (([] : (List (Str × Bool))) : (List (Str × Bool))) :: [cell a_v_self (.ins (G.cl 2) dx1 [("goes_to", (.ref p2)), ("pile_of", (.ref p3)), ("piles", (.ref p4)), ("comes_from", (.ref p5)), ("made", (.int (v_self.made)))]), dictA p2 (dput v_self.goes_to v_name v_answers : (List (Str × Str))), dictA p3 (v_self.pile_of : (List (Str × Int))), dictE lstA p4 (v_self.piles : (List (Int × (List Str)))), F] : List (Asn G))) h13 fun ps14 p15 j16 H hl17 hj18 hp19 hS => ?_
      have hS : Sep H ([dictA p15 ((dget v_self.comes_from v_answers).getD ([] : (List (Str × Bool))) : (List (Str × Bool))), dictXH id dictA p5 ps14 (setE v_self.comes_from v_answers ([] : (List (Str × Bool))) : (List (Str × (List (Str × Bool))))) j16, cell a_v_self (.ins (G.cl 2) dx1 [("goes_to", (.ref p2)), ("pile_of", (.ref p3)), ("piles", (.ref p4)), ("comes_from", (.ref p5)), ("made", (.int (v_self.made)))]), dictA p2 (dput v_self.goes_to v_name v_answers : (List (Str × Str))), dictA p3 (v_self.pile_of : (List (Str × Int))), dictE lstA p4 (v_self.piles : (List (Int × (List Str)))), F] : List (Asn G)) := hS
      refine ev_to (ev_var rfl) ?_
      obtain ⟨h20, hm⟩ := R.wp_need hm
      refine k_setD (k := v_name) (y := true) hS (i := 0) rfl rfl h20 rfl fun H hS => ?_
      have hS : Sep H ([dictA p15 (dput ((dget v_self.comes_from v_answers).getD ([] : (List (Str × Bool)))) v_name true : (List (Str × Bool))), dictXH id dictA p5 ps14 (setE v_self.comes_from v_answers ([] : (List (Str × Bool))) : (List (Str × (List (Str × Bool))))) j16, cell a_v_self (.ins (G.cl 2) dx1 [("goes_to", (.ref p2)), ("pile_of", (.ref p3)), ("piles", (.ref p4)), ("comes_from", (.ref p5)), ("made", (.int (v_self.made)))]), dictA p2 (dput v_self.goes_to v_name v_answers : (List (Str × Str))), dictA p3 (v_self.pile_of : (List (Str × Int))), dictE lstA p4 (v_self.piles : (List (Int × (List Str)))), F] : List (Asn G)) := hS
      have hS : Sep H ([dictE dictA p5 (dput (setE v_self.comes_from v_answers ([] : (List (Str × Bool)))) v_answers (dput ((dget v_self.comes_from v_answers).getD ([] : (List (Str × Bool)))) v_name true) : (List (Str × (List (Str × Bool))))), cell a_v_self (.ins (G.cl 2) dx1 [("goes_to", (.ref p2)), ("pile_of", (.ref p3)), ("piles", (.ref p4)), ("comes_from", (.ref p5)), ("made", (.int (v_self.made)))]), dictA p2 (dput v_self.goes_to v_name v_answers : (List (Str × Str))), dictA p3 (v_self.pile_of : (List (Str × Int))), dictE lstA p4 (v_self.piles : (List (Int × (List Str)))), F] : List (Asn G)) := unfocDE (z := (dput ((dget v_self.comes_from v_answers).getD ([] : (List (Str × Bool)))) v_name true : (List (Str × Bool)))) hl17 hj18 hp19 (hS.sel [0, 1, 2, 3, 4, 5, 6] (by decide) rfl)
      refine sq_nx ?_
      refine c_drop ?_
      refine c_meth ?_
      refine ev_to (ev_var rfl) ?_
      refine ⟨_, _, _, rfl, (hS.getCell (i := 1) rfl), rfl, ?_⟩
      refine ea_to (ea_cons (ev_var rfl) ea_nil) ?_
      have hS : Sep H (ThreadsA a_v_self (⟨dput v_self.goes_to v_name v_answers, v_self.pile_of, v_self.piles, dput (setE v_self.comes_from v_answers ([] : (List (Str × Bool)))) v_answers (dput ((dget v_self.comes_from v_answers).getD ([] : (List (Str × Bool)))) v_name true), v_self.made⟩ : Threads) :: [F] : List (Asn G)) := pack_Threads (hS.sel [1, 2, 3, 4, 0, 5] (by decide) rfl)
      refine ⟨a_v_self, ((⟨dput v_self.goes_to v_name v_answers, v_self.pile_of, v_self.piles, dput (setE v_self.comes_from v_answers ([] : (List (Str × Bool)))) v_answers (dput ((dget v_self.comes_from v_answers).getD ([] : (List (Str × Bool)))) v_name true), v_self.made⟩ : Threads) : Threads), v_name, star [F], rfl, Sep.unstar (M := [ThreadsA a_v_self (⟨dput v_self.goes_to v_name v_answers, v_self.pile_of, v_self.piles, dput (setE v_self.comes_from v_answers ([] : (List (Str × Bool)))) v_answers (dput ((dget v_self.comes_from v_answers).getD ([] : (List (Str × Bool)))) v_name true), v_self.made⟩ : Threads)]) (hS.sel [0, 1] (by decide) rfl : Sep H (([ThreadsA a_v_self (⟨dput v_self.goes_to v_name v_answers, v_self.pile_of, v_self.piles, dput (setE v_self.comes_from v_answers ([] : (List (Str × Bool)))) v_answers (dput ((dget v_self.comes_from v_answers).getD ([] : (List (Str × Bool)))) v_name true), v_self.made⟩ : Threads)] ++ [F] : List (Asn G)))), R.wp_mono (R.wp_noexc hm) (fun r21 hm H hS => ?_) (fun _ z => z)⟩
      have hS : Sep H ([ThreadsA a_v_self r21, F] : List (Asn G)) := Sep.star (M := [ThreadsA a_v_self r21]) hS
      have hS : Sep H (ThreadsA a_v_self r21 :: [F] : List (Asn G)) := hS.sel [0, 1] (by decide) rfl
      obtain ⟨dx22, p23, p24, p25, p26, hS⟩ := open_Threads hS
      have hS : Sep H ([cell a_v_self (.ins (G.cl 2) dx22 [("goes_to", (.ref p23)), ("pile_of", (.ref p24)), ("piles", (.ref p25)), ("comes_from", (.ref p26)), ("made", (.int (r21.made)))]), dictA p23 (r21.goes_to : (List (Str × Str))), dictA p24 (r21.pile_of : (List (Str × Int))), dictE lstA p25 (r21.piles : (List (Int × (List Str)))), dictE dictA p26 (r21.comes_from : (List (Str × (List (Str × Bool))))), F] : List (Asn G)) := hS
      have hS : Sep H (ThreadsA a_v_self r21 :: [F] : List (Asn G)) := pack_Threads (hS.sel [0, 1, 2, 3, 4, 5] (by decide) rfl)
      exact hm _ (hS.sel [0, 1] (by decide) rfl)
def sp_Threads_take_out (G : Gx) : Sp := fun vs H Q E => ∃ (a_v_self : Addr) (v_self : Threads) (v_name : Str) (F : Asn G), vs = [.ref a_v_self, (.str (v_name))] ∧ Sep H ([ThreadsA a_v_self v_self, F] : List (Asn G)) ∧ R.wp (m_Threads_take_out v_self v_name) (fun r => ∀ H', Sep H' ([ThreadsA a_v_self r, F] : List (Asn G)) → Q .non H') (fun x => ∀ H', Sep H' ([ThreadsA a_v_self v_self, F] : List (Asn G)) → Eok G x E H')
abbrev N_Threads_take_out : List Str := ["self", "name", "answers", "old", "one"]
theorem sc_Threads_take_out : FnScope N_Threads_take_out ["self", "name"] (defScope s_Threads_take_out) := ⟨rfl, rfl, rfl, by decide +kernel, rfl, by decide +kernel, by decide +kernel⟩
theorem ok_Threads_take_out (T : Txt G mg) : FnOk P w G.K mg base (L2.CX P w) 3 T.a_Threads_take_out T.fd_Threads_take_out ["self", "name"] (sp_Threads_take_out G) := by
  have nd := sc_Threads_take_out.nd
  refine Fun.okX T.F_Threads_take_out sc_Threads_take_out (fun vs H Q E h => ?_) (fun cdv A outer s H vs Q E hr h => ?_)
  · obtain ⟨a_v_self, v_self, v_name, F, rfl, _⟩ := h; rfl
  · obtain ⟨a_v_self, v_self, v_name, F, rfl, hS, hm⟩ := h
    refine ⟨_, (pss_cons (ps_expr (pe_meth (pv 0) T.cl_Threads T.m_Threads_sure (ok_Threads_sure T) (hr.mono (by decide)) T.b_Threads_sure .nil (passes_call (takes_of rfl rfl rfl rfl) (fun _ _ _ _ h => h)) (pa_cons (pv 1) pa_nil)))
      (pss_cons (ps_set (i := 2) nd rfl (Or.inl rfl) (pe_dpop1 (pe_fld (pv 0) rfl) (pv 1) m1))
      (pss_cons (ps_expr (pe_dpop1 (pe_dget (hu_of hr) (pe_fld (pv 0) rfl) (pv 2) (fun _ _ => rfl)) (pv 1) m1))
      (pss_cons (ps_if (pt_cmpR op_eq (pe_callB call_lenD (by rfl) T.z_len PySem.boot_len (pa_cons (pe_dget (hu_of hr) (pe_fld (pv 0) rfl) (pv 2) (fun _ _ => rfl)) pa_nil)) pe_int (nomark _)) (pss_one (ps_expr (pe_dpop1 (pe_fld (pv 0) rfl) (pv 2) m1))) pss_nil)
      (pss_cons (ps_set (i := 3) nd rfl (Or.inl rfl) (pe_fz (pe_dpop1 (pe_fld (pv 0) rfl) (pe_dget (hu_of hr) (pe_fld (pv 0) rfl) (pv 1) (fun _ _ => rfl)) m1)))
      (pss_cons (ps_for (passes_of rfl) rfl (pi_listK G.K (pe_fz (pv 3))) (pg_name (i := 4) nd rfl (Or.inl rfl)) (pss_one (ps_expr (pe_dpop1 (pe_fld (pv 0) rfl) (pv 4) m1))))
      (pss_one (ps_for (passes_of rfl) rfl (pi_listK G.K (pe_fz (pv 3))) (pg_name (i := 4) nd rfl (Or.inl rfl)) (pss_one (ps_if (pt_cmp (pc_din (hu_of hr) (pv 4) (pe_fld (pv 0) rfl))) (pss_one (ps_expr (pe_meth (pv 0) T.cl_Threads T.m_Threads_hang (ok_Threads_hang T) (hr.mono (by decide)) T.b_Threads_hang .nil pass0 (pa_cons (pv 4) pa_nil)))) pss_nil)))))))))), ?_⟩
    unfold m_Threads_take_out at hm
    have hS : Sep H (ThreadsA a_v_self v_self :: [F] : List (Asn G)) := hS.sel [0, 1] (by decide) rfl
    obtain ⟨dx1, p2, p3, p4, p5, hS⟩ := open_Threads hS
    have hS : Sep H ([cell a_v_self (.ins (G.cl 2) dx1 [("goes_to", (.ref p2)), ("pile_of", (.ref p3)), ("piles", (.ref p4)), ("comes_from", (.ref p5)), ("made", (.int (v_self.made)))]), dictA p2 (v_self.goes_to : (List (Str × Str))), dictA p3 (v_self.pile_of : (List (Str × Int))), dictE lstA p4 (v_self.piles : (List (Int × (List Str)))), dictE dictA p5 (v_self.comes_from : (List (Str × (List (Str × Bool))))), F] : List (Asn G)) := hS
    refine f_seq ?_
    refine c_drop ?_
    refine c_meth ?_
    refine ev_to (ev_var rfl) ?_
    refine ⟨_, _, _, rfl, (hS.getCell (i := 0) rfl), rfl, ?_⟩
    refine ea_to (ea_cons (ev_var rfl) ea_nil) ?_
    have hS : Sep H (ThreadsA a_v_self v_self :: [F] : List (Asn G)) := pack_Threads (hS.sel [0, 1, 2, 3, 4, 5] (by decide) rfl)
    refine ⟨a_v_self, (v_self : Threads), v_name, star [F], rfl, Sep.unstar (M := [ThreadsA a_v_self v_self]) (hS.sel [0, 1] (by decide) rfl : Sep H (([ThreadsA a_v_self v_self] ++ [F] : List (Asn G)))), R.wp_mono (R.wp_bind hm) (fun r6 hm H hS => ?_) (fun x hx H hS => ?_)⟩
    ·
      have hS : Sep H ([ThreadsA a_v_self v_self, F] : List (Asn G)) := Sep.star (M := [ThreadsA a_v_self v_self]) hS
      have hS : Sep H (ThreadsA a_v_self v_self :: [F] : List (Asn G)) := hS.sel [0, 1] (by decide) rfl
      obtain ⟨dx7, p8, p9, p10, p11, hS⟩ := open_Threads hS
      have hS : Sep H ([cell a_v_self (.ins (G.cl 2) dx7 [("goes_to", (.ref p8)), ("pile_of", (.ref p9)), ("piles", (.ref p10)), ("comes_from", (.ref p11)), ("made", (.int (v_self.made)))]), dictA p8 (v_self.goes_to : (List (Str × Str))), dictA p9 (v_self.pile_of : (List (Str × Int))), dictE lstA p10 (v_self.piles : (List (Int × (List Str)))), dictE dictA p11 (v_self.comes_from : (List (Str × (List (Str × Bool))))), F] : List (Asn G)) := hS
      refine sq_nx ?_
      refine f_seq ?_
      refine c_asg ?_
      refine c_dpop1 ?_
      refine ev_to (ev_fld (ev_var rfl) (hS.getCell (i := 0) rfl) T.cl_Threads T.n_Threads_goes_to rfl) ?_
      refine k_pop1a (isD_of hS (i := 1) rfl) ?_
      refine ev_to (ev_var rfl) ?_
      obtain ⟨y12, hy12, hm⟩ := wp_dgetX hm
      refine k_pop1A (k := v_name) hS (i := 1) rfl hy12 rfl fun v13 H hS => ?_
      obtain rfl : v13 = (.str (y12)) := hS.im (i := 0) rfl
      have hS := hS.tail
      have hS : Sep H ([cell a_v_self (.ins (G.cl 2) dx7 [("goes_to", (.ref p8)), ("pile_of", (.ref p9)), ("piles", (.ref p10)), ("comes_from", (.ref p11)), ("made", (.int (v_self.made)))]), dictA p8 (ddrop v_self.goes_to v_name : (List (Str × Str))), dictA p9 (v_self.pile_of : (List (Str × Int))), dictE lstA p10 (v_self.piles : (List (Int × (List Str)))), dictE dictA p11 (v_self.comes_from : (List (Str × (List (Str × Bool))))), F] : List (Asn G)) := hS
      refine c_set (σ' := [some (.ref a_v_self), some (.str (v_name)), some (.str (y12)), none, none]) rfl ?_
      refine sq_nx ?_
      refine f_seq ?_
      refine c_drop ?_
      refine c_dpop1 ?_
      refine c_dget ?_
      refine ev_to (ev_fld (ev_var rfl) (hS.getCell (i := 0) rfl) T.cl_Threads T.n_Threads_comes_from rfl) ?_
      refine k_dget1 ?_
      refine ev_to (ev_var rfl) ?_
      obtain ⟨x14, h15, hm⟩ := wp_dgetX hm
      refine k_dgetE (y := (x14 : (List (Str × Bool)))) (hS.sel [4, 0, 1, 2, 3, 5] (by decide) rfl : Sep _ (dictE dictA p11 (v_self.comes_from : (List (Str × (List (Str × Bool))))) :: [cell a_v_self (.ins (G.cl 2) dx7 [("goes_to", (.ref p8)), ("pile_of", (.ref p9)), ("piles", (.ref p10)), ("comes_from", (.ref p11)), ("made", (.int (v_self.made)))]), dictA p8 (ddrop v_self.goes_to v_name : (List (Str × Str))), dictA p9 (v_self.pile_of : (List (Str × Int))), dictE lstA p10 (v_self.piles : (List (Int × (List Str)))), F] : List (Asn G))) h15 fun ps16 p17 j18 hl19 hj20 hp21 hS => ?_
      have hS : Sep H ([dictA p17 (x14 : (List (Str × Bool))), dictXH id dictA p11 ps16 (v_self.comes_from : (List (Str × (List (Str × Bool))))) j18, cell a_v_self (.ins (G.cl 2) dx7 [("goes_to", (.ref p8)), ("pile_of", (.ref p9)), ("piles", (.ref p10)), ("comes_from", (.ref p11)), ("made", (.int (v_self.made)))]), dictA p8 (ddrop v_self.goes_to v_name : (List (Str × Str))), dictA p9 (v_self.pile_of : (List (Str × Int))), dictE lstA p10 (v_self.piles : (List (Int × (List Str)))), F] : List (Asn G)) := hS
      refine k_pop1a (isD_of hS (i := 0) rfl) ?_
      refine ev_to (ev_var rfl) ?_
      obtain ⟨y22, hy22, hm⟩ := wp_dgetX hm
      refine k_pop1A (k := v_name) hS (i := 0) rfl hy22 rfl fun v23 H hS => ?_
      obtain rfl : v23 = (.bl (y22)) := hS.im (i := 0) rfl
      have hS := hS.tail
      have hS : Sep H ([dictA p17 (ddrop x14 v_name : (List (Str × Bool))), dictXH id dictA p11 ps16 (v_self.comes_from : (List (Str × (List (Str × Bool))))) j18, cell a_v_self (.ins (G.cl 2) dx7 [("goes_to", (.ref p8)), ("pile_of", (.ref p9)), ("piles", (.ref p10)), ("comes_from", (.ref p11)), ("made", (.int (v_self.made)))]), dictA p8 (ddrop v_self.goes_to v_name : (List (Str × Str))), dictA p9 (v_self.pile_of : (List (Str × Int))), dictE lstA p10 (v_self.piles : (List (Int × (List Str)))), F] : List (Asn G)) := hS
      have hS : Sep H ([dictE dictA p11 (dput v_self.comes_from y12 (ddrop x14 v_name) : (List (Str × (List (Str × Bool))))), cell a_v_self (.ins (G.cl 2) dx7 [("goes_to", (.ref p8)), ("pile_of", (.ref p9)), ("piles", (.ref p10)), ("comes_from", (.ref p11)), ("made", (.int (v_self.made)))]), dictA p8 (ddrop v_self.goes_to v_name : (List (Str × Str))), dictA p9 (v_self.pile_of : (List (Str × Int))), dictE lstA p10 (v_self.piles : (List (Int × (List Str)))), F] : List (Asn G)) := unfocDE (z := (ddrop x14 v_name : (List (Str × Bool)))) hl19 hj20 hp21 (hS.sel [0, 1, 2, 3, 4, 5, 6] (by decide) rfl)
      refine sq_nx ?_
      refine f_seq ?_
      refine f_if ?_
      refine f_test ?_
      refine c_op ?_
      refine c_cb ?_
      refine c_cons ?_
      refine c_dget ?_
      refine ev_to (ev_fld (ev_var rfl) (hS.getCell (i := 1) rfl) T.cl_Threads T.n_Threads_comes_from rfl) ?_
      refine k_dget1 ?_
      refine ev_to (ev_var rfl) ?_
      obtain ⟨x24, h25, hm⟩ := wp_dgetX hm
      refine k_dgetE (y := (x24 : (List (Str × Bool)))) (hS.sel [0, 1, 2, 3, 4, 5] (by decide) rfl : Sep _ (dictE dictA p11 (dput v_self.comes_from y12 (ddrop x14 v_name) : (List (Str × (List (Str × Bool))))) :: [cell a_v_self (.ins (G.cl 2) dx7 [("goes_to", (.ref p8)), ("pile_of", (.ref p9)), ("piles", (.ref p10)), ("comes_from", (.ref p11)), ("made", (.int (v_self.made)))]), dictA p8 (ddrop v_self.goes_to v_name : (List (Str × Str))), dictA p9 (v_self.pile_of : (List (Str × Int))), dictE lstA p10 (v_self.piles : (List (Int × (List Str)))), F] : List (Asn G))) h25 fun ps26 p27 j28 hl29 hj30 hp31 hS => ?_
      have hS : Sep H ([dictA p27 (x24 : (List (Str × Bool))), dictXH id dictA p11 ps26 (dput v_self.comes_from y12 (ddrop x14 v_name) : (List (Str × (List (Str × Bool))))) j28, cell a_v_self (.ins (G.cl 2) dx7 [("goes_to", (.ref p8)), ("pile_of", (.ref p9)), ("piles", (.ref p10)), ("comes_from", (.ref p11)), ("made", (.int (v_self.made)))]), dictA p8 (ddrop v_self.goes_to v_name : (List (Str × Str))), dictA p9 (v_self.pile_of : (List (Str × Int))), dictE lstA p10 (v_self.piles : (List (Int × (List Str)))), F] : List (Asn G)) := hS
      refine c_nil ?_
      obtain ⟨ps32, hp33, hl34⟩ := lenD_at hS (i := 0) rfl
      refine ⟨_, ps32, rfl, hp33, ?_⟩
      rw [hl34]
      have hS : Sep H ([dictE dictA p11 (dput v_self.comes_from y12 (ddrop x14 v_name) : (List (Str × (List (Str × Bool))))), cell a_v_self (.ins (G.cl 2) dx7 [("goes_to", (.ref p8)), ("pile_of", (.ref p9)), ("piles", (.ref p10)), ("comes_from", (.ref p11)), ("made", (.int (v_self.made)))]), dictA p8 (ddrop v_self.goes_to v_name : (List (Str × Str))), dictA p9 (v_self.pile_of : (List (Str × Int))), dictE lstA p10 (v_self.piles : (List (Int × (List Str)))), F] : List (Asn G)) := unfocDE0 hl29 hj30 hp31 (hS.sel [0, 1, 2, 3, 4, 5, 6] (by decide) rfl)
      refine ev_to ev_c ?_
      refine ev_op2 (ev_eqI ev_c ev_c) ?_
      refine f_bl ?_
      refine ifK_J (τ := (List (Str × (List (Str × Bool))))) (fun (s35 : (List (Str × (List (Str × Bool))))) (σ : L2.St) (H : Hp) => σ = [some (.ref a_v_self), some (.str (v_name)), some (.str (y12)), none, none] ∧ Sep H ([dictE dictA p11 (s35 : (List (Str × (List (Str × Bool))))), cell a_v_self (.ins (G.cl 2) dx7 [("goes_to", (.ref p8)), ("pile_of", (.ref p9)), ("piles", (.ref p10)), ("comes_from", (.ref p11)), ("made", (.int (v_self.made)))]), dictA p8 (ddrop v_self.goes_to v_name : (List (Str × Str))), dictA p9 (v_self.pile_of : (List (Str × Int))), dictE lstA p10 (v_self.piles : (List (Int × (List Str)))), F] : List (Asn G))) hm (fun hb q hm nx => ?_) (fun hb q hm nx => ?_) (fun s35 σ H hm hI => ?_)
      ·
        refine c_drop ?_
        refine c_dpop1 ?_
        refine ev_to (ev_fld (ev_var rfl) (hS.getCell (i := 1) rfl) T.cl_Threads T.n_Threads_comes_from rfl) ?_
        refine k_pop1a (isD_Ei hS (i := 0) rfl) ?_
        refine ev_to (ev_var rfl) ?_
        obtain ⟨y36, hy36, hm⟩ := wp_dgetX hm
        refine k_pop1E (hS.sel [0, 1, 2, 3, 4, 5] (by decide) rfl : Sep _ (dictE dictA p11 (dput v_self.comes_from y12 (ddrop x14 v_name) : (List (Str × (List (Str × Bool))))) :: [cell a_v_self (.ins (G.cl 2) dx7 [("goes_to", (.ref p8)), ("pile_of", (.ref p9)), ("piles", (.ref p10)), ("comes_from", (.ref p11)), ("made", (.int (v_self.made)))]), dictA p8 (ddrop v_self.goes_to v_name : (List (Str × Str))), dictA p9 (v_self.pile_of : (List (Str × Int))), dictE lstA p10 (v_self.piles : (List (Int × (List Str)))), F] : List (Asn G))) hy36 fun v37 H hS => ?_
        have hS : Sep H ([dictA v37 (y36 : (List (Str × Bool))), dictE dictA p11 (ddrop (dput v_self.comes_from y12 (ddrop x14 v_name)) y12 : (List (Str × (List (Str × Bool))))), cell a_v_self (.ins (G.cl 2) dx7 [("goes_to", (.ref p8)), ("pile_of", (.ref p9)), ("piles", (.ref p10)), ("comes_from", (.ref p11)), ("made", (.int (v_self.made)))]), dictA p8 (ddrop v_self.goes_to v_name : (List (Str × Str))), dictA p9 (v_self.pile_of : (List (Str × Int))), dictE lstA p10 (v_self.piles : (List (Int × (List Str)))), F] : List (Asn G)) := hS
        exact nx _ _ _ hm ⟨rfl, hS.sel [1, 2, 3, 4, 5, 6] (by decide) rfl⟩
      ·
        refine st_nx ?_
        exact nx _ _ _ hm ⟨rfl, hS.sel [0, 1, 2, 3, 4, 5] (by decide) rfl⟩
      · obtain ⟨rfl, hS⟩ := hI
        refine sq_nx ?_
        refine f_seq ?_
        refine c_asg ?_
        refine c_fz ?_
        refine c_dpop1 ?_
        refine ev_to (ev_fld (ev_var rfl) (hS.getCell (i := 1) rfl) T.cl_Threads T.n_Threads_piles rfl) ?_
        refine k_pop1a (isD_Ei hS (i := 4) rfl) ?_
        obtain ⟨y38, hy38, hm⟩ := wp_dget hm
        obtain ⟨v39, g40, hv41⟩ := dget_some hS (i := 3) rfl hy38
        have hv41 : v39 = (.int (y38)) := hv41
        subst hv41
        refine ev_to (ev_dget (y := y38) hS (i := 3) rfl (ev_fld (ev_var rfl) (hS.getCell (i := 1) rfl) T.cl_Threads T.n_Threads_pile_of rfl) (ev_var rfl) g40) ?_
        obtain ⟨y42, hy42, hm⟩ := wp_dgetX hm
        refine k_pop1E (hS.sel [4, 0, 1, 2, 3, 5] (by decide) rfl : Sep _ (dictE lstA p10 (v_self.piles : (List (Int × (List Str)))) :: [dictE dictA p11 (s35 : (List (Str × (List (Str × Bool))))), cell a_v_self (.ins (G.cl 2) dx7 [("goes_to", (.ref p8)), ("pile_of", (.ref p9)), ("piles", (.ref p10)), ("comes_from", (.ref p11)), ("made", (.int (v_self.made)))]), dictA p8 (ddrop v_self.goes_to v_name : (List (Str × Str))), dictA p9 (v_self.pile_of : (List (Str × Int))), F] : List (Asn G))) hy42 fun v43 H hS => ?_
        have hS : Sep H ([lstA v43 (y42 : (List Str)), dictE lstA p10 (ddrop v_self.piles y38 : (List (Int × (List Str)))), dictE dictA p11 (s35 : (List (Str × (List (Str × Bool))))), cell a_v_self (.ins (G.cl 2) dx7 [("goes_to", (.ref p8)), ("pile_of", (.ref p9)), ("piles", (.ref p10)), ("comes_from", (.ref p11)), ("made", (.int (v_self.made)))]), dictA p8 (ddrop v_self.goes_to v_name : (List (Str × Str))), dictA p9 (v_self.pile_of : (List (Str × Int))), F] : List (Asn G)) := hS
        refine fz_no ?_
        refine c_set (σ' := [some (.ref a_v_self), some (.str (v_name)), some (.str (y12)), some (.ref v43), none]) rfl ?_
        refine sq_nx ?_
        refine f_seq ?_
        refine c_for ?_
        refine c_il ?_
        refine ev_to (ev_fz (ev_var rfl)) ?_
        refine k_il hS (i := 0) rfl ?_
        refine k_for (τ := (List (Str × Int))) (fun (s44 : (List (Str × Int))) (σ : L2.St) (H : Hp) => ∃ (w47 : Option V), σ = [some (.ref a_v_self), some (.str (v_name)), some (.str (y12)), some (.ref v43), w47] ∧ Sep H ([lstA v43 (y42 : (List Str)), dictE lstA p10 (ddrop v_self.piles y38 : (List (Int × (List Str)))), dictE dictA p11 (s35 : (List (Str × (List (Str × Bool))))), cell a_v_self (.ins (G.cl 2) dx7 [("goes_to", (.ref p8)), ("pile_of", (.ref p9)), ("piles", (.ref p10)), ("comes_from", (.ref p11)), ("made", (.int (v_self.made)))]), dictA p8 (ddrop v_self.goes_to v_name : (List (Str × Str))), dictA p9 (s44 : (List (Str × Int))), F] : List (Asn G))) (im := (Im.im G)) (s := (v_self.pile_of)) (fun _ => wk_list fun _ _ ⟨_, _, h⟩ => h.sq (i := 0) rfl) ⟨_, rfl, hS.sel [0, 1, 2, 3, 4, 5, 6] (by decide) rfl⟩ hm (fun s44 x45 v46 σ H q N hI hx hm nx => ?_) (fun s44 σ H hm hI => ?_)
        ·
          obtain ⟨w47, rfl, hS⟩ := hI
          cases hx
          refine c_gN (σ' := [some (.ref a_v_self), some (.str (v_name)), some (.str (y12)), some (.ref v43), some (.str (x45))]) rfl ?_
          refine c_drop ?_
          refine c_dpop1 ?_
          refine ev_to (ev_fld (ev_var rfl) (hS.getCell (i := 3) rfl) T.cl_Threads T.n_Threads_pile_of rfl) ?_
          refine k_pop1a (isD_of hS (i := 5) rfl) ?_
          refine ev_to (ev_var rfl) ?_
          obtain ⟨y48, hy48, hm⟩ := wp_dgetX hm
          refine k_pop1A (k := x45) hS (i := 5) rfl hy48 rfl fun v49 H hS => ?_
          obtain rfl : v49 = (.int (y48)) := hS.im (i := 0) rfl
          have hS := hS.tail
          have hS : Sep H ([lstA v43 (y42 : (List Str)), dictE lstA p10 (ddrop v_self.piles y38 : (List (Int × (List Str)))), dictE dictA p11 (s35 : (List (Str × (List (Str × Bool))))), cell a_v_self (.ins (G.cl 2) dx7 [("goes_to", (.ref p8)), ("pile_of", (.ref p9)), ("piles", (.ref p10)), ("comes_from", (.ref p11)), ("made", (.int (v_self.made)))]), dictA p8 (ddrop v_self.goes_to v_name : (List (Str × Str))), dictA p9 (ddrop s44 x45 : (List (Str × Int))), F] : List (Asn G)) := hS
          exact nx _ _ _ hm ⟨_, rfl, hS.sel [0, 1, 2, 3, 4, 5, 6] (by decide) rfl⟩
        · obtain ⟨w47, rfl, hS⟩ := hI
          refine sq_nx ?_
          refine c_for ?_
          refine c_il ?_
          refine ev_to (ev_fz (ev_var rfl)) ?_
          refine k_il hS (i := 0) rfl ?_
          have hS : Sep H (ThreadsA a_v_self (⟨ddrop v_self.goes_to v_name, s44, ddrop v_self.piles y38, s35, v_self.made⟩ : Threads) :: [lstA v43 (y42 : (List Str)), F] : List (Asn G)) := pack_Threads (hS.sel [3, 4, 5, 1, 2, 0, 6] (by decide) rfl)
          refine k_for (τ := Threads) (fun (s50 : Threads) (σ : L2.St) (H : Hp) => ∃ (w53 : Option V), σ = [some (.ref a_v_self), some (.str (v_name)), some (.str (y12)), some (.ref v43), w53] ∧ Sep H ([ThreadsA a_v_self s50, lstA v43 (y42 : (List Str)), F] : List (Asn G))) (im := (Im.im G)) (s := ((⟨ddrop v_self.goes_to v_name, s44, ddrop v_self.piles y38, s35, v_self.made⟩ : Threads))) (fun _ => wk_list fun _ _ ⟨_, _, h⟩ => h.sq (i := 1) rfl) ⟨_, rfl, hS.sel [0, 1, 2] (by decide) rfl⟩ hm (fun s50 x51 v52 σ H q N hI hx hm nx => ?_) (fun s50 σ H hm hI => ?_)
          ·
            obtain ⟨w53, rfl, hS⟩ := hI
            cases hx
            refine c_gN (σ' := [some (.ref a_v_self), some (.str (v_name)), some (.str (y12)), some (.ref v43), some (.str (x51))]) rfl ?_
            have hS : Sep H (ThreadsA a_v_self s50 :: [lstA v43 (y42 : (List Str)), F] : List (Asn G)) := hS.sel [0, 1, 2] (by decide) rfl
            obtain ⟨dx54, p55, p56, p57, p58, hS⟩ := open_Threads hS
            have hS : Sep H ([cell a_v_self (.ins (G.cl 2) dx54 [("goes_to", (.ref p55)), ("pile_of", (.ref p56)), ("piles", (.ref p57)), ("comes_from", (.ref p58)), ("made", (.int (s50.made)))]), dictA p55 (s50.goes_to : (List (Str × Str))), dictA p56 (s50.pile_of : (List (Str × Int))), dictE lstA p57 (s50.piles : (List (Int × (List Str)))), dictE dictA p58 (s50.comes_from : (List (Str × (List (Str × Bool))))), lstA v43 (y42 : (List Str)), F] : List (Asn G)) := hS
            refine f_if ?_
            refine et_to (et_B (ev_din hS (i := 1) (k := x51) rfl (ev_var rfl) (ev_fld (ev_var rfl) (hS.getCell (i := 0) rfl) T.cl_Threads T.n_Threads_goes_to rfl))) ?_
            have hS : Sep H (ThreadsA a_v_self s50 :: [lstA v43 (y42 : (List Str)), F] : List (Asn G)) := pack_Threads (hS.sel [0, 1, 2, 3, 4, 5, 6] (by decide) rfl)
            refine ifK_J (τ := Threads) (fun (s59 : Threads) (σ : L2.St) (H : Hp) => σ = [some (.ref a_v_self), some (.str (v_name)), some (.str (y12)), some (.ref v43), some (.str (x51))] ∧ Sep H ([ThreadsA a_v_self s59, lstA v43 (y42 : (List Str)), F] : List (Asn G))) hm (fun hb q hm nx => ?_) (fun hb q hm nx => ?_) (fun s59 σ H hm hI => ?_)
            ·
              have hS : Sep H (ThreadsA a_v_self s50 :: [lstA v43 (y42 : (List Str)), F] : List (Asn G)) := hS.sel [0, 1, 2] (by decide) rfl
              obtain ⟨dx60, p61, p62, p63, p64, hS⟩ := open_Threads hS
              have hS : Sep H ([cell a_v_self (.ins (G.cl 2) dx60 [("goes_to", (.ref p61)), ("pile_of", (.ref p62)), ("piles", (.ref p63)), ("comes_from", (.ref p64)), ("made", (.int (s50.made)))]), dictA p61 (s50.goes_to : (List (Str × Str))), dictA p62 (s50.pile_of : (List (Str × Int))), dictE lstA p63 (s50.piles : (List (Int × (List Str)))), dictE dictA p64 (s50.comes_from : (List (Str × (List (Str × Bool))))), lstA v43 (y42 : (List Str)), F] : List (Asn G)) := hS
              refine c_drop ?_
              refine c_meth ?_
              refine ev_to (ev_var rfl) ?_
              refine ⟨_, _, _, rfl, (hS.getCell (i := 0) rfl), rfl, ?_⟩
              refine ea_to (ea_cons (ev_var rfl) ea_nil) ?_
              have hS : Sep H (ThreadsA a_v_self s50 :: [lstA v43 (y42 : (List Str)), F] : List (Asn G)) := pack_Threads (hS.sel [0, 1, 2, 3, 4, 5, 6] (by decide) rfl)
              refine ⟨a_v_self, (s50 : Threads), x51, star [lstA v43 (y42 : (List Str)), F], rfl, Sep.unstar (M := [ThreadsA a_v_self s50]) (hS.sel [0, 1, 2] (by decide) rfl : Sep H (([ThreadsA a_v_self s50] ++ [lstA v43 (y42 : (List Str)), F] : List (Asn G)))), R.wp_mono (R.wp_noexc hm) (fun r65 hm H hS => ?_) (fun _ z => z)⟩
              have hS : Sep H ([ThreadsA a_v_self r65, lstA v43 (y42 : (List Str)), F] : List (Asn G)) := Sep.star (M := [ThreadsA a_v_self r65]) hS
              have hS : Sep H (ThreadsA a_v_self r65 :: [lstA v43 (y42 : (List Str)), F] : List (Asn G)) := hS.sel [0, 1, 2] (by decide) rfl
              obtain ⟨dx66, p67, p68, p69, p70, hS⟩ := open_Threads hS
              have hS : Sep H ([cell a_v_self (.ins (G.cl 2) dx66 [("goes_to", (.ref p67)), ("pile_of", (.ref p68)), ("piles", (.ref p69)), ("comes_from", (.ref p70)), ("made", (.int (r65.made)))]), dictA p67 (r65.goes_to : (List (Str × Str))), dictA p68 (r65.pile_of : (List (Str × Int))), dictE lstA p69 (r65.piles : (List (Int × (List Str)))), dictE dictA p70 (r65.comes_from : (List (Str × (List (Str × Bool))))), lstA v43 (y42 : (List Str)), F] : List (Asn G)) := hS
              have hS : Sep H (ThreadsA a_v_self r65 :: [lstA v43 (y42 : (List Str)), F] : List (Asn G)) := pack_Threads (hS.sel [0, 1, 2, 3, 4, 5, 6] (by decide) rfl)
              exact nx _ _ _ hm ⟨rfl, hS.sel [0, 1, 2] (by decide) rfl⟩
            ·
              have hS : Sep H (ThreadsA a_v_self s50 :: [lstA v43 (y42 : (List Str)), F] : List (Asn G)) := hS.sel [0, 1, 2] (by decide) rfl
              obtain ⟨dx71, p72, p73, p74, p75, hS⟩ := open_Threads hS
              have hS : Sep H ([cell a_v_self (.ins (G.cl 2) dx71 [("goes_to", (.ref p72)), ("pile_of", (.ref p73)), ("piles", (.ref p74)), ("comes_from", (.ref p75)), ("made", (.int (s50.made)))]), dictA p72 (s50.goes_to : (List (Str × Str))), dictA p73 (s50.pile_of : (List (Str × Int))), dictE lstA p74 (s50.piles : (List (Int × (List Str)))), dictE dictA p75 (s50.comes_from : (List (Str × (List (Str × Bool))))), lstA v43 (y42 : (List Str)), F] : List (Asn G)) := hS
              refine st_nx ?_
              have hS : Sep H (ThreadsA a_v_self s50 :: [lstA v43 (y42 : (List Str)), F] : List (Asn G)) := pack_Threads (hS.sel [0, 1, 2, 3, 4, 5, 6] (by decide) rfl)
              exact nx _ _ _ hm ⟨rfl, hS.sel [0, 1, 2] (by decide) rfl⟩
            · obtain ⟨rfl, hS⟩ := hI
              have hS : Sep H (ThreadsA a_v_self s59 :: [lstA v43 (y42 : (List Str)), F] : List (Asn G)) := hS.sel [0, 1, 2] (by decide) rfl
              obtain ⟨dx76, p77, p78, p79, p80, hS⟩ := open_Threads hS
              have hS : Sep H ([cell a_v_self (.ins (G.cl 2) dx76 [("goes_to", (.ref p77)), ("pile_of", (.ref p78)), ("piles", (.ref p79)), ("comes_from", (.ref p80)), ("made", (.int (s59.made)))]), dictA p77 (s59.goes_to : (List (Str × Str))), dictA p78 (s59.pile_of : (List (Str × Int))), dictE lstA p79 (s59.piles : (List (Int × (List Str)))), dictE dictA p80 (s59.comes_from : (List (Str × (List (Str × Bool))))), lstA v43 (y42 : (List Str)), F] : List (Asn G)) := hS
              have hS : Sep H (ThreadsA a_v_self s59 :: [lstA v43 (y42 : (List Str)), F] : List (Asn G)) := pack_Threads (hS.sel [0, 1, 2, 3, 4, 5, 6] (by decide) rfl)
              exact nx _ _ _ hm ⟨_, rfl, hS.sel [0, 1, 2] (by decide) rfl⟩
          · obtain ⟨w53, rfl, hS⟩ := hI
            have hS : Sep H (ThreadsA a_v_self s50 :: [lstA v43 (y42 : (List Str)), F] : List (Asn G)) := hS.sel [0, 1, 2] (by decide) rfl
            obtain ⟨dx81, p82, p83, p84, p85, hS⟩ := open_Threads hS
            have hS : Sep H ([cell a_v_self (.ins (G.cl 2) dx81 [("goes_to", (.ref p82)), ("pile_of", (.ref p83)), ("piles", (.ref p84)), ("comes_from", (.ref p85)), ("made", (.int (s50.made)))]), dictA p82 (s50.goes_to : (List (Str × Str))), dictA p83 (s50.pile_of : (List (Str × Int))), dictE lstA p84 (s50.piles : (List (Int × (List Str)))), dictE dictA p85 (s50.comes_from : (List (Str × (List (Str × Bool))))), lstA v43 (y42 : (List Str)), F] : List (Asn G)) := hS
            have hS : Sep H (ThreadsA a_v_self s50 :: [lstA v43 (y42 : (List Str)), F] : List (Asn G)) := pack_Threads (hS.sel [0, 1, 2, 3, 4, 5, 6] (by decide) rfl)
            exact hm _ (hS.sel [0, 2] (by decide) rfl)
    ·
      have hS : Sep H ([ThreadsA a_v_self v_self, F] : List (Asn G)) := Sep.star (M := [ThreadsA a_v_self v_self]) hS
      exact hx _ (hS.sel [0, 1] (by decide) rfl)
def sp_Threads_names (G : Gx) : Sp := fun vs H Q E => ∃ (a_v_self : Addr) (v_self : Threads) (F : Asn G), vs = [.ref a_v_self] ∧ Sep H ([ThreadsA a_v_self v_self, F] : List (Asn G)) ∧ R.wp (m_Threads_names v_self) (fun r => ∀ p H', Sep H' ([lstA p (r : (List Str)), ThreadsA a_v_self v_self, F] : List (Asn G)) → Q (.ref p) H') (fun _ => False)
abbrev N_Threads_names : List Str := ["self"]
theorem sc_Threads_names : FnScope N_Threads_names ["self"] (defScope s_Threads_names) := ⟨rfl, rfl, rfl, by decide +kernel, rfl, by decide +kernel, by decide +kernel⟩
theorem ok_Threads_names (T : Txt G mg) : FnOk P w G.K mg base CX0 1 T.a_Threads_names T.fd_Threads_names ["self"] (sp_Threads_names G) := by
  have nd := sc_Threads_names.nd
  refine Fun.ok T.F_Threads_names sc_Threads_names (fun vs H Q E h => ?_) (fun cdv A outer s H vs Q E hr h => ?_)
  · obtain ⟨a_v_self, v_self, F, rfl, _⟩ := h; rfl
  · obtain ⟨a_v_self, v_self, F, rfl, hS, hm⟩ := h
    refine ⟨_, (pss_one (ps_ret (pe_fz (pe_callB (cr_sortD rfl) (by rfl) T.z_sorted (by decide +kernel) (pa_cons (pe_fld (pv 0) rfl) pa_nil))))), ?_⟩
    unfold m_Threads_names at hm
    have hS : Sep H (ThreadsA a_v_self v_self :: [F] : List (Asn G)) := hS.sel [0, 1] (by decide) rfl
    obtain ⟨dx1, p2, p3, p4, p5, hS⟩ := open_Threads hS
    have hS : Sep H ([cell a_v_self (.ins (G.cl 2) dx1 [("goes_to", (.ref p2)), ("pile_of", (.ref p3)), ("piles", (.ref p4)), ("comes_from", (.ref p5)), ("made", (.int (v_self.made)))]), dictA p2 (v_self.goes_to : (List (Str × Str))), dictA p3 (v_self.pile_of : (List (Str × Int))), dictE lstA p4 (v_self.piles : (List (Int × (List Str)))), dictE dictA p5 (v_self.comes_from : (List (Str × (List (Str × Bool))))), F] : List (Asn G)) := hS
    refine c_ret ?_
    refine c_fz ?_
    refine c_cb ?_
    refine ea_to (ea_cons (ev_fld (ev_var rfl) (hS.getCell (i := 0) rfl) T.cl_Threads T.n_Threads_goes_to rfl) ea_nil) ?_
    obtain ⟨h7, hm⟩ := R.wp_need hm
    refine k_sortDA hS (i := 1) rfl h7 fun p6 H hS => ?_
    refine fz_no ?_
    have hS : Sep H (ThreadsA a_v_self v_self :: [lstA p6 (sortT (v_self.goes_to.map (·.1)) : (List Str)), F] : List (Asn G)) := pack_Threads (hS.sel [1, 2, 3, 4, 5, 0, 6] (by decide) rfl)
    exact hm _ _ (hS.sel [1, 0, 2] (by decide) rfl)
def sp_Threads_thread (G : Gx) : Sp := fun vs H Q E => ∃ (a_v_self : Addr) (v_self : Threads) (v_name : Str) (F : Asn G), vs = [.ref a_v_self, (.str (v_name))] ∧ Sep H ([ThreadsA a_v_self v_self, F] : List (Asn G)) ∧ R.wp (m_Threads_thread v_self v_name) (fun r => ∀ p H', Sep H' ([lstA p (r : (List Str)), ThreadsA a_v_self v_self, F] : List (Asn G)) → Q (.ref p) H') (fun x => ∀ H', Sep H' ([ThreadsA a_v_self v_self, F] : List (Asn G)) → Eok G x E H')
abbrev N_Threads_thread : List Str := ["self", "name", "one"]
theorem sc_Threads_thread : FnScope N_Threads_thread ["self", "name"] (defScope s_Threads_thread) := ⟨rfl, rfl, rfl, by decide +kernel, rfl, by decide +kernel, by decide +kernel⟩
theorem ok_Threads_thread (T : Txt G mg) : FnOk P w G.K mg base (L2.CX P w) 2 T.a_Threads_thread T.fd_Threads_thread ["self", "name"] (sp_Threads_thread G) := by
  have nd := sc_Threads_thread.nd
  refine Fun.okX T.F_Threads_thread sc_Threads_thread (fun vs H Q E h => ?_) (fun cdv A outer s H vs Q E hr h => ?_)
  · obtain ⟨a_v_self, v_self, v_name, F, rfl, _⟩ := h; rfl
  · obtain ⟨a_v_self, v_self, v_name, F, rfl, hS, hm⟩ := h
    refine ⟨_, (pss_cons (ps_expr (pe_meth (pv 0) T.cl_Threads T.m_Threads_sure (ok_Threads_sure T) (hr.mono (by decide)) T.b_Threads_sure .nil (passes_call (takes_of rfl rfl rfl rfl) (fun _ _ _ _ h => h)) (pa_cons (pv 1) pa_nil)))
      (pss_one (ps_ret (pe_fz (pe_callB (sortedSK G.K) (by rfl) T.z_sorted (by decide +kernel) (pa_cons (pe_fz (pe_lc (own := [("one", 2)]) (g := gName 2) rfl nd (pi_listK G.K (pe_fz (pe_dget (hu_of hr) (pe_fld (pv 0) rfl) (pe_dget (hu_of hr) (pe_fld (pv 0) rfl) (pv 1) (fun _ _ => rfl)) (fun _ _ => rfl)))) (blkOk_by (own := [("one", 2)]) (N := N_Threads_thread) (sc := defScope s_Threads_thread) (by decide +kernel)) (fun _ _ _ _ _ => pg_name (i := 2) nd rfl (Or.inl rfl)) (fun _ _ _ _ _ => pts_one (pt_cmp (pc_din (hu_of hr) (pv 2) (pe_fldK G.K (pv 0))))) (fun _ _ _ _ _ => (pv 2)))) pa_nil)))))), ?_⟩
    unfold m_Threads_thread at hm
    have hS : Sep H (ThreadsA a_v_self v_self :: [F] : List (Asn G)) := hS.sel [0, 1] (by decide) rfl
    obtain ⟨dx1, p2, p3, p4, p5, hS⟩ := open_Threads hS
    have hS : Sep H ([cell a_v_self (.ins (G.cl 2) dx1 [("goes_to", (.ref p2)), ("pile_of", (.ref p3)), ("piles", (.ref p4)), ("comes_from", (.ref p5)), ("made", (.int (v_self.made)))]), dictA p2 (v_self.goes_to : (List (Str × Str))), dictA p3 (v_self.pile_of : (List (Str × Int))), dictE lstA p4 (v_self.piles : (List (Int × (List Str)))), dictE dictA p5 (v_self.comes_from : (List (Str × (List (Str × Bool))))), F] : List (Asn G)) := hS
    refine f_seq ?_
    refine c_drop ?_
    refine c_meth ?_
    refine ev_to (ev_var rfl) ?_
    refine ⟨_, _, _, rfl, (hS.getCell (i := 0) rfl), rfl, ?_⟩
    refine ea_to (ea_cons (ev_var rfl) ea_nil) ?_
    have hS : Sep H (ThreadsA a_v_self v_self :: [F] : List (Asn G)) := pack_Threads (hS.sel [0, 1, 2, 3, 4, 5] (by decide) rfl)
    refine ⟨a_v_self, (v_self : Threads), v_name, star [F], rfl, Sep.unstar (M := [ThreadsA a_v_self v_self]) (hS.sel [0, 1] (by decide) rfl : Sep H (([ThreadsA a_v_self v_self] ++ [F] : List (Asn G)))), R.wp_mono (R.wp_bind hm) (fun r6 hm H hS => ?_) (fun x hx H hS => ?_)⟩
    ·
      have hS : Sep H ([ThreadsA a_v_self v_self, F] : List (Asn G)) := Sep.star (M := [ThreadsA a_v_self v_self]) hS
      have hS : Sep H (ThreadsA a_v_self v_self :: [F] : List (Asn G)) := hS.sel [0, 1] (by decide) rfl
      obtain ⟨dx7, p8, p9, p10, p11, hS⟩ := open_Threads hS
      have hS : Sep H ([cell a_v_self (.ins (G.cl 2) dx7 [("goes_to", (.ref p8)), ("pile_of", (.ref p9)), ("piles", (.ref p10)), ("comes_from", (.ref p11)), ("made", (.int (v_self.made)))]), dictA p8 (v_self.goes_to : (List (Str × Str))), dictA p9 (v_self.pile_of : (List (Str × Int))), dictE lstA p10 (v_self.piles : (List (Int × (List Str)))), dictE dictA p11 (v_self.comes_from : (List (Str × (List (Str × Bool))))), F] : List (Asn G)) := hS
      refine sq_nx ?_
      refine c_ret ?_
      refine c_fz ?_
      refine c_cb ?_
      refine c_cons ?_
      refine c_fz ?_
      refine c_lc ?_
      refine c_il ?_
      refine c_fz ?_
      refine c_dget ?_
      refine ev_to (ev_fld (ev_var rfl) (hS.getCell (i := 0) rfl) T.cl_Threads T.n_Threads_piles rfl) ?_
      refine k_dget1 ?_
      obtain ⟨y12, hy12, hm⟩ := wp_dget hm
      obtain ⟨v13, g14, hv15⟩ := dget_some hS (i := 2) rfl hy12
      have hv15 : v13 = (.int (y12)) := hv15
      subst hv15
      refine ev_to (ev_dget (y := y12) hS (i := 2) rfl (ev_fld (ev_var rfl) (hS.getCell (i := 0) rfl) T.cl_Threads T.n_Threads_pile_of rfl) (ev_var rfl) g14) ?_
      obtain ⟨x16, h17, hm⟩ := wp_dgetX hm
      refine k_dgetE (y := (x16 : (List Str))) (hS.sel [3, 0, 1, 2, 4, 5] (by decide) rfl : Sep _ (dictE lstA p10 (v_self.piles : (List (Int × (List Str)))) :: [cell a_v_self (.ins (G.cl 2) dx7 [("goes_to", (.ref p8)), ("pile_of", (.ref p9)), ("piles", (.ref p10)), ("comes_from", (.ref p11)), ("made", (.int (v_self.made)))]), dictA p8 (v_self.goes_to : (List (Str × Str))), dictA p9 (v_self.pile_of : (List (Str × Int))), dictE dictA p11 (v_self.comes_from : (List (Str × (List (Str × Bool))))), F] : List (Asn G))) h17 fun ps18 p19 j20 hl21 hj22 hp23 hS => ?_
      have hS : Sep H ([lstA p19 (x16 : (List Str)), dictXH id lstA p10 ps18 (v_self.piles : (List (Int × (List Str)))) j20, cell a_v_self (.ins (G.cl 2) dx7 [("goes_to", (.ref p8)), ("pile_of", (.ref p9)), ("piles", (.ref p10)), ("comes_from", (.ref p11)), ("made", (.int (v_self.made)))]), dictA p8 (v_self.goes_to : (List (Str × Str))), dictA p9 (v_self.pile_of : (List (Str × Int))), dictE dictA p11 (v_self.comes_from : (List (Str × (List (Str × Bool))))), F] : List (Asn G)) := hS
      refine fz_no ?_
      refine k_il hS (i := 0) rfl ?_
      obtain ⟨h24, hm⟩ := R.wp_need hm
      refine lc_sep (β := Str) (fun (_ : Unit) => ([lstA p19 (x16 : (List Str)), dictXH id lstA p10 ps18 (v_self.piles : (List (Int × (List Str)))) j20, cell a_v_self (.ins (G.cl 2) dx7 [("goes_to", (.ref p8)), ("pile_of", (.ref p9)), ("piles", (.ref p10)), ("comes_from", (.ref p11)), ("made", (.int (v_self.made)))]), dictA p8 (v_self.goes_to : (List (Str × Str))), dictA p9 (v_self.pile_of : (List (Str × Int))), dictE dictA p11 (v_self.comes_from : (List (Str × (List (Str × Bool))))), F] : List (Asn G))) (s := ()) (im := (Im.im G)) hS (fun _ _ _ => wk_list fun _ _ h => h.sq (i := 1) rfl) h24 hm (fun p25 _ ys28 x26 v27 H q Nx hS hx hm kS kN => ?_) (fun p25 t H hm hS => ?_)
      ·
        cases hx
        refine c_gLc (σ' := [some (.ref a_v_self), some (.str (v_name)), some (.str (x26))]) rfl rfl ?_
        refine et_to (et_B (ev_din hS (i := 4) (k := x26) rfl (ev_var rfl) (ev_fld (ev_var rfl) (hS.getCell (i := 3) rfl) T.cl_Threads T.n_Threads_goes_to rfl))) ?_
        refine lc_if (fun hb29 => ?_) (fun hb29 => ?_)
        · have hm := R.wp_ifY hm hb29
          refine ev_to (ev_var rfl) ?_
          exact kS () _ _ _ hm rfl (hS.sel [0, 1, 2, 3, 4, 5, 6, 7] (by decide) rfl)
        · have hm := R.wp_ifN hm (by first | (rw [hb29]; decide) | simpa using hb29)
          exact kN () _ hm (hS.sel [0, 1, 2, 3, 4, 5, 6, 7] (by decide) rfl)
      · revert hm hS; generalize t = t30; intro hm hS
        refine fz_no ?_
        refine c_nil ?_
        obtain ⟨h32, hm⟩ := R.wp_need hm
        refine k_sorted hS (hS.sqF (i := 0) rfl) h32 fun p31 H hS => ?_
        refine fz_no ?_
        have hS : Sep H ([dictE lstA p10 (v_self.piles : (List (Int × (List Str)))), lstA p31 (sortT t30.2 : (List Str)), lstA p25 (t30.2 : (List Str)), cell a_v_self (.ins (G.cl 2) dx7 [("goes_to", (.ref p8)), ("pile_of", (.ref p9)), ("piles", (.ref p10)), ("comes_from", (.ref p11)), ("made", (.int (v_self.made)))]), dictA p8 (v_self.goes_to : (List (Str × Str))), dictA p9 (v_self.pile_of : (List (Str × Int))), dictE dictA p11 (v_self.comes_from : (List (Str × (List (Str × Bool))))), F] : List (Asn G)) := unfocDE0 hl21 hj22 hp23 (hS.sel [2, 3, 0, 1, 4, 5, 6, 7, 8] (by decide) rfl)
        have hS : Sep H (ThreadsA a_v_self v_self :: [lstA p31 (sortT t30.2 : (List Str)), lstA p25 (t30.2 : (List Str)), F] : List (Asn G)) := pack_Threads (hS.sel [3, 4, 5, 0, 6, 1, 2, 7] (by decide) rfl)
        exact hm _ _ (hS.sel [1, 0, 3] (by decide) rfl)
    ·
      have hS : Sep H ([ThreadsA a_v_self v_self, F] : List (Asn G)) := Sep.star (M := [ThreadsA a_v_self v_self]) hS
      exact hx _ (hS.sel [0, 1] (by decide) rfl)
def sp_Threads_threads (G : Gx) : Sp := fun vs H Q E => ∃ (a_v_self : Addr) (v_self : Threads) (F : Asn G), vs = [.ref a_v_self] ∧ Sep H ([ThreadsA a_v_self v_self, F] : List (Asn G)) ∧ R.wp (m_Threads_threads v_self) (fun r => ∀ p H', Sep H' ([lstA p (r : (List (List Str))), ThreadsA a_v_self v_self, F] : List (Asn G)) → Q (.ref p) H') (fun _ => False)
abbrev N_Threads_threads : List Str := ["self", "found", "told", "name"]
theorem sc_Threads_threads : FnScope N_Threads_threads ["self"] (defScope s_Threads_threads) := ⟨rfl, rfl, rfl, by decide +kernel, rfl, by decide +kernel, by decide +kernel⟩
theorem ok_Threads_threads (T : Txt G mg) : FnOk P w G.K mg base CX0 3 T.a_Threads_threads T.fd_Threads_threads ["self"] (sp_Threads_threads G) := by
  have nd := sc_Threads_threads.nd
  refine Fun.ok T.F_Threads_threads sc_Threads_threads (fun vs H Q E h => ?_) (fun cdv A outer s H vs Q E hr h => ?_)
  · obtain ⟨a_v_self, v_self, F, rfl, _⟩ := h; rfl
  · obtain ⟨a_v_self, v_self, F, rfl, hS, hm⟩ := h
    refine ⟨_, (pss_cons (ps_set (i := 1) nd rfl (Or.inl rfl) (pe_fz (pe_lst pa_nil)))
      (pss_cons (ps_set (i := 2) nd rfl (Or.inl rfl) pe_dnewK)
      (pss_cons (ps_for PassesOwn.never rfl (pi_listK G.K (pe_fz (pe_callB (cr_sortD rfl) (by rfl) T.z_sorted (by decide +kernel) (pa_cons (pe_fld (pv 0) rfl) pa_nil)))) (pg_name (i := 3) nd rfl (Or.inl rfl)) (pss_cons (ps_if (pt_cmp (pc_din (hu_of hr) (pe_dget (hu_of hr) (pe_fld (pv 0) rfl) (pv 3) (fun _ _ => rfl)) (pv 2))) (pss_one ps_continue) pss_nil)
      (pss_cons (ps_asg pe_bl (pg_sub (pv 2) (pe_dget (hu_of hr) (pe_fld (pv 0) rfl) (pv 3) (fun _ _ => rfl)) (set_dict (hu_of hr))))
      (pss_one (ps_expr (pe_bmK G.K PySem.F.plainAttrs_list PySem.F.slot_list_append PySem.F.type_list_append mt_append (pe_fz (pv 1)) (pa_cons (pe_fz (pe_meth (pv 0) T.cl_Threads T.m_Threads_thread (ok_Threads_thread T) (hr.mono (by decide)) T.b_Threads_thread .nil passL (pa_cons (pv 3) pa_nil))) pa_nil)))))))
      (pss_one (ps_ret (pe_fz (pv 1))))))), ?_⟩
    unfold m_Threads_threads at hm
    have hS : Sep H (ThreadsA a_v_self v_self :: [F] : List (Asn G)) := hS.sel [0, 1] (by decide) rfl
    obtain ⟨dx1, p2, p3, p4, p5, hS⟩ := open_Threads hS
    have hS : Sep H ([cell a_v_self (.ins (G.cl 2) dx1 [("goes_to", (.ref p2)), ("pile_of", (.ref p3)), ("piles", (.ref p4)), ("comes_from", (.ref p5)), ("made", (.int (v_self.made)))]), dictA p2 (v_self.goes_to : (List (Str × Str))), dictA p3 (v_self.pile_of : (List (Str × Int))), dictE lstA p4 (v_self.piles : (List (Int × (List Str)))), dictE dictA p5 (v_self.comes_from : (List (Str × (List (Str × Bool))))), F] : List (Asn G)) := hS
    refine f_seq ?_
    refine c_asg ?_
    refine c_fz ?_
    refine c_lst ?_
    refine ea_to ea_nil ?_
    refine k_lst (α := (List Str)) (vs := []) (xs := ([] : (List (List Str)))) hS True.intro (by show 0 ≤ sizeLine; decide) fun p6 H hS => ?_
    refine fz_no ?_
    refine c_set (σ' := [some (.ref a_v_self), some (.ref p6), none, none]) rfl ?_
    refine sq_nx ?_
    refine f_seq ?_
    refine c_asg ?_
    refine k_dnew (κ := Int) (β := Bool) hS fun p7 H hS => ?_
    refine c_set (σ' := [some (.ref a_v_self), some (.ref p6), some (.ref p7), none]) rfl ?_
    refine sq_nx ?_
    refine f_seq ?_
    refine c_for ?_
    refine c_il ?_
    refine c_fz ?_
    refine c_cb ?_
    refine ea_to (ea_cons (ev_fld (ev_var rfl) (hS.getCell (i := 2) rfl) T.cl_Threads T.n_Threads_goes_to rfl) ea_nil) ?_
    obtain ⟨h9, hm⟩ := R.wp_need hm
    refine k_sortDA hS (i := 3) rfl h9 fun p8 H hS => ?_
    refine fz_no ?_
    refine k_il hS (i := 0) rfl ?_
    have hS : Sep H (ThreadsA a_v_self v_self :: [lstA p8 (sortT (v_self.goes_to.map (·.1)) : (List Str)), dictA p7 (([] : (List (Int × Bool))) : (List (Int × Bool))), lstA p6 (([] : (List (List Str))) : (List (List Str))), F] : List (Asn G)) := pack_Threads (hS.sel [3, 4, 5, 6, 7, 0, 1, 2, 8] (by decide) rfl)
    refine k_forF (τ := (List (List Str)) × (List (Int × Bool))) (fun (s10 : (List (List Str)) × (List (Int × Bool))) (σ : L2.St) (H : Hp) => ∃ (w13 : Option V), σ = [some (.ref a_v_self), some (.ref p6), some (.ref p7), w13] ∧ Sep H ([ThreadsA a_v_self v_self, lstA p8 (sortT (v_self.goes_to.map (·.1)) : (List Str)), dictA p7 (s10.2 : (List (Int × Bool))), lstA p6 (s10.1 : (List (List Str))), F] : List (Asn G))) (im := (Im.im G)) (s := (([] : (List (List Str))), ([] : (List (Int × Bool))))) (fun _ => wk_list fun _ _ ⟨_, _, h⟩ => h.sq (i := 1) rfl) ⟨_, rfl, hS.sel [0, 1, 2, 3, 4] (by decide) rfl⟩ hm (fun s10 x11 v12 σ H q N B hI hx hm nx bk ho14 => ?_) (fun s10 σ H hm hI => ?_)
    ·
      obtain ⟨w13, rfl, hS⟩ := hI
      cases hx
      refine c_gN (σ' := [some (.ref a_v_self), some (.ref p6), some (.ref p7), some (.str (x11))]) rfl ?_
      have hS : Sep H (ThreadsA a_v_self v_self :: [lstA p8 (sortT (v_self.goes_to.map (·.1)) : (List Str)), dictA p7 (s10.2 : (List (Int × Bool))), lstA p6 (s10.1 : (List (List Str))), F] : List (Asn G)) := hS.sel [0, 1, 2, 3, 4] (by decide) rfl
      obtain ⟨dx15, p16, p17, p18, p19, hS⟩ := open_Threads hS
      have hS : Sep H ([cell a_v_self (.ins (G.cl 2) dx15 [("goes_to", (.ref p16)), ("pile_of", (.ref p17)), ("piles", (.ref p18)), ("comes_from", (.ref p19)), ("made", (.int (v_self.made)))]), dictA p16 (v_self.goes_to : (List (Str × Str))), dictA p17 (v_self.pile_of : (List (Str × Int))), dictE lstA p18 (v_self.piles : (List (Int × (List Str)))), dictE dictA p19 (v_self.comes_from : (List (Str × (List (Str × Bool))))), lstA p8 (sortT (v_self.goes_to.map (·.1)) : (List Str)), dictA p7 (s10.2 : (List (Int × Bool))), lstA p6 (s10.1 : (List (List Str))), F] : List (Asn G)) := hS
      refine f_seq ?_
      refine f_if ?_
      obtain ⟨y20, hy20, hm⟩ := wp_dget hm
      obtain ⟨v21, g22, hv23⟩ := dget_some hS (i := 2) rfl hy20
      have hv23 : v21 = (.int (y20)) := hv23
      subst hv23
      refine et_to (et_B (ev_din hS (i := 6) (k := y20) rfl (ev_dget (y := y20) hS (i := 2) rfl (ev_fld (ev_var rfl) (hS.getCell (i := 0) rfl) T.cl_Threads T.n_Threads_pile_of rfl) (ev_var rfl) g22) (ev_var rfl))) ?_
      refine ifK_2 (fun hb24 => ?_) (fun hb24 => ?_)
      · have hm := R.wp_ifY hm hb24
        first | refine lp_ct ?_ | skip
        have hS : Sep H (ThreadsA a_v_self v_self :: [lstA p8 (sortT (v_self.goes_to.map (·.1)) : (List Str)), dictA p7 (s10.2 : (List (Int × Bool))), lstA p6 (s10.1 : (List (List Str))), F] : List (Asn G)) := pack_Threads (hS.sel [0, 1, 2, 3, 4, 5, 6, 7, 8] (by decide) rfl)
        exact nx _ _ _ hm ⟨_, rfl, hS.sel [0, 1, 2, 3, 4] (by decide) rfl⟩
      · have hm := R.wp_ifN hm (by first | (rw [hb24]; decide) | simpa using hb24)
        refine st_nx ?_
        refine sq_nx ?_
        refine f_seq ?_
        refine c_asgS ?_
        refine ev_to ev_c ?_
        refine ev_to (ev_var rfl) ?_
        obtain ⟨y25, hy25, hm⟩ := wp_dget hm
        obtain ⟨v26, g27, hv28⟩ := dget_some hS (i := 2) rfl hy25
        have hv28 : v26 = (.int (y25)) := hv28
        subst hv28
        refine ev_to (ev_dget (y := y25) hS (i := 2) rfl (ev_fld (ev_var rfl) (hS.getCell (i := 0) rfl) T.cl_Threads T.n_Threads_pile_of rfl) (ev_var rfl) g27) ?_
        obtain ⟨h29, hm⟩ := R.wp_need hm
        refine k_setD (k := y25) (y := true) hS (i := 6) rfl rfl h29 rfl fun H hS => ?_
        have hS : Sep H ([cell a_v_self (.ins (G.cl 2) dx15 [("goes_to", (.ref p16)), ("pile_of", (.ref p17)), ("piles", (.ref p18)), ("comes_from", (.ref p19)), ("made", (.int (v_self.made)))]), dictA p16 (v_self.goes_to : (List (Str × Str))), dictA p17 (v_self.pile_of : (List (Str × Int))), dictE lstA p18 (v_self.piles : (List (Int × (List Str)))), dictE dictA p19 (v_self.comes_from : (List (Str × (List (Str × Bool))))), lstA p8 (sortT (v_self.goes_to.map (·.1)) : (List Str)), dictA p7 (dput s10.2 y25 true : (List (Int × Bool))), lstA p6 (s10.1 : (List (List Str))), F] : List (Asn G)) := hS
        refine sq_nx ?_
        refine c_drop ?_
        refine c_bm ?_
        refine ev_to (ev_fz (ev_var rfl)) ⟨tyL hS (i := 7) rfl, ?_⟩
        refine c_cons ?_
        refine c_fz ?_
        refine c_meth ?_
        refine ev_to (ev_var rfl) ?_
        refine ⟨_, _, _, rfl, (hS.getCell (i := 0) rfl), rfl, ?_⟩
        refine ea_to (ea_cons (ev_var rfl) ea_nil) ?_
        have hS : Sep H (ThreadsA a_v_self v_self :: [lstA p8 (sortT (v_self.goes_to.map (·.1)) : (List Str)), dictA p7 (dput s10.2 y25 true : (List (Int × Bool))), lstA p6 (s10.1 : (List (List Str))), F] : List (Asn G)) := pack_Threads (hS.sel [0, 1, 2, 3, 4, 5, 6, 7, 8] (by decide) rfl)
        refine ⟨a_v_self, (v_self : Threads), x11, star [lstA p8 (sortT (v_self.goes_to.map (·.1)) : (List Str)), dictA p7 (dput s10.2 y25 true : (List (Int × Bool))), lstA p6 (s10.1 : (List (List Str))), F], rfl, Sep.unstar (M := [ThreadsA a_v_self v_self]) (hS.sel [0, 1, 2, 3, 4] (by decide) rfl : Sep H (([ThreadsA a_v_self v_self] ++ [lstA p8 (sortT (v_self.goes_to.map (·.1)) : (List Str)), dictA p7 (dput s10.2 y25 true : (List (Int × Bool))), lstA p6 (s10.1 : (List (List Str))), F] : List (Asn G)))), R.wp_mono (R.wp_bind hm) (fun r30 hm p31 H hS => ?_) (fun _ z => z.elim)⟩
        have hS : Sep H ([lstA p31 (r30 : (List Str)), ThreadsA a_v_self v_self, lstA p8 (sortT (v_self.goes_to.map (·.1)) : (List Str)), dictA p7 (dput s10.2 y25 true : (List (Int × Bool))), lstA p6 (s10.1 : (List (List Str))), F] : List (Asn G)) := Sep.star (M := [lstA p31 (r30 : (List Str)), ThreadsA a_v_self v_self]) hS
        have hS : Sep H (ThreadsA a_v_self v_self :: [lstA p31 (r30 : (List Str)), lstA p8 (sortT (v_self.goes_to.map (·.1)) : (List Str)), dictA p7 (dput s10.2 y25 true : (List (Int × Bool))), lstA p6 (s10.1 : (List (List Str))), F] : List (Asn G)) := hS.sel [1, 0, 2, 3, 4, 5] (by decide) rfl
        obtain ⟨dx32, p33, p34, p35, p36, hS⟩ := open_Threads hS
        have hS : Sep H ([cell a_v_self (.ins (G.cl 2) dx32 [("goes_to", (.ref p33)), ("pile_of", (.ref p34)), ("piles", (.ref p35)), ("comes_from", (.ref p36)), ("made", (.int (v_self.made)))]), dictA p33 (v_self.goes_to : (List (Str × Str))), dictA p34 (v_self.pile_of : (List (Str × Int))), dictE lstA p35 (v_self.piles : (List (Int × (List Str)))), dictE dictA p36 (v_self.comes_from : (List (Str × (List (Str × Bool))))), lstA p31 (r30 : (List Str)), lstA p8 (sortT (v_self.goes_to.map (·.1)) : (List Str)), dictA p7 (dput s10.2 y25 true : (List (Int × Bool))), lstA p6 (s10.1 : (List (List Str))), F] : List (Asn G)) := hS
        refine fz_yes (xs := (r30 : (List Str))) hS (i := 5) rfl fun H hS => ?_
        have hS : Sep H ([imA (.ref p31) (r30 : (List Str)), cell a_v_self (.ins (G.cl 2) dx32 [("goes_to", (.ref p33)), ("pile_of", (.ref p34)), ("piles", (.ref p35)), ("comes_from", (.ref p36)), ("made", (.int (v_self.made)))]), dictA p33 (v_self.goes_to : (List (Str × Str))), dictA p34 (v_self.pile_of : (List (Str × Int))), dictE lstA p35 (v_self.piles : (List (Int × (List Str)))), dictE dictA p36 (v_self.comes_from : (List (Str × (List (Str × Bool))))), lstA p8 (sortT (v_self.goes_to.map (·.1)) : (List Str)), dictA p7 (dput s10.2 y25 true : (List (Int × Bool))), lstA p6 (s10.1 : (List (List Str))), F] : List (Asn G)) := hS
        refine c_nil ?_
        obtain ⟨h38, hm⟩ := R.wp_need hm
        refine k_append (x := r30) hS (i := 8) rfl (hS.im (i := 0) rfl) h38 rfl fun H hS => ?_
        have hS : Sep H (ThreadsA a_v_self v_self :: [imA (.ref p31) (r30 : (List Str)), lstA p8 (sortT (v_self.goes_to.map (·.1)) : (List Str)), dictA p7 (dput s10.2 y25 true : (List (Int × Bool))), lstA p6 (s10.1 ++ [r30] : (List (List Str))), F] : List (Asn G)) := pack_Threads (hS.sel [1, 2, 3, 4, 5, 0, 6, 7, 8, 9] (by decide) rfl)
        exact nx _ _ _ hm ⟨_, rfl, hS.sel [0, 2, 3, 4, 5] (by decide) rfl⟩
    · obtain ⟨w13, rfl, hS⟩ := hI
      have hS : Sep H (ThreadsA a_v_self v_self :: [lstA p8 (sortT (v_self.goes_to.map (·.1)) : (List Str)), dictA p7 (s10.2 : (List (Int × Bool))), lstA p6 (s10.1 : (List (List Str))), F] : List (Asn G)) := hS.sel [0, 1, 2, 3, 4] (by decide) rfl
      obtain ⟨dx39, p40, p41, p42, p43, hS⟩ := open_Threads hS
      have hS : Sep H ([cell a_v_self (.ins (G.cl 2) dx39 [("goes_to", (.ref p40)), ("pile_of", (.ref p41)), ("piles", (.ref p42)), ("comes_from", (.ref p43)), ("made", (.int (v_self.made)))]), dictA p40 (v_self.goes_to : (List (Str × Str))), dictA p41 (v_self.pile_of : (List (Str × Int))), dictE lstA p42 (v_self.piles : (List (Int × (List Str)))), dictE dictA p43 (v_self.comes_from : (List (Str × (List (Str × Bool))))), lstA p8 (sortT (v_self.goes_to.map (·.1)) : (List Str)), dictA p7 (s10.2 : (List (Int × Bool))), lstA p6 (s10.1 : (List (List Str))), F] : List (Asn G)) := hS
      refine sq_nx ?_
      refine c_ret ?_
      refine ev_to (ev_fz (ev_var rfl)) ?_
      have hS : Sep H (ThreadsA a_v_self v_self :: [lstA p8 (sortT (v_self.goes_to.map (·.1)) : (List Str)), dictA p7 (s10.2 : (List (Int × Bool))), lstA p6 (s10.1 : (List (List Str))), F] : List (Asn G)) := pack_Threads (hS.sel [0, 1, 2, 3, 4, 5, 6, 7, 8] (by decide) rfl)
      exact hm _ _ (hS.sel [3, 0, 4] (by decide) rfl)
def sp_law_draws (G : Gx) : Sp := fun vs H Q E => ∃ (a_v_law_script : V) (v_law_script : Script) (v_law_many : Int) (F : Asn G), vs = [a_v_law_script, (.int (v_law_many))] ∧ Im.im G H a_v_law_script v_law_script ∧ Sep H ([F] : List (Asn G)) ∧ R.wp (m_law_draws v_law_script v_law_many) (fun r => ∀ p H', Sep H' ([lstA p (r : (List Int)), F] : List (Asn G)) → Q (.ref p) H') (fun _ => False)
abbrev N_law_draws : List Str := ["_law_script", "_law_many", "_law_found", "_law_more", "_law_k", "_law_cell"]
theorem sc_law_draws : FnScope N_law_draws ["_law_script", "_law_many"] (defScope s_law_draws) := ⟨rfl, rfl, rfl, by decide +kernel, rfl, by decide +kernel, by decide +kernel⟩
theorem ok_law_draws (T : Txt G mg) : FnOk P w G.K mg base CX0 1 T.a_law_draws T.fd_law_draws ["_law_script", "_law_many"] (sp_law_draws G) := by
  have nd := sc_law_draws.nd
  refine Fun.ok T.F_law_draws sc_law_draws (fun vs H Q E h => ?_) (fun cdv A outer s H vs Q E hr h => ?_)
  · obtain ⟨a_v_law_script, v_law_script, v_law_many, F, rfl, _⟩ := h; rfl
  · obtain ⟨a_v_law_script, v_law_script, v_law_many, F, rfl, him_v_law_script, hS, hm⟩ := h
    obtain ⟨ad_v_law_script, rfl, _⟩ := im_script him_v_law_script
    have hS := hS.addIm him_v_law_script
    refine ⟨_, (pss_cons (ps_set (i := 2) nd rfl (Or.inl rfl) (pe_fz (pe_lst pa_nil)))
      (pss_cons (ps_set (i := 3) nd rfl (Or.inl rfl) pe_int)
      (pss_cons (ps_for PassesOwn.never rfl (pi_range1 rfl T.z_range (pa_cons (pv 1) pa_nil)) (pg_name (i := 4) nd rfl (Or.inl rfl)) (pss_cons (ps_set (i := 5) nd rfl (Or.inl rfl) pe_int)
      (pss_cons (ps_if (pt_cmpR op_gt (pe_callB (lenSqK G.K) (by rfl) T.z_len PySem.boot_len (pa_cons (pv 0) pa_nil)) pe_int (nomark _)) (pss_one (ps_set (i := 5) nd rfl (Or.inl rfl) (pe_ix (ix_listK G.K) (pv 0) (pe_op op_mod (pv 4) (pe_callB (lenSqK G.K) (by rfl) T.z_len PySem.boot_len (pa_cons (pv 0) pa_nil))) (fun _ _ => rfl)))) pss_nil)
      (pss_cons (ps_set (i := 3) nd rfl (Or.inl rfl) (pe_op op_mod (pe_op op_add (pe_op op_add (pe_op op_add (pe_op op_mul (pv 3) pe_int) (pv 5)) (pv 4)) pe_int) pe_int))
      (pss_one (ps_expr (pe_bmK G.K PySem.F.plainAttrs_list PySem.F.slot_list_append PySem.F.type_list_append mt_append (pe_fz (pv 2)) (pa_cons (pe_op op_mod (pe_op op_mul (pv 3) (pv 3)) pe_int) pa_nil))))))))
      (pss_one (ps_ret (pe_fz (pv 2))))))), ?_⟩
    unfold m_law_draws at hm
    refine f_seq ?_
    refine c_asg ?_
    refine c_fz ?_
    refine c_lst ?_
    refine ea_to ea_nil ?_
    refine k_lst (α := Int) (vs := []) (xs := ([] : (List Int))) hS True.intro (by show 0 ≤ sizeLine; decide) fun p1 H hS => ?_
    refine fz_no ?_
    refine c_set (σ' := [some (.ref ad_v_law_script), some (.int (v_law_many)), some (.ref p1), none, none, none]) rfl ?_
    refine sq_nx ?_
    refine f_seq ?_
    refine c_asg ?_
    refine ev_to ev_c ?_
    refine c_set (σ' := [some (.ref ad_v_law_script), some (.int (v_law_many)), some (.ref p1), some (.int (7)), none, none]) rfl ?_
    refine sq_nx ?_
    refine f_seq ?_
    refine c_for ?_
    refine c_rng1 ?_
    refine ea_to (ea_cons (ev_var rfl) ea_nil) ?_
    obtain ⟨h2, hm⟩ := R.wp_need hm
    refine k_rng1 h2.1 h2.2 ?_
    refine k_for (τ := (List Int) × Int) (fun (s3 : (List Int) × Int) (σ : L2.St) (H : Hp) => ∃ (w6 w7 : Option V), σ = [some (.ref ad_v_law_script), some (.int (v_law_many)), some (.ref p1), some (.int (s3.2)), w6, w7] ∧ Sep H ([lstA p1 (s3.1 : (List Int)), imA (.ref ad_v_law_script) v_law_script, F] : List (Asn G))) (im := (fun _ v (x : Int) => v = .int x)) (s := (([] : (List Int)), 7)) (fun _ => wk_range) ⟨_, _, rfl, hS.sel [0, 1, 2] (by decide) rfl⟩ hm (fun s3 x4 v5 σ H q N hI hx hm nx => ?_) (fun s3 σ H hm hI => ?_)
    ·
      obtain ⟨w6, w7, rfl, hS⟩ := hI
      cases hx
      refine c_gN (σ' := [some (.ref ad_v_law_script), some (.int (v_law_many)), some (.ref p1), some (.int (s3.2)), some (.int (x4)), w7]) rfl ?_
      refine f_seq ?_
      refine c_asg ?_
      refine ev_to ev_c ?_
      refine c_set (σ' := [some (.ref ad_v_law_script), some (.int (v_law_many)), some (.ref p1), some (.int (s3.2)), some (.int (x4)), some (.int (0))]) rfl ?_
      refine sq_nx ?_
      refine f_seq ?_
      refine f_if ?_
      refine et_to (et_test (ev_i0 (ev_lenLm (ev_var rfl) (sq_script (hS.im (i := 1) rfl))) ev_c)) ?_
      refine ifK_J (τ := Int) (fun (s8 : Int) (σ : L2.St) (H : Hp) => σ = [some (.ref ad_v_law_script), some (.int (v_law_many)), some (.ref p1), some (.int (s3.2)), some (.int (x4)), some (.int (s8))] ∧ Sep H ([lstA p1 (s3.1 : (List Int)), imA (.ref ad_v_law_script) v_law_script, F] : List (Asn G))) hm (fun hb q hm nx => ?_) (fun hb q hm nx => ?_) (fun s8 σ H hm hI => ?_)
      ·
        refine c_asg ?_
        obtain ⟨h9, hm⟩ := R.wp_need hm
        obtain ⟨x10, hx10, hm⟩ := wp_idx hm
        refine ev_to (ev_ixSq (ev_var rfl) (ev_mod (ev_var rfl) (ev_lenLm (ev_var rfl) (sq_script (hS.im (i := 1) rfl))) h9) (sq_script (hS.im (i := 1) rfl)) (atI_map hx10)) ?_
        refine c_set (σ' := [some (.ref ad_v_law_script), some (.int (v_law_many)), some (.ref p1), some (.int (s3.2)), some (.int (x4)), some (.int (x10))]) rfl ?_
        exact nx _ _ _ hm ⟨rfl, hS.sel [0, 1, 2] (by decide) rfl⟩
      ·
        refine st_nx ?_
        exact nx _ _ _ hm ⟨rfl, hS.sel [0, 1, 2] (by decide) rfl⟩
      · obtain ⟨rfl, hS⟩ := hI
        refine sq_nx ?_
        refine f_seq ?_
        refine c_asg ?_
        refine ev_to (ev_mod (ev_add (ev_add (ev_add (ev_mul (ev_var rfl) ev_c (.inr (by constructor <;> decide))) (ev_var rfl)) (ev_var rfl)) ev_c) ev_c (by decide)) ?_
        obtain ⟨y11, hy11, hm⟩ := wp_let hm
        refine n_is (w := (.int (y11))) (by first | rw [hy11] | (subst hy11; rfl)) ?_
        refine c_set (σ' := [some (.ref ad_v_law_script), some (.int (v_law_many)), some (.ref p1), some (.int (y11)), some (.int (x4)), some (.int (s8))]) rfl ?_
        refine sq_nx ?_
        refine c_drop ?_
        refine c_bm ?_
        refine ev_to (ev_fz (ev_var rfl)) ⟨tyL hS (i := 0) rfl, ?_⟩
        obtain ⟨h12, hm⟩ := R.wp_need hm
        refine ea_to (ea_cons (ev_mod (ev_mul (ev_var rfl) (ev_var rfl) h12) ev_c (by decide)) ea_nil) ?_
        obtain ⟨h13, hm⟩ := R.wp_need hm
        refine k_append (x := (y11 * y11) % 2147483629) hS (i := 0) rfl rfl h13 rfl fun H hS => ?_
        exact nx _ _ _ hm ⟨_, _, rfl, hS.sel [0, 1, 2] (by decide) rfl⟩
    · obtain ⟨w6, w7, rfl, hS⟩ := hI
      refine sq_nx ?_
      refine c_ret ?_
      refine ev_to (ev_fz (ev_var rfl)) ?_
      exact hm _ _ (hS.sel [0, 2] (by decide) rfl)
def sp_law_name_by (G : Gx) : Sp := fun vs H Q E => ∃ (v_law_shape : Int) (v_law_k : Int) (F : Asn G), vs = [(.int (v_law_shape)), (.int (v_law_k))] ∧ Sep H ([F] : List (Asn G)) ∧ R.wp (m_law_name_by v_law_shape v_law_k) (fun r => ∀ H', Sep H' ([F] : List (Asn G)) → Q (.str (r)) H') (fun _ => False)
abbrev N_law_name_by : List Str := ["_law_shape", "_law_k", "_law_signs", "_law_place", "_law_name", "_law_turn"]
theorem sc_law_name_by : FnScope N_law_name_by ["_law_shape", "_law_k"] (defScope s_law_name_by) := ⟨rfl, rfl, rfl, by decide +kernel, rfl, by decide +kernel, by decide +kernel⟩
theorem ok_law_name_by (T : Txt G mg) : FnOk P w G.K mg base CX0 1 T.a_law_name_by T.fd_law_name_by ["_law_shape", "_law_k"] (sp_law_name_by G) := by
  have nd := sc_law_name_by.nd
  refine Fun.ok T.F_law_name_by sc_law_name_by (fun vs H Q E h => ?_) (fun cdv A outer s H vs Q E hr h => ?_)
  · obtain ⟨v_law_shape, v_law_k, F, rfl, _⟩ := h; rfl
  · obtain ⟨v_law_shape, v_law_k, F, rfl, hS, hm⟩ := h
    refine ⟨_, (pss_cons (ps_set (i := 2) nd rfl (Or.inl rfl) pe_str)
      (pss_cons (ps_if (pt_cmpR op_eq (pe_op op_mod (pv 0) pe_int) pe_int (nomark _)) (pss_one (ps_ret (pe_op op_repS (pe_ix ix_str (pv 2) (pe_op op_mod (pe_op op_add (pe_op op_fdiv (pv 0) pe_int) (pe_op op_fdiv (pv 1) pe_int)) pe_int) (fun _ _ => rfl)) (pe_op op_add pe_int (pe_op op_mod (pv 1) pe_int))))) pss_nil)
      (pss_cons (ps_set (i := 3) nd rfl (Or.inl rfl) (pe_op op_mod (pe_op op_fdiv (pv 0) pe_int) pe_int))
      (pss_cons (ps_set (i := 4) nd rfl (Or.inl rfl) pe_str)
      (pss_cons (ps_for PassesOwn.never rfl (pi_range1 rfl T.z_range (pa_cons (pe_op op_add (pe_op op_add (pv 3) pe_int) (pe_op op_mod (pe_op op_fdiv (pv 0) pe_int) (pe_op op_sub pe_int (pv 3)))) pa_nil)) (pg_name (i := 5) nd rfl (Or.inl rfl)) (pss_one (ps_if (pt_cmpR op_eq (pv 5) (pv 3) (nomark _)) (pss_one (ps_set (i := 4) nd rfl (Or.inl rfl) (pe_op op_catS (pv 4) (pe_ix ix_str (pv 2) (pe_op op_mod (pe_op op_add (pe_op op_fdiv (pv 0) pe_int) (pe_op op_fdiv (pv 1) pe_int)) pe_int) (fun _ _ => rfl))))) (pss_one (ps_if (pt_cmpR op_eq (pv 5) (pe_op op_add (pv 3) pe_int) (nomark _)) (pss_one (ps_set (i := 4) nd rfl (Or.inl rfl) (pe_op op_catS (pv 4) (pe_ix ix_str (pv 2) (pe_op op_mod (pe_op op_add (pe_op op_fdiv (pv 0) pe_int) (pv 1)) pe_int) (fun _ _ => rfl))))) (pss_one (ps_set (i := 4) nd rfl (Or.inl rfl) (pe_op op_catS (pv 4) (pe_ix ix_str (pv 2) (pe_op op_mod (pe_op op_add (pe_op op_fdiv (pv 0) pe_int) (pe_op op_mul (pv 5) (pe_op op_add pe_int (pe_op op_mod (pv 0) pe_int)))) pe_int) (fun _ _ => rfl))))))))))
      (pss_one (ps_ret (pv 4)))))))), ?_⟩
    unfold m_law_name_by at hm
    refine f_seq ?_
    refine c_asg ?_
    refine ev_to ev_c ?_
    refine c_set (σ' := [some (.int (v_law_shape)), some (.int (v_law_k)), some (.str (("abcdefghijklmnopqrstuvwxyz0123456789" : Str))), none, none, none]) rfl ?_
    refine sq_nx ?_
    refine f_seq ?_
    refine f_if ?_
    refine et_to (et_test (ev_eqI (ev_mod (ev_var rfl) ev_c (by decide)) ev_c)) ?_
    refine ifK_2 (fun hb1 => ?_) (fun hb1 => ?_)
    · have hm := R.wp_ifY hm hb1
      refine c_ret ?_
      obtain ⟨c2, hc2, hm⟩ := wp_idx hm
      obtain ⟨h3, hm⟩ := R.wp_need hm
      refine ev_to (ev_repS (ev_ixS (ev_var rfl) (ev_mod (ev_add (ev_fdiv (ev_var rfl) ev_c ⟨by decide, by decide⟩) (ev_fdiv (ev_var rfl) ev_c ⟨by decide, by decide⟩)) ev_c (by decide)) (by decide +kernel) hc2) (ev_add ev_c (ev_mod (ev_var rfl) ev_c (by decide))) h3) ?_
      exact hm _ (hS.sel [0] (by decide) rfl)
    · have hm := R.wp_ifN hm (by first | (rw [hb1]; decide) | simpa using hb1)
      refine st_nx ?_
      refine sq_nx ?_
      refine f_seq ?_
      refine c_asg ?_
      refine ev_to (ev_mod (ev_fdiv (ev_var rfl) ev_c ⟨by decide, by decide⟩) ev_c (by decide)) ?_
      obtain ⟨y4, hy4, hm⟩ := wp_let hm
      refine n_is (w := (.int (y4))) (by first | rw [hy4] | (subst hy4; rfl)) ?_
      refine c_set (σ' := [some (.int (v_law_shape)), some (.int (v_law_k)), some (.str (("abcdefghijklmnopqrstuvwxyz0123456789" : Str))), some (.int (y4)), none, none]) rfl ?_
      refine sq_nx ?_
      refine f_seq ?_
      refine c_asg ?_
      refine ev_to ev_c ?_
      refine c_set (σ' := [some (.int (v_law_shape)), some (.int (v_law_k)), some (.str (("abcdefghijklmnopqrstuvwxyz0123456789" : Str))), some (.int (y4)), some (.str (("" : Str))), none]) rfl ?_
      refine sq_nx ?_
      refine f_seq ?_
      refine c_for ?_
      refine c_rng1 ?_
      obtain ⟨h5, hm⟩ := R.wp_need hm
      refine ea_to (ea_cons (ev_add (ev_add (ev_var rfl) ev_c) (ev_mod (ev_fdiv (ev_var rfl) ev_c ⟨by decide, by decide⟩) (ev_sub ev_c (ev_var rfl)) h5)) ea_nil) ?_
      obtain ⟨h6, hm⟩ := R.wp_need hm
      refine k_rng1 h6.1 h6.2 ?_
      refine k_for (τ := Str) (fun (s7 : Str) (σ : L2.St) (H : Hp) => ∃ (w10 : Option V), σ = [some (.int (v_law_shape)), some (.int (v_law_k)), some (.str (("abcdefghijklmnopqrstuvwxyz0123456789" : Str))), some (.int (y4)), some (.str (s7)), w10] ∧ Sep H ([F] : List (Asn G))) (im := (fun _ v (x : Int) => v = .int x)) (s := (("" : Str))) (fun _ => wk_range) ⟨_, rfl, hS.sel [0] (by decide) rfl⟩ hm (fun s7 x8 v9 σ H q N hI hx hm nx => ?_) (fun s7 σ H hm hI => ?_)
      ·
        obtain ⟨w10, rfl, hS⟩ := hI
        cases hx
        refine c_gN (σ' := [some (.int (v_law_shape)), some (.int (v_law_k)), some (.str (("abcdefghijklmnopqrstuvwxyz0123456789" : Str))), some (.int (y4)), some (.str (s7)), some (.int (x8))]) rfl ?_
        refine f_if ?_
        refine et_to (et_test (ev_eqI (ev_var rfl) (ev_var rfl))) ?_
        refine ifK_J (τ := Str) (fun (s11 : Str) (σ : L2.St) (H : Hp) => σ = [some (.int (v_law_shape)), some (.int (v_law_k)), some (.str (("abcdefghijklmnopqrstuvwxyz0123456789" : Str))), some (.int (y4)), some (.str (s11)), some (.int (x8))] ∧ Sep H ([F] : List (Asn G))) hm (fun hb q hm nx => ?_) (fun hb q hm nx => ?_) (fun s11 σ H hm hI => ?_)
        ·
          refine c_asg ?_
          obtain ⟨c12, hc12, hm⟩ := wp_idx hm
          obtain ⟨h13, hm⟩ := R.wp_need hm
          refine ev_to (ev_catS (ev_var rfl) (ev_ixS (ev_var rfl) (ev_mod (ev_add (ev_fdiv (ev_var rfl) ev_c ⟨by decide, by decide⟩) (ev_fdiv (ev_var rfl) ev_c ⟨by decide, by decide⟩)) ev_c (by decide)) (by decide +kernel) hc12) h13) ?_
          obtain ⟨y14, hy14, hm⟩ := wp_let hm
          refine n_is (w := (.str (y14))) (by first | rw [hy14] | (subst hy14; rfl)) ?_
          refine c_set (σ' := [some (.int (v_law_shape)), some (.int (v_law_k)), some (.str (("abcdefghijklmnopqrstuvwxyz0123456789" : Str))), some (.int (y4)), some (.str (y14)), some (.int (x8))]) rfl ?_
          exact nx _ _ _ hm ⟨rfl, hS.sel [0] (by decide) rfl⟩
        ·
          refine f_if ?_
          refine et_to (et_test (ev_eqI (ev_var rfl) (ev_add (ev_var rfl) ev_c))) ?_
          refine ifK_J (τ := Str) (fun (s15 : Str) (σ : L2.St) (H : Hp) => σ = [some (.int (v_law_shape)), some (.int (v_law_k)), some (.str (("abcdefghijklmnopqrstuvwxyz0123456789" : Str))), some (.int (y4)), some (.str (s15)), some (.int (x8))] ∧ Sep H ([F] : List (Asn G))) hm (fun hb q hm nx => ?_) (fun hb q hm nx => ?_) (fun s15 σ H hm hI => ?_)
          ·
            refine c_asg ?_
            obtain ⟨c16, hc16, hm⟩ := wp_idx hm
            obtain ⟨h17, hm⟩ := R.wp_need hm
            refine ev_to (ev_catS (ev_var rfl) (ev_ixS (ev_var rfl) (ev_mod (ev_add (ev_fdiv (ev_var rfl) ev_c ⟨by decide, by decide⟩) (ev_var rfl)) ev_c (by decide)) (by decide +kernel) hc16) h17) ?_
            obtain ⟨y18, hy18, hm⟩ := wp_let hm
            refine n_is (w := (.str (y18))) (by first | rw [hy18] | (subst hy18; rfl)) ?_
            refine c_set (σ' := [some (.int (v_law_shape)), some (.int (v_law_k)), some (.str (("abcdefghijklmnopqrstuvwxyz0123456789" : Str))), some (.int (y4)), some (.str (y18)), some (.int (x8))]) rfl ?_
            exact nx _ _ _ hm ⟨rfl, hS.sel [0] (by decide) rfl⟩
          ·
            refine c_asg ?_
            obtain ⟨h19, hm⟩ := R.wp_need hm
            obtain ⟨c20, hc20, hm⟩ := wp_idx hm
            obtain ⟨h21, hm⟩ := R.wp_need hm
            refine ev_to (ev_catS (ev_var rfl) (ev_ixS (ev_var rfl) (ev_mod (ev_add (ev_fdiv (ev_var rfl) ev_c ⟨by decide, by decide⟩) (ev_mul (ev_var rfl) (ev_add ev_c (ev_mod (ev_var rfl) ev_c (by decide))) h19)) ev_c (by decide)) (by decide +kernel) hc20) h21) ?_
            obtain ⟨y22, hy22, hm⟩ := wp_let hm
            refine n_is (w := (.str (y22))) (by first | rw [hy22] | (subst hy22; rfl)) ?_
            refine c_set (σ' := [some (.int (v_law_shape)), some (.int (v_law_k)), some (.str (("abcdefghijklmnopqrstuvwxyz0123456789" : Str))), some (.int (y4)), some (.str (y22)), some (.int (x8))]) rfl ?_
            exact nx _ _ _ hm ⟨rfl, hS.sel [0] (by decide) rfl⟩
          · obtain ⟨rfl, hS⟩ := hI
            exact nx _ _ _ hm ⟨rfl, hS.sel [0] (by decide) rfl⟩
        · obtain ⟨rfl, hS⟩ := hI
          exact nx _ _ _ hm ⟨_, rfl, hS.sel [0] (by decide) rfl⟩
      · obtain ⟨w10, rfl, hS⟩ := hI
        refine sq_nx ?_
        refine c_ret ?_
        refine ev_to (ev_var rfl) ?_
        exact hm _ (hS.sel [0] (by decide) rfl)
def sp_law_pool (G : Gx) : Sp := fun vs H Q E => ∃ (a_v_law_draws_here : Addr) (v_law_draws_here : (List Int)) (F : Asn G), vs = [.ref a_v_law_draws_here] ∧ Sep H ([lstA a_v_law_draws_here (v_law_draws_here : (List Int)), F] : List (Asn G)) ∧ R.wp (m_law_pool v_law_draws_here) (fun r => ∀ p H', Sep H' ([lstA p (r : (List Str)), lstA a_v_law_draws_here (v_law_draws_here : (List Int)), F] : List (Asn G)) → Q (.ref p) H') (fun _ => False)
abbrev N_law_pool : List Str := ["_law_draws_here", "_law_many", "_law_k"]
theorem sc_law_pool : FnScope N_law_pool ["_law_draws_here"] (defScope s_law_pool) := ⟨rfl, rfl, rfl, by decide +kernel, rfl, by decide +kernel, by decide +kernel⟩
theorem ok_law_pool (T : Txt G mg) : FnOk P w G.K mg base CX0 2 T.a_law_pool T.fd_law_pool ["_law_draws_here"] (sp_law_pool G) := by
  have nd := sc_law_pool.nd
  refine Fun.ok T.F_law_pool sc_law_pool (fun vs H Q E h => ?_) (fun cdv A outer s H vs Q E hr h => ?_)
  · obtain ⟨a_v_law_draws_here, v_law_draws_here, F, rfl, _⟩ := h; rfl
  · obtain ⟨a_v_law_draws_here, v_law_draws_here, F, rfl, hS, hm⟩ := h
    refine ⟨_, (pss_cons (ps_set (i := 1) nd rfl (Or.inl rfl) (pe_op op_add pe_int (pe_op op_mod (pe_ix (ix_listK G.K) (pe_fz (pv 0)) pe_int (fun _ _ => rfl)) pe_int)))
      (pss_one (ps_ret (pe_fz (pe_lc (own := [("_law_k", 2)]) (g := gName 2) rfl nd (pi_range1 rfl T.z_range (pa_cons (pv 1) pa_nil)) (blkOk_by (own := [("_law_k", 2)]) (N := N_law_pool) (sc := defScope s_law_pool) (by decide +kernel)) (fun _ _ _ _ _ => pg_name (i := 2) nd rfl (Or.inl rfl)) (fun _ _ _ _ _ => pts_nil) (fun _ _ _ _ _ => (pe_call (ok_law_name_by T) (hr.mono (by decide)) rfl T.g_law_name_by T.kp_law_name_by T.b_law_name_by .nil pass0 (pa_cons (pe_ix (ix_listK G.K) (pe_fz (pv 0)) pe_int (fun _ _ => rfl)) (pa_cons (pv 2) pa_nil))))))))), ?_⟩
    unfold m_law_pool at hm
    refine f_seq ?_
    refine c_asg ?_
    obtain ⟨x1, hx1, hm⟩ := wp_idx hm
    refine ev_to (ev_add ev_c (ev_mod (ev_ixSq (ev_fz (ev_var rfl)) ev_c (hS.sqF (i := 0) rfl) (atI_map hx1)) ev_c (by decide))) ?_
    obtain ⟨y2, hy2, hm⟩ := wp_let hm
    refine n_is (w := (.int (y2))) (by first | rw [hy2] | (subst hy2; rfl)) ?_
    refine c_set (σ' := [some (.ref a_v_law_draws_here), some (.int (y2)), none]) rfl ?_
    refine sq_nx ?_
    refine c_ret ?_
    refine c_fz ?_
    refine c_lc ?_
    refine c_rng1 ?_
    refine ea_to (ea_cons (ev_var rfl) ea_nil) ?_
    obtain ⟨h3, hm⟩ := R.wp_need hm
    refine k_rng1 h3.1 h3.2 ?_
    obtain ⟨h4, hm⟩ := R.wp_need hm
    refine lc_sep (β := Str) (fun (_ : Unit) => ([lstA a_v_law_draws_here (v_law_draws_here : (List Int)), F] : List (Asn G))) (s := ()) (im := (fun _ v (x : Int) => v = .int x)) hS (fun _ _ _ => wk_range) h4 hm (fun p5 _ ys8 x6 v7 H q Nx hS hx hm kS kN => ?_) (fun p5 t H hm hS => ?_)
    ·
      cases hx
      refine c_gLc (σ' := [some (.ref a_v_law_draws_here), some (.int (y2)), some (.int (x6))]) rfl rfl ?_
      refine c_yes ?_
      refine c_call ?_
      obtain ⟨x9, hx9, hm⟩ := wp_idx hm
      refine ea_to (ea_cons (ev_ixSq (ev_fz (ev_var rfl)) ev_c (hS.sqF (i := 1) rfl) (atI_map hx9)) (ea_cons (ev_var rfl) ea_nil)) ?_
      refine ⟨x9, x6, star [lstA p5 (ys8 : List Str), lstA a_v_law_draws_here (v_law_draws_here : (List Int)), F], rfl, Sep.unstar (M := []) (hS.sel [0, 1, 2] (by decide) rfl : Sep H (([] ++ [lstA p5 (ys8 : List Str), lstA a_v_law_draws_here (v_law_draws_here : (List Int)), F] : List (Asn G)))), R.wp_mono (R.wp_bind hm) (fun r10 hm H hS => ?_) (fun _ z => z)⟩
      have hS : Sep H ([lstA p5 (ys8 : List Str), lstA a_v_law_draws_here (v_law_draws_here : (List Int)), F] : List (Asn G)) := Sep.star (M := []) hS
      exact kS () _ _ _ hm rfl (hS.sel [0, 1, 2] (by decide) rfl)
    · revert hm hS; generalize t = t11; intro hm hS
      refine fz_no ?_
      exact hm _ _ (hS.sel [0, 1, 2] (by decide) rfl)
def sp_law_hang (G : Gx) : Sp := fun vs H Q E => ∃ (a_v_law_one : Addr) (v_law_one : (Str × Str)) (a_v_law_other : Addr) (v_law_other : (Str × Str)) (F : Asn G), vs = [(.ref a_v_law_one), (.ref a_v_law_other)] ∧ Im.im G H (.ref a_v_law_one) v_law_one ∧ Im.im G H (.ref a_v_law_other) v_law_other ∧ Sep H ([F] : List (Asn G)) ∧ R.wp (m_law_hang v_law_one v_law_other) (fun r => ∀ H', Sep H' ([F] : List (Asn G)) → Q (.bl (r)) H') (fun _ => False)
abbrev N_law_hang : List Str := ["_law_one", "_law_other"]
theorem sc_law_hang : FnScope N_law_hang ["_law_one", "_law_other"] (defScope s_law_hang) := ⟨rfl, rfl, rfl, by decide +kernel, rfl, by decide +kernel, by decide +kernel⟩
theorem ok_law_hang (T : Txt G mg) : FnOk P w G.K mg base CX0 1 T.a_law_hang T.fd_law_hang ["_law_one", "_law_other"] (sp_law_hang G) := by
  have nd := sc_law_hang.nd
  refine Fun.ok T.F_law_hang sc_law_hang (fun vs H Q E h => ?_) (fun cdv A outer s H vs Q E hr h => ?_)
  · obtain ⟨a_v_law_one, v_law_one, a_v_law_other, v_law_other, F, rfl, _⟩ := h; rfl
  · obtain ⟨a_v_law_one, v_law_one, a_v_law_other, v_law_other, F, rfl, him_v_law_one, him_v_law_other, hS, hm⟩ := h
    have hS := hS.addIm him_v_law_one
    have hS := hS.addIm him_v_law_other
    refine ⟨_, (pss_one (ps_ret (pe_or (pe_cmpR op_eq (pe_ix (ix_tupK G.K) (pv 0) pe_int (fun _ _ => rfl)) (pe_ix (ix_tupK G.K) (pv 1) pe_int (fun _ _ => rfl)) (nomark _)) (pe_or (pe_cmpR op_eq (pe_ix (ix_tupK G.K) (pv 1) pe_int (fun _ _ => rfl)) (pe_ix (ix_tupK G.K) (pv 0) pe_int (fun _ _ => rfl)) (nomark _)) (pe_one (pe_and (pe_cmpR op_ne (pe_ix (ix_tupK G.K) (pv 0) pe_int (fun _ _ => rfl)) pe_str (nomark _)) (pe_one (pe_cmpR op_eq (pe_ix (ix_tupK G.K) (pv 0) pe_int (fun _ _ => rfl)) (pe_ix (ix_tupK G.K) (pv 1) pe_int (fun _ _ => rfl)) (nomark _))))))))), ?_⟩
    unfold m_law_hang at hm
    refine c_ret ?_
    obtain ⟨u1, u2, hT5, h3, h4⟩ := im2 (hS.im (i := 1) rfl)
    obtain rfl : u1 = (.str (v_law_one.1)) := h3
    obtain rfl : u2 = (.str (v_law_one.2)) := h4
    obtain ⟨u6, u7, hT10, h8, h9⟩ := im2 (hS.im (i := 0) rfl)
    obtain rfl : u6 = (.str (v_law_other.1)) := h8
    obtain rfl : u7 = (.str (v_law_other.2)) := h9
    obtain ⟨u11, u12, hT15, h13, h14⟩ := im2 (hS.im (i := 0) rfl)
    obtain rfl : u11 = (.str (v_law_other.1)) := h13
    obtain rfl : u12 = (.str (v_law_other.2)) := h14
    obtain ⟨u16, u17, hT20, h18, h19⟩ := im2 (hS.im (i := 1) rfl)
    obtain rfl : u16 = (.str (v_law_one.1)) := h18
    obtain rfl : u17 = (.str (v_law_one.2)) := h19
    obtain ⟨u21, u22, hT25, h23, h24⟩ := im2 (hS.im (i := 1) rfl)
    obtain rfl : u21 = (.str (v_law_one.1)) := h23
    obtain rfl : u22 = (.str (v_law_one.2)) := h24
    obtain ⟨u26, u27, hT30, h28, h29⟩ := im2 (hS.im (i := 1) rfl)
    obtain rfl : u26 = (.str (v_law_one.1)) := h28
    obtain rfl : u27 = (.str (v_law_one.2)) := h29
    obtain ⟨u31, u32, hT35, h33, h34⟩ := im2 (hS.im (i := 0) rfl)
    obtain rfl : u31 = (.str (v_law_other.1)) := h33
    obtain rfl : u32 = (.str (v_law_other.2)) := h34
    refine ev_to (ev_orV (ev_eqS (ev_ixT (ev_var rfl) ev_c hT5 rfl) (ev_ixT (ev_var rfl) ev_c hT10 rfl)) fun _ => (ev_orV (ev_eqS (ev_ixT (ev_var rfl) ev_c hT15 rfl) (ev_ixT (ev_var rfl) ev_c hT20 rfl)) fun _ => (ev_andV (ev_neS (ev_ixT (ev_var rfl) ev_c hT25 rfl) ev_c) fun _ => (ev_eqS (ev_ixT (ev_var rfl) ev_c hT30 rfl) (ev_ixT (ev_var rfl) ev_c hT35 rfl))))) ?_
    exact hm _ (hS.sel [2] (by decide) rfl)
def sp_law_thread (G : Gx) : Sp := fun vs H Q E => ∃ (a_v_law_rows : Addr) (v_law_rows : (List (Str × Str))) (v_law_name : Str) (F : Asn G), vs = [.ref a_v_law_rows, (.str (v_law_name))] ∧ Sep H ([lstA a_v_law_rows (v_law_rows : (List (Str × Str))), F] : List (Asn G)) ∧ R.wp (m_law_thread v_law_rows v_law_name) (fun r => ∀ p H', Sep H' ([lstA p (r : (List Str)), lstA a_v_law_rows (v_law_rows : (List (Str × Str))), F] : List (Asn G)) → Q (.ref p) H') (fun _ => False)
abbrev N_law_thread : List Str := ["_law_rows", "_law_name", "_law_row", "_law_found", "_law_at"]
theorem sc_law_thread : FnScope N_law_thread ["_law_rows", "_law_name"] (defScope s_law_thread) := ⟨rfl, rfl, rfl, by decide +kernel, rfl, by decide +kernel, by decide +kernel⟩
theorem ok_law_thread (T : Txt G mg) : FnOk P w G.K mg base CX0 2 T.a_law_thread T.fd_law_thread ["_law_rows", "_law_name"] (sp_law_thread G) := by
  have nd := sc_law_thread.nd
  refine Fun.ok T.F_law_thread sc_law_thread (fun vs H Q E h => ?_) (fun cdv A outer s H vs Q E hr h => ?_)
  · obtain ⟨a_v_law_rows, v_law_rows, v_law_name, F, rfl, _⟩ := h; rfl
  · obtain ⟨a_v_law_rows, v_law_rows, v_law_name, F, rfl, hS, hm⟩ := h
    refine ⟨_, (pss_cons (ps_set (i := 3) nd rfl (Or.inr rfl) (pe_fz (pe_lc (own := [("_law_row", 2)]) (g := gName 2) rfl nd (pi_listK G.K (pe_fz (pv 0))) (blkOk_by (own := [("_law_row", 2)]) (N := N_law_thread) (sc := defScope s_law_thread) (by decide +kernel)) (fun _ _ _ _ _ => pg_name (i := 2) nd rfl (Or.inl rfl)) (fun _ _ _ _ _ => pts_one (pt_cmpR op_eq (pe_ix (ix_tupK G.K) (pv 2) pe_int (fun _ _ => rfl)) (pv 1) (nomark _))) (fun _ _ _ _ _ => (pv 2)))))
      (pss_cons (ps_set (i := 4) nd rfl (Or.inr rfl) pe_int)
      (pss_cons (ps_while PassesOwn.never (pt_cmpR op_lt (pv 4) (pe_callB (lenSqK G.K) (by rfl) T.z_len PySem.boot_len (pa_cons (pe_fz (pv 3)) pa_nil)) (nomark _)) (pss_cons (ps_set (i := 3) nd rfl (Or.inr rfl) (pe_fz (pe_op op_catR (pe_fz (pv 3)) (pe_fz (pe_lc (own := [("_law_row", 2)]) (g := gName 2) rfl nd (pi_listK G.K (pe_fz (pv 0))) (blkOk_by (own := [("_law_row", 2)]) (N := N_law_thread) (sc := defScope s_law_thread) (by decide +kernel)) (fun _ _ _ _ _ => pg_name (i := 2) nd rfl (Or.inl rfl)) (fun _ _ _ _ _ => pts_one (PW.pt (pw_and (pt_cmpR (niDK G.K (hu0 hr)) (pv 2) (pe_fz (pv 3)) (by rfl)) (pw_and1 (pt_val (pe_call (ok_law_hang T) (hr.mono (by decide)) rfl T.g_law_hang T.kp_law_hang T.b_law_hang .nil pass0 (pa_cons (pv 2) (pa_cons (pe_ix (ix_listK G.K) (pe_fz (pv 3)) (pv 4) (fun _ _ => rfl)) pa_nil)))))))) (fun _ _ _ _ _ => (pv 2)))))))
      (pss_one (ps_set (i := 4) nd rfl (Or.inr rfl) (pe_op op_add (pv 4) pe_int)))))
      (pss_one (ps_ret (pe_fz (pe_callB (sortedSK G.K) (by rfl) T.z_sorted (by decide +kernel) (pa_cons (pe_fz (pe_lc (own := [("_law_row", 2)]) (g := gName 2) rfl nd (pi_listK G.K (pe_fz (pv 3))) (blkOk_by (own := [("_law_row", 2)]) (N := N_law_thread) (sc := defScope s_law_thread) (by decide +kernel)) (fun _ _ _ _ _ => pg_name (i := 2) nd rfl (Or.inl rfl)) (fun _ _ _ _ _ => pts_nil) (fun _ _ _ _ _ => (pe_ix (ix_tupK G.K) (pv 2) pe_int (fun _ _ => rfl))))) pa_nil)))))))), ?_⟩
    unfold m_law_thread at hm
    refine f_seq ?_
    refine c_asg ?_
    refine c_fz ?_
    refine c_lc ?_
    refine c_il ?_
    refine ev_to (ev_fz (ev_var rfl)) ?_
    refine k_il hS (i := 0) rfl ?_
    obtain ⟨h1, hm⟩ := R.wp_need hm
    refine lc_sep (β := (Str × Str)) (fun (_ : Unit) => ([lstA a_v_law_rows (v_law_rows : (List (Str × Str))), F] : List (Asn G))) (s := ()) (im := (Im.im G)) hS (fun _ _ _ => wk_list fun _ _ h => h.sq (i := 1) rfl) h1 hm (fun p2 _ ys5 x3 v4 H q Nx hS hx hm kS kN => ?_) (fun p2 t H hm hS => ?_)
    ·
      obtain ⟨a6, rfl⟩ := isref hx
      have hS := hS.addIm (v := (.ref a6)) (x := (x3 : (Str × Str))) hx
      refine c_gLc (σ' := [some (.ref a_v_law_rows), some (.str (v_law_name)), some (.ref a6), none, none]) rfl rfl ?_
      obtain ⟨u8, u9, hT12, h10, h11⟩ := im2 (hS.im (i := 0) rfl)
      obtain rfl : u8 = (.str (x3.1)) := h10
      obtain rfl : u9 = (.str (x3.2)) := h11
      refine et_to (et_test (ev_eqS (ev_ixT (ev_var rfl) ev_c hT12 rfl) (ev_var rfl))) ?_
      refine lc_if (fun hb13 => ?_) (fun hb13 => ?_)
      · have hm := R.wp_ifY hm hb13
        refine ev_to (ev_var rfl) ?_
        exact kS () _ _ _ hm (hS.im (i := 0) rfl) (hS.sel [1, 2, 3] (by decide) rfl)
      · have hm := R.wp_ifN hm (by first | (rw [hb13]; decide) | simpa using hb13)
        exact kN () _ hm (hS.sel [1, 2, 3] (by decide) rfl)
    · revert hm hS; generalize t = t14; intro hm hS
      refine fz_no ?_
      refine c_set (σ' := [some (.ref a_v_law_rows), some (.str (v_law_name)), none, some (.ref p2), none]) rfl ?_
      refine sq_nx ?_
      refine f_seq ?_
      refine c_asg ?_
      refine ev_to ev_c ?_
      refine c_set (σ' := [some (.ref a_v_law_rows), some (.str (v_law_name)), none, some (.ref p2), some (.int (0))]) rfl ?_
      refine sq_nx ?_
      refine f_seq ?_
      refine k_whileN (τ := (List (Str × Str)) × Int) (n := 64) (c := fun (s15 : (List (Str × Str)) × Int) => decide (s15.2 < (s15.1.length : Int))) (s := (t14.2, 0)) (fun (s15 : (List (Str × Str)) × Int) (σ : L2.St) (H : Hp) => ∃ (a16 : Addr), σ = [some (.ref a_v_law_rows), some (.str (v_law_name)), none, some (.ref a16), some (.int (s15.2))] ∧ Sep H ([lstA a16 (s15.1 : (List (Str × Str))), lstA a_v_law_rows (v_law_rows : (List (Str × Str))), F] : List (Asn G))) ⟨_, rfl, hS.sel [0, 1, 2] (by decide) rfl⟩ hm (fun s15 σ H hI => by obtain ⟨a16, rfl, hS⟩ := hI; exact (et_test (ev_i0 (ev_var rfl) (ev_lenG (ev_fz (ev_var rfl)) (hS.sq (i := 0) rfl))))) (fun s15 σ H q N hI hm nx => ?_) (fun s15 σ H hm hI => ?_)
      ·
        obtain ⟨a16, rfl, hS⟩ := hI
        refine f_seq ?_
        refine c_asg ?_
        refine c_fz ?_
        refine c_op ?_
        refine ev_to (ev_fz (ev_var rfl)) ?_
        refine c_fz ?_
        refine c_lc ?_
        refine c_il ?_
        refine ev_to (ev_fz (ev_var rfl)) ?_
        refine k_il hS (i := 1) rfl ?_
        obtain ⟨h17, hm⟩ := R.wp_need hm
        refine lc_sep (β := (Str × Str)) (fun (_ : Unit) => ([lstA a16 (s15.1 : (List (Str × Str))), lstA a_v_law_rows (v_law_rows : (List (Str × Str))), F] : List (Asn G))) (s := ()) (im := (Im.im G)) hS (fun _ _ _ => wk_list fun _ _ h => h.sq (i := 2) rfl) h17 hm (fun p18 _ ys21 x19 v20 H q Nx hS hx hm kS kN => ?_) (fun p18 t H hm hS => ?_)
        ·
          obtain ⟨a22, rfl⟩ := isref hx
          have hS := hS.addIm (v := (.ref a22)) (x := (x19 : (Str × Str))) hx
          refine c_gLc (σ' := [some (.ref a_v_law_rows), some (.str (v_law_name)), some (.ref a22), some (.ref a16), some (.int (s15.2))]) rfl rfl ?_
          refine f_and ?_
          obtain ⟨h24, hm⟩ := R.wp_need hm
          obtain ⟨h25, hm⟩ := R.wp_need hm
          refine et_to (et_test (ev_niP (x := (x19 : (Str × Str))) (xs := (s15.1 : (List (Str × Str)))) (ev_var rfl) (ev_fz (ev_var rfl)) (Pd.dp (hS.im (i := 0) rfl)) (dpOwn hS (i := 2) rfl) h24 h25 (Nat.le_of_ble_eq_true rfl))) ?_
          refine andK_J hm hS (fun hb q hm nx => ?_) (fun b26 H hm hS => ?_)
          ·
            refine f_B ?_
            refine c_call ?_
            obtain ⟨x27, hx27, hm⟩ := wp_idx hm
            obtain ⟨vs28, hq29, hM30⟩ := hS.sq (i := 2) rfl
            obtain ⟨u31, hu32, hi33⟩ := atI_im hM30 hx27
            obtain ⟨a34, rfl⟩ := isref hi33
            refine ea_to (ea_cons (ev_var rfl) (ea_cons (ev_ixSq (ev_fz (ev_var rfl)) (ev_var rfl) hq29 hu32) ea_nil)) ?_
            have hS := hS.addIm (v := (.ref a34)) (x := (x27 : (Str × Str))) hi33
            refine ⟨a22, (x19 : (Str × Str)), a34, (x27 : (Str × Str)), star [imA (.ref a34) (x27 : (Str × Str)), imA (.ref a22) (x19 : (Str × Str)), lstA p18 (ys21 : List (Str × Str)), lstA a16 (s15.1 : (List (Str × Str))), lstA a_v_law_rows (v_law_rows : (List (Str × Str))), F], rfl, (hS.im (i := 1) rfl), (hS.im (i := 0) rfl), Sep.unstar (M := []) (hS.sel [0, 1, 2, 3, 4, 5] (by decide) rfl : Sep H (([] ++ [imA (.ref a34) (x27 : (Str × Str)), imA (.ref a22) (x19 : (Str × Str)), lstA p18 (ys21 : List (Str × Str)), lstA a16 (s15.1 : (List (Str × Str))), lstA a_v_law_rows (v_law_rows : (List (Str × Str))), F] : List (Asn G)))), R.wp_mono (R.wp_bind hm) (fun r36 hm H hS => ?_) (fun _ z => z)⟩
            have hS : Sep H ([imA (.ref a34) (x27 : (Str × Str)), imA (.ref a22) (x19 : (Str × Str)), lstA p18 (ys21 : List (Str × Str)), lstA a16 (s15.1 : (List (Str × Str))), lstA a_v_law_rows (v_law_rows : (List (Str × Str))), F] : List (Asn G)) := Sep.star (M := []) hS
            refine f_bl ?_
            exact nx _ _ hm (hS.sel [1, 2, 3, 4, 5] (by decide) rfl)
          ·
            refine lc_if (fun hb37 => ?_) (fun hb37 => ?_)
            · have hm := R.wp_ifY hm hb37
              refine ev_to (ev_var rfl) ?_
              exact kS () _ _ _ hm (hS.im (i := 0) rfl) (hS.sel [1, 2, 3, 4] (by decide) rfl)
            · have hm := R.wp_ifN hm (by first | (rw [hb37]; decide) | simpa using hb37)
              exact kN () _ hm (hS.sel [1, 2, 3, 4] (by decide) rfl)
        · revert hm hS; generalize t = t38; intro hm hS
          refine fz_no ?_
          obtain ⟨h39, hm⟩ := R.wp_need hm
          refine k_catG hS (hS.rdL (i := 1) rfl) (hS.rdL (i := 0) rfl) h39 fun p40 H hS => ?_
          refine fz_no ?_
          obtain ⟨y41, hy41, hm⟩ := wp_let hm
          have hS : Sep H ([lstA p40 (y41 : (List (Str × Str))), lstA p18 (t38.2 : (List (Str × Str))), lstA a16 (s15.1 : (List (Str × Str))), lstA a_v_law_rows (v_law_rows : (List (Str × Str))), F] : List (Asn G)) := by rw [← hy41]; exact hS
          refine c_set (σ' := [some (.ref a_v_law_rows), some (.str (v_law_name)), none, some (.ref p40), some (.int (s15.2))]) rfl ?_
          refine sq_nx ?_
          refine c_asg ?_
          refine ev_to (ev_add (ev_var rfl) ev_c) ?_
          obtain ⟨y42, hy42, hm⟩ := wp_let hm
          refine n_is (w := (.int (y42))) (by first | rw [hy42] | (subst hy42; rfl)) ?_
          refine c_set (σ' := [some (.ref a_v_law_rows), some (.str (v_law_name)), none, some (.ref p40), some (.int (y42))]) rfl ?_
          exact nx _ _ _ hm ⟨_, rfl, hS.sel [0, 3, 4] (by decide) rfl⟩
      · obtain ⟨a16, rfl, hS⟩ := hI
        refine sq_nx ?_
        refine c_ret ?_
        refine c_fz ?_
        refine c_cb ?_
        refine c_cons ?_
        refine c_fz ?_
        refine c_lc ?_
        refine c_il ?_
        refine ev_to (ev_fz (ev_var rfl)) ?_
        refine k_il hS (i := 0) rfl ?_
        obtain ⟨h43, hm⟩ := R.wp_need hm
        refine lc_sep (β := Str) (fun (_ : Unit) => ([lstA a16 (s15.1 : (List (Str × Str))), lstA a_v_law_rows (v_law_rows : (List (Str × Str))), F] : List (Asn G))) (s := ()) (im := (Im.im G)) hS (fun _ _ _ => wk_list fun _ _ h => h.sq (i := 1) rfl) h43 hm (fun p44 _ ys47 x45 v46 H q Nx hS hx hm kS kN => ?_) (fun p44 t H hm hS => ?_)
        ·
          obtain ⟨a48, rfl⟩ := isref hx
          have hS := hS.addIm (v := (.ref a48)) (x := (x45 : (Str × Str))) hx
          refine c_gLc (σ' := [some (.ref a_v_law_rows), some (.str (v_law_name)), some (.ref a48), some (.ref a16), some (.int (s15.2))]) rfl rfl ?_
          refine c_yes ?_
          obtain ⟨u50, u51, hT54, h52, h53⟩ := im2 (hS.im (i := 0) rfl)
          obtain rfl : u50 = (.str (x45.1)) := h52
          obtain rfl : u51 = (.str (x45.2)) := h53
          refine ev_to (ev_ixT (ev_var rfl) ev_c hT54 rfl) ?_
          exact kS () _ _ _ hm rfl (hS.sel [1, 2, 3, 4] (by decide) rfl)
        · revert hm hS; generalize t = t55; intro hm hS
          refine fz_no ?_
          refine c_nil ?_
          obtain ⟨h57, hm⟩ := R.wp_need hm
          refine k_sorted hS (hS.sqF (i := 0) rfl) h57 fun p56 H hS => ?_
          refine fz_no ?_
          exact hm _ _ (hS.sel [0, 3, 4] (by decide) rfl)
def sp_law_threads (G : Gx) : Sp := fun vs H Q E => ∃ (a_v_law_rows : Addr) (v_law_rows : (List (Str × Str))) (F : Asn G), vs = [.ref a_v_law_rows] ∧ Sep H ([lstA a_v_law_rows (v_law_rows : (List (Str × Str))), F] : List (Asn G)) ∧ R.wp (m_law_threads v_law_rows) (fun r => ∀ p H', Sep H' ([lstA p (r : (List (List Str))), lstA a_v_law_rows (v_law_rows : (List (Str × Str))), F] : List (Asn G)) → Q (.ref p) H') (fun _ => False)
abbrev N_law_threads : List Str := ["_law_rows", "_law_found", "_law_row", "_law_name", "_law_one"]
theorem sc_law_threads : FnScope N_law_threads ["_law_rows"] (defScope s_law_threads) := ⟨rfl, rfl, rfl, by decide +kernel, rfl, by decide +kernel, by decide +kernel⟩
theorem ok_law_threads (T : Txt G mg) : FnOk P w G.K mg base CX0 3 T.a_law_threads T.fd_law_threads ["_law_rows"] (sp_law_threads G) := by
  have nd := sc_law_threads.nd
  refine Fun.ok T.F_law_threads sc_law_threads (fun vs H Q E h => ?_) (fun cdv A outer s H vs Q E hr h => ?_)
  · obtain ⟨a_v_law_rows, v_law_rows, F, rfl, _⟩ := h; rfl
  · obtain ⟨a_v_law_rows, v_law_rows, F, rfl, hS, hm⟩ := h
    refine ⟨_, (pss_cons (ps_set (i := 1) nd rfl (Or.inl rfl) (pe_fz (pe_lst pa_nil)))
      (pss_cons (ps_for PassesOwn.never rfl (pi_listK G.K (pe_fz (pe_callB (sortedSK G.K) (by rfl) T.z_sorted (by decide +kernel) (pa_cons (pe_fz (pe_lc (own := [("_law_row", 2)]) (g := gName 2) rfl nd (pi_listK G.K (pe_fz (pv 0))) (blkOk_by (own := [("_law_row", 2)]) (N := N_law_threads) (sc := defScope s_law_threads) (by decide +kernel)) (fun _ _ _ _ _ => pg_name (i := 2) nd rfl (Or.inl rfl)) (fun _ _ _ _ _ => pts_nil) (fun _ _ _ _ _ => (pe_ix (ix_tupK G.K) (pv 2) pe_int (fun _ _ => rfl))))) pa_nil)))) (pg_name (i := 3) nd rfl (Or.inl rfl)) (pss_cons (ps_set (i := 4) nd rfl (Or.inl rfl) (pe_fz (pe_call (ok_law_thread T) (hr.mono (by decide)) rfl T.g_law_thread T.kp_law_thread T.b_law_thread .nil pass0 (pa_cons (pe_fz (pv 0)) (pa_cons (pv 3) pa_nil)))))
      (pss_one (ps_if (pt_cmpR (niDK G.K (hu0 hr)) (pv 4) (pe_fz (pv 1)) (by rfl)) (pss_one (ps_expr (pe_bmK G.K PySem.F.plainAttrs_list PySem.F.slot_list_append PySem.F.type_list_append mt_append (pe_fz (pv 1)) (pa_cons (pv 4) pa_nil)))) pss_nil))))
      (pss_one (ps_ret (pe_fz (pv 1)))))), ?_⟩
    unfold m_law_threads at hm
    refine f_seq ?_
    refine c_asg ?_
    refine c_fz ?_
    refine c_lst ?_
    refine ea_to ea_nil ?_
    refine k_lst (α := (List Str)) (vs := []) (xs := ([] : (List (List Str)))) hS True.intro (by show 0 ≤ sizeLine; decide) fun p1 H hS => ?_
    refine fz_no ?_
    refine c_set (σ' := [some (.ref a_v_law_rows), some (.ref p1), none, none, none]) rfl ?_
    refine sq_nx ?_
    refine f_seq ?_
    refine c_for ?_
    refine c_il ?_
    refine c_fz ?_
    refine c_cb ?_
    refine c_cons ?_
    refine c_fz ?_
    refine c_lc ?_
    refine c_il ?_
    refine ev_to (ev_fz (ev_var rfl)) ?_
    refine k_il hS (i := 1) rfl ?_
    obtain ⟨h2, hm⟩ := R.wp_need hm
    refine lc_sep (β := Str) (fun (_ : Unit) => ([lstA p1 (([] : (List (List Str))) : (List (List Str))), lstA a_v_law_rows (v_law_rows : (List (Str × Str))), F] : List (Asn G))) (s := ()) (im := (Im.im G)) hS (fun _ _ _ => wk_list fun _ _ h => h.sq (i := 2) rfl) h2 hm (fun p3 _ ys6 x4 v5 H q Nx hS hx hm kS kN => ?_) (fun p3 t H hm hS => ?_)
    ·
      obtain ⟨a7, rfl⟩ := isref hx
      have hS := hS.addIm (v := (.ref a7)) (x := (x4 : (Str × Str))) hx
      refine c_gLc (σ' := [some (.ref a_v_law_rows), some (.ref p1), some (.ref a7), none, none]) rfl rfl ?_
      refine c_yes ?_
      obtain ⟨u9, u10, hT13, h11, h12⟩ := im2 (hS.im (i := 0) rfl)
      obtain rfl : u9 = (.str (x4.1)) := h11
      obtain rfl : u10 = (.str (x4.2)) := h12
      refine ev_to (ev_ixT (ev_var rfl) ev_c hT13 rfl) ?_
      exact kS () _ _ _ hm rfl (hS.sel [1, 2, 3, 4] (by decide) rfl)
    · revert hm hS; generalize t = t14; intro hm hS
      refine fz_no ?_
      refine c_nil ?_
      obtain ⟨h16, hm⟩ := R.wp_need hm
      refine k_sorted hS (hS.sqF (i := 0) rfl) h16 fun p15 H hS => ?_
      refine fz_no ?_
      refine k_il hS (i := 0) rfl ?_
      refine k_for (τ := (List (List Str))) (fun (s17 : (List (List Str))) (σ : L2.St) (H : Hp) => ∃ (w20 w21 : Option V), σ = [some (.ref a_v_law_rows), some (.ref p1), none, w20, w21] ∧ Sep H ([lstA p15 (sortT t14.2 : (List Str)), lstA p3 (t14.2 : (List Str)), lstA p1 (s17 : (List (List Str))), lstA a_v_law_rows (v_law_rows : (List (Str × Str))), F] : List (Asn G))) (im := (Im.im G)) (s := (([] : (List (List Str))))) (fun _ => wk_list fun _ _ ⟨_, _, _, h⟩ => h.sq (i := 0) rfl) ⟨_, _, rfl, hS.sel [0, 1, 2, 3, 4] (by decide) rfl⟩ hm (fun s17 x18 v19 σ H q N hI hx hm nx => ?_) (fun s17 σ H hm hI => ?_)
      ·
        obtain ⟨w20, w21, rfl, hS⟩ := hI
        cases hx
        refine c_gN (σ' := [some (.ref a_v_law_rows), some (.ref p1), none, some (.str (x18)), w21]) rfl ?_
        refine f_seq ?_
        refine c_asg ?_
        refine c_fz ?_
        refine c_call ?_
        refine ea_to (ea_cons (ev_fz (ev_var rfl)) (ea_cons (ev_var rfl) ea_nil)) ?_
        refine ⟨a_v_law_rows, (v_law_rows : (List (Str × Str))), x18, star [lstA p15 (sortT t14.2 : (List Str)), lstA p3 (t14.2 : (List Str)), lstA p1 (s17 : (List (List Str))), F], rfl, Sep.unstar (M := [lstA a_v_law_rows (v_law_rows : (List (Str × Str)))]) (hS.sel [3, 0, 1, 2, 4] (by decide) rfl : Sep H (([lstA a_v_law_rows (v_law_rows : (List (Str × Str)))] ++ [lstA p15 (sortT t14.2 : (List Str)), lstA p3 (t14.2 : (List Str)), lstA p1 (s17 : (List (List Str))), F] : List (Asn G)))), R.wp_mono (R.wp_bind hm) (fun r22 hm p23 H hS => ?_) (fun _ z => z)⟩
        have hS : Sep H ([lstA p23 (r22 : (List Str)), lstA a_v_law_rows (v_law_rows : (List (Str × Str))), lstA p15 (sortT t14.2 : (List Str)), lstA p3 (t14.2 : (List Str)), lstA p1 (s17 : (List (List Str))), F] : List (Asn G)) := Sep.star (M := [lstA p23 (r22 : (List Str)), lstA a_v_law_rows (v_law_rows : (List (Str × Str)))]) hS
        refine fz_yes (xs := (r22 : (List Str))) hS (i := 0) rfl fun H hS => ?_
        have hS : Sep H ([imA (.ref p23) (r22 : (List Str)), lstA a_v_law_rows (v_law_rows : (List (Str × Str))), lstA p15 (sortT t14.2 : (List Str)), lstA p3 (t14.2 : (List Str)), lstA p1 (s17 : (List (List Str))), F] : List (Asn G)) := hS
        refine c_set (σ' := [some (.ref a_v_law_rows), some (.ref p1), none, some (.str (x18)), some (.ref p23)]) rfl ?_
        refine sq_nx ?_
        refine f_if ?_
        obtain ⟨h25, hm⟩ := R.wp_need hm
        obtain ⟨h26, hm⟩ := R.wp_need hm
        refine et_to (et_test (ev_niP (x := (r22 : (List Str))) (xs := (s17 : (List (List Str)))) (ev_var rfl) (ev_fz (ev_var rfl)) (Pd.dp (hS.im (i := 0) rfl)) (dpOwn hS (i := 4) rfl) h25 h26 (Nat.le_of_ble_eq_true rfl))) ?_
        refine ifK_J (τ := (List (List Str))) (fun (s27 : (List (List Str))) (σ : L2.St) (H : Hp) => σ = [some (.ref a_v_law_rows), some (.ref p1), none, some (.str (x18)), some (.ref p23)] ∧ Sep H ([imA (.ref p23) (r22 : (List Str)), lstA a_v_law_rows (v_law_rows : (List (Str × Str))), lstA p15 (sortT t14.2 : (List Str)), lstA p3 (t14.2 : (List Str)), lstA p1 (s27 : (List (List Str))), F] : List (Asn G))) hm (fun hb q hm nx => ?_) (fun hb q hm nx => ?_) (fun s27 σ H hm hI => ?_)
        ·
          refine c_drop ?_
          refine c_bm ?_
          refine ev_to (ev_fz (ev_var rfl)) ⟨tyL hS (i := 4) rfl, ?_⟩
          refine ea_to (ea_cons (ev_var rfl) ea_nil) ?_
          obtain ⟨h28, hm⟩ := R.wp_need hm
          refine k_append (x := r22) hS (i := 4) rfl (hS.im (i := 0) rfl) h28 rfl fun H hS => ?_
          exact nx _ _ _ hm ⟨rfl, hS.sel [0, 1, 2, 3, 4, 5] (by decide) rfl⟩
        ·
          refine st_nx ?_
          exact nx _ _ _ hm ⟨rfl, hS.sel [0, 1, 2, 3, 4, 5] (by decide) rfl⟩
        · obtain ⟨rfl, hS⟩ := hI
          exact nx _ _ _ hm ⟨_, _, rfl, hS.sel [2, 3, 4, 1, 5] (by decide) rfl⟩
      · obtain ⟨w20, w21, rfl, hS⟩ := hI
        refine sq_nx ?_
        refine c_ret ?_
        refine ev_to (ev_fz (ev_var rfl)) ?_
        exact hm _ _ (hS.sel [2, 3, 4] (by decide) rfl)
def sp_law_is_list (G : Gx) : Sp := fun vs H Q E => ∃ (a_v_law_found : Addr) (v_law_found : (List Any)) (a_v_law_due : Addr) (v_law_due : (List Any)) (F : Asn G), vs = [.ref a_v_law_found, .ref a_v_law_due] ∧ Sep H ([lstA a_v_law_found (v_law_found : (List Any)), lstA a_v_law_due (v_law_due : (List Any)), F] : List (Asn G)) ∧ R.wp (m_law_is_list v_law_found v_law_due) (fun r => ∀ H', Sep H' ([lstA a_v_law_found (v_law_found : (List Any)), lstA a_v_law_due (v_law_due : (List Any)), F] : List (Asn G)) → Q (.bl (r)) H') (fun _ => False)
abbrev N_law_is_list : List Str := ["_law_found", "_law_due", "_law_one"]
theorem sc_law_is_list : FnScope N_law_is_list ["_law_found", "_law_due"] (defScope s_law_is_list) := ⟨rfl, rfl, rfl, by decide +kernel, rfl, by decide +kernel, by decide +kernel⟩
theorem ok_law_is_list (T : Txt G mg) : FnOk P w G.K mg base CX0 1 T.a_law_is_list T.fd_law_is_list ["_law_found", "_law_due"] (sp_law_is_list G) := by
  have nd := sc_law_is_list.nd
  refine Fun.ok T.F_law_is_list sc_law_is_list (fun vs H Q E h => ?_) (fun cdv A outer s H vs Q E hr h => ?_)
  · obtain ⟨a_v_law_found, v_law_found, a_v_law_due, v_law_due, F, rfl, _⟩ := h; rfl
  · obtain ⟨a_v_law_found, v_law_found, a_v_law_due, v_law_due, F, rfl, hS, hm⟩ := h
    refine ⟨_, (pss_cons (ps_if (PW.pt (pw_or (pt_not (pt_val (pe_callB (isiK G.K) (by rfl) T.z_isinstance (by decide +kernel) (pa_cons (pe_fz (pv 0)) (pa_cons (pe_bltn (v := .ty "list") (by rfl) T.z_list (by decide +kernel) rfl) pa_nil))))) (pw_or1 (pt_cmpR (neDK G.K hr.units) (pe_fz (pv 0)) (pe_fz (pv 1)) (nomark _))))) (pss_one (ps_ret pe_bl)) pss_nil)
      (pss_one (ps_ret (pe_callB (allK G.K rfl) (by rfl) T.z_all (by decide +kernel) (pa_cons (pe_fz (pe_lc (own := [("_law_one", 2)]) (g := gName 2) rfl nd (pi_listK G.K (pe_fz (pv 0))) (blkOk_by (own := [("_law_one", 2)]) (N := N_law_is_list) (sc := defScope s_law_is_list) (by decide +kernel)) (fun _ _ _ _ _ => pg_name (i := 2) nd rfl (Or.inl rfl)) (fun _ _ _ _ _ => pts_nil) (fun _ _ _ _ _ => (pe_callB (isiTK G.K) (by rfl) T.z_isinstance (by decide +kernel) (pa_cons (pv 2) (pa_cons (pe_tup (pa_cons (pe_bltn (v := .ty "str") (by rfl) T.z_str (by decide +kernel) rfl) (pa_cons (pe_bltn (v := .ty "list") (by rfl) T.z_list (by decide +kernel) rfl) pa_nil))) pa_nil)))))) pa_nil))))), ?_⟩
    unfold m_law_is_list at hm
    refine f_seq ?_
    refine f_if ?_
    refine f_or ?_
    refine et_to (et_not (et_B (ev_isi (G := G) (x := (.ref a_v_law_found)) (T := "list") (U := "list") (b := true) (ev_fz (ev_var rfl)) ev_c (ty_lst hS (i := 0) rfl) (by decide +kernel)))) ?_
    refine orK_f ?_
    obtain ⟨b1, hb1, hm⟩ := wp_eqA hm
    refine et_to (et_test (ev_neO (ev_fz (ev_var rfl)) (ev_fz (ev_var rfl)) (dpOwnA hS (i := 0) rfl) (dpOwnA hS (i := 1) rfl) hb1)) ?_
    refine ifK_2 (fun hb2 => ?_) (fun hb2 => ?_)
    · have hm := R.wp_ifY hm hb2
      refine c_ret ?_
      refine ev_to ev_c ?_
      exact hm _ (hS.sel [0, 1, 2] (by decide) rfl)
    · have hm := R.wp_ifN hm (by first | (rw [hb2]; decide) | simpa using hb2)
      refine st_nx ?_
      refine sq_nx ?_
      refine c_ret ?_
      refine c_cb ?_
      refine c_cons ?_
      refine c_fz ?_
      refine c_lc ?_
      refine c_il ?_
      refine ev_to (ev_fz (ev_var rfl)) ?_
      refine k_il hS (i := 0) rfl ?_
      obtain ⟨h3, hm⟩ := R.wp_need hm
      refine lc_sep (β := Bool) (fun (_ : Unit) => ([lstA a_v_law_found (v_law_found : (List Any)), lstA a_v_law_due (v_law_due : (List Any)), F] : List (Asn G))) (s := ()) (im := (Im.im G)) hS (fun _ _ _ => wk_list fun _ _ h => h.sq (i := 1) rfl) h3 hm (fun p4 _ ys7 x5 v6 H q Nx hS hx hm kS kN => ?_) (fun p4 t H hm hS => ?_)
      ·
        have hS := hS.addIm (v := v6) (x := (x5 : Any)) hx
        refine c_gLc (σ' := [some (.ref a_v_law_found), some (.ref a_v_law_due), some v6]) rfl rfl ?_
        refine c_yes ?_
        refine k_isiT (T := Any.ty x5) (U1 := "str") (U2 := "list") (b := (x5.is "str" || x5.is "list")) hS (ev_var rfl) (fun H hS => ty_any (hS.im (i := 0) rfl)) (any_kit2 _ _ _ (by decide) (by decide)) fun H hS => ?_
        exact kS () _ _ _ hm rfl (hS.sel [1, 2, 3, 4] (by decide) rfl)
      · revert hm hS; generalize t = t9; intro hm hS
        refine fz_no ?_
        refine c_nil ?_
        refine ⟨_, _, rfl, (hS.sqF (i := 0) rfl), ?_⟩
        exact hm _ (hS.sel [1, 2, 3] (by decide) rfl)
def sp_law_target (G : Gx) : Sp := fun vs H Q E => ∃ (a_v_law_pool_here : Addr) (v_law_pool_here : (List Str)) (v_law_name : Str) (v_law_draw : Int) (F : Asn G), vs = [.ref a_v_law_pool_here, (.str (v_law_name)), (.int (v_law_draw))] ∧ Sep H ([lstA a_v_law_pool_here (v_law_pool_here : (List Str)), F] : List (Asn G)) ∧ R.wp (m_law_target v_law_pool_here v_law_name v_law_draw) (fun r => ∀ H', Sep H' ([lstA a_v_law_pool_here (v_law_pool_here : (List Str)), F] : List (Asn G)) → Q (.str (r)) H') (fun _ => False)
abbrev N_law_target : List Str := ["_law_pool_here", "_law_name", "_law_draw", "_law_way"]
theorem sc_law_target : FnScope N_law_target ["_law_pool_here", "_law_name", "_law_draw"] (defScope s_law_target) := ⟨rfl, rfl, rfl, by decide +kernel, rfl, by decide +kernel, by decide +kernel⟩
theorem ok_law_target (T : Txt G mg) : FnOk P w G.K mg base CX0 1 T.a_law_target T.fd_law_target ["_law_pool_here", "_law_name", "_law_draw"] (sp_law_target G) := by
  have nd := sc_law_target.nd
  refine Fun.ok T.F_law_target sc_law_target (fun vs H Q E h => ?_) (fun cdv A outer s H vs Q E hr h => ?_)
  · obtain ⟨a_v_law_pool_here, v_law_pool_here, v_law_name, v_law_draw, F, rfl, _⟩ := h; rfl
  · obtain ⟨a_v_law_pool_here, v_law_pool_here, v_law_name, v_law_draw, F, rfl, hS, hm⟩ := h
    refine ⟨_, (pss_cons (ps_set (i := 3) nd rfl (Or.inl rfl) (pe_op op_mod (pv 2) pe_int))
      (pss_cons (ps_if (pt_cmpR op_eq (pv 3) pe_int (nomark _)) (pss_one (ps_ret pe_str)) pss_nil)
      (pss_cons (ps_if (pt_cmpR op_eq (pv 3) pe_int (nomark _)) (pss_one (ps_ret (pv 1))) pss_nil)
      (pss_cons (ps_if (pt_cmpR op_eq (pv 3) pe_int (nomark _)) (pss_one (ps_ret (pe_op op_catS (pe_ix (ix_listK G.K) (pe_fz (pv 0)) pe_int (fun _ _ => rfl)) (pe_op op_repS pe_str (pe_callTy call_int1 (by rfl) T.z_int (by decide +kernel) (pa_cons (pe_cmpR op_lt (pe_callB call_lenS (by rfl) T.z_len PySem.boot_len (pa_cons (pe_ix (ix_listK G.K) (pe_fz (pv 0)) pe_int (fun _ _ => rfl)) pa_nil)) pe_int (nomark _)) pa_nil)))))) pss_nil)
      (pss_one (ps_ret (pe_ix (ix_listK G.K) (pe_fz (pv 0)) (pe_op op_mod (pe_op op_fdiv (pv 2) pe_int) (pe_callB (lenSqK G.K) (by rfl) T.z_len PySem.boot_len (pa_cons (pe_fz (pv 0)) pa_nil))) (fun _ _ => rfl)))))))), ?_⟩
    unfold m_law_target at hm
    refine f_seq ?_
    refine c_asg ?_
    refine ev_to (ev_mod (ev_var rfl) ev_c (by decide)) ?_
    obtain ⟨y1, hy1, hm⟩ := wp_let hm
    refine n_is (w := (.int (y1))) (by first | rw [hy1] | (subst hy1; rfl)) ?_
    refine c_set (σ' := [some (.ref a_v_law_pool_here), some (.str (v_law_name)), some (.int (v_law_draw)), some (.int (y1))]) rfl ?_
    refine sq_nx ?_
    refine f_seq ?_
    refine f_if ?_
    refine et_to (et_test (ev_eqI (ev_var rfl) ev_c)) ?_
    refine ifK_2 (fun hb2 => ?_) (fun hb2 => ?_)
    · have hm := R.wp_ifY hm hb2
      refine c_ret ?_
      refine ev_to ev_c ?_
      exact hm _ (hS.sel [0, 1] (by decide) rfl)
    · have hm := R.wp_ifN hm (by first | (rw [hb2]; decide) | simpa using hb2)
      refine st_nx ?_
      refine sq_nx ?_
      refine f_seq ?_
      refine f_if ?_
      refine et_to (et_test (ev_eqI (ev_var rfl) ev_c)) ?_
      refine ifK_2 (fun hb3 => ?_) (fun hb3 => ?_)
      · have hm := R.wp_ifY hm hb3
        refine c_ret ?_
        refine ev_to (ev_var rfl) ?_
        exact hm _ (hS.sel [0, 1] (by decide) rfl)
      · have hm := R.wp_ifN hm (by first | (rw [hb3]; decide) | simpa using hb3)
        refine st_nx ?_
        refine sq_nx ?_
        refine f_seq ?_
        refine f_if ?_
        refine et_to (et_test (ev_eqI (ev_var rfl) ev_c)) ?_
        refine ifK_2 (fun hb4 => ?_) (fun hb4 => ?_)
        · have hm := R.wp_ifY hm hb4
          refine c_ret ?_
          obtain ⟨x5, hx5, hm⟩ := wp_idx hm
          obtain ⟨x6, hx6, hm⟩ := wp_idx hm
          obtain ⟨h7, hm⟩ := R.wp_need hm
          obtain ⟨h8, hm⟩ := R.wp_need hm
          obtain ⟨h9, hm⟩ := R.wp_need hm
          refine ev_to (ev_catS (ev_ixSq (ev_fz (ev_var rfl)) ev_c (hS.sqF (i := 0) rfl) (atI_map hx5)) (ev_repS ev_c (ev_cb (ea_cons (ev_i0 (ev_lenS (ev_ixSq (ev_fz (ev_var rfl)) ev_c (hS.sqF (i := 0) rfl) (atI_map hx6)) h7) ev_c) ea_nil) fun _ q => .inr ⟨_, rfl, q⟩) h8) h9) ?_
          exact hm _ (hS.sel [0, 1] (by decide) rfl)
        · have hm := R.wp_ifN hm (by first | (rw [hb4]; decide) | simpa using hb4)
          refine st_nx ?_
          refine sq_nx ?_
          refine c_ret ?_
          obtain ⟨h10, hm⟩ := R.wp_need hm
          obtain ⟨x11, hx11, hm⟩ := wp_idx hm
          refine ev_to (ev_ixSq (ev_fz (ev_var rfl)) (ev_mod (ev_fdiv (ev_var rfl) ev_c ⟨by decide, by decide⟩) (ev_lenLm (ev_fz (ev_var rfl)) (hS.sqF (i := 0) rfl)) h10) (hS.sqF (i := 0) rfl) (atI_map hx11)) ?_
          exact hm _ (hS.sel [0, 1] (by decide) rfl)
def sp_law_done (G : Gx) : Sp := fun vs H Q E => ∃ (a_v_law_threads_here : Addr) (v_law_threads_here : Threads) (a_v_law_rows : Addr) (v_law_rows : (List (Str × Str))) (a_v_law_pool_here : Addr) (v_law_pool_here : (List Str)) (a_v_law_draws_here : Addr) (v_law_draws_here : (List Int)) (F : Asn G), vs = [.ref a_v_law_threads_here, .ref a_v_law_rows, .ref a_v_law_pool_here, .ref a_v_law_draws_here] ∧ Sep H ([ThreadsA a_v_law_threads_here v_law_threads_here, lstA a_v_law_rows (v_law_rows : (List (Str × Str))), lstA a_v_law_pool_here (v_law_pool_here : (List Str)), lstA a_v_law_draws_here (v_law_draws_here : (List Int)), F] : List (Asn G)) ∧ R.wp (m_law_done v_law_threads_here v_law_rows v_law_pool_here v_law_draws_here) (fun r => ∀ H', Sep H' ([ThreadsA a_v_law_threads_here r.2.1, lstA a_v_law_rows (r.2.2 : (List (Str × Str))), lstA a_v_law_pool_here (v_law_pool_here : (List Str)), lstA a_v_law_draws_here (v_law_draws_here : (List Int)), F] : List (Asn G)) → Q (.bl (r.1)) H') (fun _ => False)
abbrev N_law_done : List Str := ["_law_threads_here", "_law_rows", "_law_pool_here", "_law_draws_here", "_law_name", "_law_row", "_law_there", "_law_answers"]
theorem sc_law_done : FnScope N_law_done ["_law_threads_here", "_law_rows", "_law_pool_here", "_law_draws_here"] (defScope s_law_done) := ⟨rfl, rfl, rfl, by decide +kernel, rfl, by decide +kernel, by decide +kernel⟩
theorem ok_law_done (T : Txt G mg) : FnOk P w G.K mg base CX0 4 T.a_law_done T.fd_law_done ["_law_threads_here", "_law_rows", "_law_pool_here", "_law_draws_here"] (sp_law_done G) := by
  have nd := sc_law_done.nd
  refine Fun.ok T.F_law_done sc_law_done (fun vs H Q E h => ?_) (fun cdv A outer s H vs Q E hr h => ?_)
  · obtain ⟨a_v_law_threads_here, v_law_threads_here, a_v_law_rows, v_law_rows, a_v_law_pool_here, v_law_pool_here, a_v_law_draws_here, v_law_draws_here, F, rfl, _⟩ := h; rfl
  · obtain ⟨a_v_law_threads_here, v_law_threads_here, a_v_law_rows, v_law_rows, a_v_law_pool_here, v_law_pool_here, a_v_law_draws_here, v_law_draws_here, F, rfl, hS, hm⟩ := h
    refine ⟨_, (pss_cons (ps_set (i := 4) nd rfl (Or.inr rfl) (pe_ix (ix_listK G.K) (pe_fz (pv 2)) (pe_op op_mod (pe_ix (ix_listK G.K) (pe_fz (pv 3)) pe_int (fun _ _ => rfl)) (pe_callB (lenSqK G.K) (by rfl) T.z_len PySem.boot_len (pa_cons (pe_fz (pv 2)) pa_nil))) (fun _ _ => rfl)))
      (pss_cons (ps_setLc (i := 6) (own := [("_law_row", 5)]) (g := gName 5) rfl nd rfl rfl (sw_true rfl rfl rfl (by decide +kernel)) (pi_listK G.K (pe_fz (pv 1))) (blkOk_by (own := [("_law_row", 5)]) (N := N_law_done) (sc := defScope s_law_done) (by decide +kernel)) (fun _ _ _ _ _ => pg_name (i := 5) nd rfl (Or.inl rfl)) (fun _ _ _ _ _ => pts_one (pt_cmpR op_eq (pe_ix (ix_tupK G.K) (pv 5) pe_int (fun _ _ => rfl)) (pv 4) (nomark _))) (fun _ _ _ _ _ => (pv 5)))
      (pss_cons (ps_if (pt_cmpR (neDK G.K hr.units) (pe_fz (pv 6)) (pe_fz (pe_lst pa_nil)) (nomark _)) (pss_cons (ps_expr (pe_bmK G.K PySem.F.plainAttrs_list PySem.F.slot_list_remove PySem.F.type_list_remove (mt_removeD G.K (hu0 hr)) (pe_fz (pv 1)) (pa_cons (pe_ix (ix_listK G.K) (pe_fz (pv 6)) pe_int (fun _ _ => rfl)) pa_nil)))
      (pss_one (ps_ret (pe_cmp (pc_isN (pe_meth (pv 0) T.cl_Threads T.m_Threads_take_out (ok_Threads_take_out T) (hr.mono (by decide)) T.b_Threads_take_out .nil passL (pa_cons (pv 4) pa_nil))) rfl)))) pss_nil)
      (pss_cons (ps_set (i := 7) nd rfl (Or.inl rfl) (pe_call (ok_law_target T) (hr.mono (by decide)) rfl T.g_law_target T.kp_law_target T.b_law_target .nil pass0 (pa_cons (pe_fz (pv 2)) (pa_cons (pv 4) (pa_cons (pe_ix (ix_listK G.K) (pe_fz (pv 3)) pe_int (fun _ _ => rfl)) pa_nil)))))
      (pss_cons (ps_expr (pe_bmK G.K PySem.F.plainAttrs_list PySem.F.slot_list_append PySem.F.type_list_append mt_append (pe_fz (pv 1)) (pa_cons (pe_tup (pa_cons (pv 4) (pa_cons (pv 7) pa_nil))) pa_nil)))
      (pss_cons (ps_if (PW.pt (pw_and (pt_cmpR op_eq (pv 7) pe_str (nomark _)) (pw_and1 (pt_cmpR op_eq (pe_op op_mod (pe_op op_fdiv (pe_ix (ix_listK G.K) (pe_fz (pv 3)) pe_int (fun _ _ => rfl)) pe_int) pe_int) pe_int (nomark _))))) (pss_one (ps_ret (pe_cmp (pc_isN (pe_meth (pv 0) T.cl_Threads T.m_Threads_add (ok_Threads_add T) (hr.mono (by decide)) (T.bd_Threads_add_2).2 (T.bd_Threads_add_2).1 passL (pa_cons (pv 4) pa_nil))) rfl))) pss_nil)
      (pss_one (ps_ret (pe_cmp (pc_isN (pe_meth (pv 0) T.cl_Threads T.m_Threads_add (ok_Threads_add T) (hr.mono (by decide)) T.b_Threads_add .nil passL (pa_cons (pv 4) (pa_cons (pv 7) pa_nil)))) rfl))))))))), ?_⟩
    unfold m_law_done at hm
    refine f_seq ?_
    refine c_asg ?_
    obtain ⟨x1, hx1, hm⟩ := wp_idx hm
    obtain ⟨h2, hm⟩ := R.wp_need hm
    obtain ⟨x3, hx3, hm⟩ := wp_idx hm
    refine ev_to (ev_ixSq (ev_fz (ev_var rfl)) (ev_mod (ev_ixSq (ev_fz (ev_var rfl)) ev_c (hS.sqF (i := 3) rfl) (atI_map hx1)) (ev_lenLm (ev_fz (ev_var rfl)) (hS.sqF (i := 2) rfl)) h2) (hS.sqF (i := 2) rfl) (atI_map hx3)) ?_
    refine c_set (σ' := [some (.ref a_v_law_threads_here), some (.ref a_v_law_rows), some (.ref a_v_law_pool_here), some (.ref a_v_law_draws_here), some (.str (x3)), none, none, none]) rfl ?_
    refine sq_nx ?_
    refine f_seq ?_
    refine c_asg ?_
    refine c_lc ?_
    refine c_il ?_
    refine ev_to (ev_fz (ev_var rfl)) ?_
    refine k_il hS (i := 1) rfl ?_
    obtain ⟨h4, hm⟩ := R.wp_need hm
    refine lc_sep (β := (Str × Str)) (fun (_ : Unit) => ([ThreadsA a_v_law_threads_here v_law_threads_here, lstA a_v_law_rows (v_law_rows : (List (Str × Str))), lstA a_v_law_pool_here (v_law_pool_here : (List Str)), lstA a_v_law_draws_here (v_law_draws_here : (List Int)), F] : List (Asn G))) (s := ()) (im := (Im.im G)) hS (fun _ _ _ => wk_list fun _ _ h => h.sq (i := 2) rfl) h4 hm (fun p5 _ ys8 x6 v7 H q Nx hS hx hm kS kN => ?_) (fun p5 t H hm hS => ?_)
    ·
      obtain ⟨a9, rfl⟩ := isref hx
      have hS := hS.addIm (v := (.ref a9)) (x := (x6 : (Str × Str))) hx
      refine c_gLc (σ' := [some (.ref a_v_law_threads_here), some (.ref a_v_law_rows), some (.ref a_v_law_pool_here), some (.ref a_v_law_draws_here), some (.str (x3)), some (.ref a9), none, none]) rfl rfl ?_
      obtain ⟨u11, u12, hT15, h13, h14⟩ := im2 (hS.im (i := 0) rfl)
      obtain rfl : u11 = (.str (x6.1)) := h13
      obtain rfl : u12 = (.str (x6.2)) := h14
      refine et_to (et_test (ev_eqS (ev_ixT (ev_var rfl) ev_c hT15 rfl) (ev_var rfl))) ?_
      refine lc_if (fun hb16 => ?_) (fun hb16 => ?_)
      · have hm := R.wp_ifY hm hb16
        refine ev_to (ev_var rfl) ?_
        exact kS () _ _ _ hm (hS.im (i := 0) rfl) (hS.sel [1, 2, 3, 4, 5, 6] (by decide) rfl)
      · have hm := R.wp_ifN hm (by first | (rw [hb16]; decide) | simpa using hb16)
        exact kN () _ hm (hS.sel [1, 2, 3, 4, 5, 6] (by decide) rfl)
    · revert hm hS; generalize t = t17; intro hm hS
      refine c_set (σ' := [some (.ref a_v_law_threads_here), some (.ref a_v_law_rows), some (.ref a_v_law_pool_here), some (.ref a_v_law_draws_here), some (.str (x3)), none, some (.ref p5), none]) rfl ?_
      refine sq_nx ?_
      refine f_seq ?_
      refine f_if ?_
      refine f_test ?_
      refine c_op ?_
      refine ev_to (ev_fz (ev_var rfl)) ?_
      refine c_fz ?_
      refine c_lst ?_
      refine ea_to ea_nil ?_
      refine k_lst (α := (Str × Str)) (vs := []) (xs := ([] : (List (Str × Str)))) hS True.intro (by show 0 ≤ sizeLine; decide) fun p18 H hS => ?_
      refine fz_no ?_
      obtain ⟨h19, hm⟩ := R.wp_need hm
      obtain ⟨h20, hm⟩ := R.wp_need hm
      refine ev_op2 (ev_neP (G := G) (x := (t17.2 : (List (Str × Str)))) (y := ([] : (List (Str × Str)))) ev_c ev_c (dpOwn hS (i := 1) rfl) (dpOwn hS (i := 0) rfl) h19 h20 (Nat.le_of_ble_eq_true rfl)) ?_
      refine f_bl ?_
      refine ifK_2 (fun hb21 => ?_) (fun hb21 => ?_)
      · have hm := R.wp_ifY hm hb21
        refine f_seq ?_
        refine c_drop ?_
        refine c_bm ?_
        refine ev_to (ev_fz (ev_var rfl)) ⟨tyL hS (i := 3) rfl, ?_⟩
        obtain ⟨x22, hx22, hm⟩ := wp_idx hm
        obtain ⟨vs23, hq24, hM25⟩ := hS.sq (i := 1) rfl
        obtain ⟨u26, hu27, hi28⟩ := atI_im hM25 hx22
        obtain ⟨a29, rfl⟩ := isref hi28
        refine ea_to (ea_cons (ev_ixSq (ev_fz (ev_var rfl)) ev_c hq24 hu27) ea_nil) ?_
        have hS := hS.addIm (v := (.ref a29)) (x := (x22 : (Str × Str))) hi28
        obtain ⟨h31, hm⟩ := R.wp_need hm
        obtain ⟨h32, hm⟩ := R.wp_need hm
        obtain ⟨h33, hm⟩ := R.wp_need hm
        refine k_removeP (x := x22) hS (i := 4) rfl (Pd.dp (hS.im (i := 0) rfl)) h31 h32 (Nat.le_of_ble_eq_true rfl) h33 rfl fun H hS => ?_
        refine sq_nx ?_
        refine c_ret ?_
        refine c_isN ?_
        refine c_meth ?_
        refine ev_to (ev_var rfl) ?_
        obtain ⟨d34, _, _, _, _, hO35⟩ := ins_Threads hS (i := 3) rfl
        refine ⟨_, _, _, rfl, hO35, rfl, ?_⟩
        refine ea_to (ea_cons (ev_var rfl) ea_nil) ?_
        refine ⟨a_v_law_threads_here, (v_law_threads_here : Threads), x3, star [imA (.ref a29) (x22 : (Str × Str)), lstA p18 (([] : (List (Str × Str))) : (List (Str × Str))), lstA p5 (t17.2 : (List (Str × Str))), lstA a_v_law_rows (remP v_law_rows x22 : (List (Str × Str))), lstA a_v_law_pool_here (v_law_pool_here : (List Str)), lstA a_v_law_draws_here (v_law_draws_here : (List Int)), F], rfl, Sep.unstar (M := [ThreadsA a_v_law_threads_here v_law_threads_here]) (hS.sel [3, 0, 1, 2, 4, 5, 6, 7] (by decide) rfl : Sep H (([ThreadsA a_v_law_threads_here v_law_threads_here] ++ [imA (.ref a29) (x22 : (Str × Str)), lstA p18 (([] : (List (Str × Str))) : (List (Str × Str))), lstA p5 (t17.2 : (List (Str × Str))), lstA a_v_law_rows (remP v_law_rows x22 : (List (Str × Str))), lstA a_v_law_pool_here (v_law_pool_here : (List Str)), lstA a_v_law_draws_here (v_law_draws_here : (List Int)), F] : List (Asn G)))), R.wp_mono (R.wp_bind hm) (fun r36 hm H hS => ?_) (fun _ z => z.elim)⟩
        have hS : Sep H ([ThreadsA a_v_law_threads_here r36, imA (.ref a29) (x22 : (Str × Str)), lstA p18 (([] : (List (Str × Str))) : (List (Str × Str))), lstA p5 (t17.2 : (List (Str × Str))), lstA a_v_law_rows (remP v_law_rows x22 : (List (Str × Str))), lstA a_v_law_pool_here (v_law_pool_here : (List Str)), lstA a_v_law_draws_here (v_law_draws_here : (List Int)), F] : List (Asn G)) := Sep.star (M := [ThreadsA a_v_law_threads_here r36]) hS
        refine k_isNn ?_
        exact hm _ (hS.sel [0, 4, 5, 6, 7] (by decide) rfl)
      · have hm := R.wp_ifN hm (by first | (rw [hb21]; decide) | simpa using hb21)
        refine st_nx ?_
        refine sq_nx ?_
        refine f_seq ?_
        refine c_asg ?_
        refine c_call ?_
        obtain ⟨x37, hx37, hm⟩ := wp_idx hm
        refine ea_to (ea_cons (ev_fz (ev_var rfl)) (ea_cons (ev_var rfl) (ea_cons (ev_ixSq (ev_fz (ev_var rfl)) ev_c (hS.sqF (i := 5) rfl) (atI_map hx37)) ea_nil))) ?_
        refine ⟨a_v_law_pool_here, (v_law_pool_here : (List Str)), x3, x37, star [lstA p18 (([] : (List (Str × Str))) : (List (Str × Str))), lstA p5 (t17.2 : (List (Str × Str))), ThreadsA a_v_law_threads_here v_law_threads_here, lstA a_v_law_rows (v_law_rows : (List (Str × Str))), lstA a_v_law_draws_here (v_law_draws_here : (List Int)), F], rfl, Sep.unstar (M := [lstA a_v_law_pool_here (v_law_pool_here : (List Str))]) (hS.sel [4, 0, 1, 2, 3, 5, 6] (by decide) rfl : Sep H (([lstA a_v_law_pool_here (v_law_pool_here : (List Str))] ++ [lstA p18 (([] : (List (Str × Str))) : (List (Str × Str))), lstA p5 (t17.2 : (List (Str × Str))), ThreadsA a_v_law_threads_here v_law_threads_here, lstA a_v_law_rows (v_law_rows : (List (Str × Str))), lstA a_v_law_draws_here (v_law_draws_here : (List Int)), F] : List (Asn G)))), R.wp_mono (R.wp_bind hm) (fun r38 hm H hS => ?_) (fun _ z => z)⟩
        have hS : Sep H ([lstA a_v_law_pool_here (v_law_pool_here : (List Str)), lstA p18 (([] : (List (Str × Str))) : (List (Str × Str))), lstA p5 (t17.2 : (List (Str × Str))), ThreadsA a_v_law_threads_here v_law_threads_here, lstA a_v_law_rows (v_law_rows : (List (Str × Str))), lstA a_v_law_draws_here (v_law_draws_here : (List Int)), F] : List (Asn G)) := Sep.star (M := [lstA a_v_law_pool_here (v_law_pool_here : (List Str))]) hS
        refine c_set (σ' := [some (.ref a_v_law_threads_here), some (.ref a_v_law_rows), some (.ref a_v_law_pool_here), some (.ref a_v_law_draws_here), some (.str (x3)), none, some (.ref p5), some (.str (r38))]) rfl ?_
        refine sq_nx ?_
        refine f_seq ?_
        refine c_drop ?_
        refine c_bm ?_
        refine ev_to (ev_fz (ev_var rfl)) ⟨tyL hS (i := 4) rfl, ?_⟩
        refine c_cons ?_
        refine c_tup ?_
        refine ea_to (ea_cons (ev_var rfl) (ea_cons (ev_var rfl) ea_nil)) ?_
        refine k_tupP (x := ((x3, r38) : (Str × Str))) hS (fun H' p h s => mk2 rfl rfl h s) (by show 2 ≤ sizeLine; decide) fun p39 H hS => ?_
        refine c_nil ?_
        obtain ⟨h41, hm⟩ := R.wp_need hm
        refine k_append (x := (x3, r38)) hS (i := 5) rfl (hS.im (i := 0) rfl) h41 rfl fun H hS => ?_
        refine sq_nx ?_
        refine f_seq ?_
        refine f_if ?_
        refine f_and ?_
        refine et_to (et_test (ev_eqS (ev_var rfl) ev_c)) ?_
        refine andK_J hm hS (fun hb q hm nx => ?_) (fun b42 H hm hS => ?_)
        ·
          obtain ⟨x43, hx43, hm⟩ := wp_idx hm
          refine et_to (et_test (ev_eqI (ev_mod (ev_fdiv (ev_ixSq (ev_fz (ev_var rfl)) ev_c (hS.sqF (i := 6) rfl) (atI_map hx43)) ev_c ⟨by decide, by decide⟩) ev_c (by decide)) ev_c)) ?_
          exact nx _ _ hm (hS.sel [0, 1, 2, 3, 4, 5, 6, 7] (by decide) rfl)
        ·
          refine ifK_2 (fun hb44 => ?_) (fun hb44 => ?_)
          · have hm := R.wp_ifY hm hb44
            refine c_ret ?_
            refine c_isN ?_
            refine c_meth ?_
            refine ev_to (ev_var rfl) ?_
            obtain ⟨d45, _, _, _, _, hO46⟩ := ins_Threads hS (i := 4) rfl
            refine ⟨_, _, _, rfl, hO46, rfl, ?_⟩
            refine ea_to (ea_cons (ev_var rfl) ea_nil) ?_
            refine ⟨a_v_law_threads_here, (v_law_threads_here : Threads), x3, ("" : Str), star [imA (.ref p39) ((x3, r38) : (Str × Str)), lstA a_v_law_pool_here (v_law_pool_here : (List Str)), lstA p18 (([] : (List (Str × Str))) : (List (Str × Str))), lstA p5 (t17.2 : (List (Str × Str))), lstA a_v_law_rows (v_law_rows ++ [(x3, r38)] : (List (Str × Str))), lstA a_v_law_draws_here (v_law_draws_here : (List Int)), F], rfl, Sep.unstar (M := [ThreadsA a_v_law_threads_here v_law_threads_here]) (hS.sel [4, 0, 1, 2, 3, 5, 6, 7] (by decide) rfl : Sep H (([ThreadsA a_v_law_threads_here v_law_threads_here] ++ [imA (.ref p39) ((x3, r38) : (Str × Str)), lstA a_v_law_pool_here (v_law_pool_here : (List Str)), lstA p18 (([] : (List (Str × Str))) : (List (Str × Str))), lstA p5 (t17.2 : (List (Str × Str))), lstA a_v_law_rows (v_law_rows ++ [(x3, r38)] : (List (Str × Str))), lstA a_v_law_draws_here (v_law_draws_here : (List Int)), F] : List (Asn G)))), R.wp_mono (R.wp_bind hm) (fun r47 hm H hS => ?_) (fun _ z => z.elim)⟩
            have hS : Sep H ([ThreadsA a_v_law_threads_here r47, imA (.ref p39) ((x3, r38) : (Str × Str)), lstA a_v_law_pool_here (v_law_pool_here : (List Str)), lstA p18 (([] : (List (Str × Str))) : (List (Str × Str))), lstA p5 (t17.2 : (List (Str × Str))), lstA a_v_law_rows (v_law_rows ++ [(x3, r38)] : (List (Str × Str))), lstA a_v_law_draws_here (v_law_draws_here : (List Int)), F] : List (Asn G)) := Sep.star (M := [ThreadsA a_v_law_threads_here r47]) hS
            refine k_isNn ?_
            exact hm _ (hS.sel [0, 5, 2, 6, 7] (by decide) rfl)
          · have hm := R.wp_ifN hm (by first | (rw [hb44]; decide) | simpa using hb44)
            refine st_nx ?_
            refine sq_nx ?_
            refine c_ret ?_
            refine c_isN ?_
            refine c_meth ?_
            refine ev_to (ev_var rfl) ?_
            obtain ⟨d48, _, _, _, _, hO49⟩ := ins_Threads hS (i := 4) rfl
            refine ⟨_, _, _, rfl, hO49, rfl, ?_⟩
            refine ea_to (ea_cons (ev_var rfl) (ea_cons (ev_var rfl) ea_nil)) ?_
            refine ⟨a_v_law_threads_here, (v_law_threads_here : Threads), x3, r38, star [imA (.ref p39) ((x3, r38) : (Str × Str)), lstA a_v_law_pool_here (v_law_pool_here : (List Str)), lstA p18 (([] : (List (Str × Str))) : (List (Str × Str))), lstA p5 (t17.2 : (List (Str × Str))), lstA a_v_law_rows (v_law_rows ++ [(x3, r38)] : (List (Str × Str))), lstA a_v_law_draws_here (v_law_draws_here : (List Int)), F], rfl, Sep.unstar (M := [ThreadsA a_v_law_threads_here v_law_threads_here]) (hS.sel [4, 0, 1, 2, 3, 5, 6, 7] (by decide) rfl : Sep H (([ThreadsA a_v_law_threads_here v_law_threads_here] ++ [imA (.ref p39) ((x3, r38) : (Str × Str)), lstA a_v_law_pool_here (v_law_pool_here : (List Str)), lstA p18 (([] : (List (Str × Str))) : (List (Str × Str))), lstA p5 (t17.2 : (List (Str × Str))), lstA a_v_law_rows (v_law_rows ++ [(x3, r38)] : (List (Str × Str))), lstA a_v_law_draws_here (v_law_draws_here : (List Int)), F] : List (Asn G)))), R.wp_mono (R.wp_bind hm) (fun r50 hm H hS => ?_) (fun _ z => z.elim)⟩
            have hS : Sep H ([ThreadsA a_v_law_threads_here r50, imA (.ref p39) ((x3, r38) : (Str × Str)), lstA a_v_law_pool_here (v_law_pool_here : (List Str)), lstA p18 (([] : (List (Str × Str))) : (List (Str × Str))), lstA p5 (t17.2 : (List (Str × Str))), lstA a_v_law_rows (v_law_rows ++ [(x3, r38)] : (List (Str × Str))), lstA a_v_law_draws_here (v_law_draws_here : (List Int)), F] : List (Asn G)) := Sep.star (M := [ThreadsA a_v_law_threads_here r50]) hS
            refine k_isNn ?_
            exact hm _ (hS.sel [0, 5, 2, 6, 7] (by decide) rfl)
def sp_law_looked (G : Gx) : Sp := fun vs H Q E => ∃ (a_v_law_threads_here : Addr) (v_law_threads_here : Threads) (a_v_law_rows : Addr) (v_law_rows : (List (Str × Str))) (v_law_look : Int) (v_law_name : Str) (a_v_law_held : Addr) (v_law_held : (List ((List Any) × Str))) (F : Asn G), vs = [.ref a_v_law_threads_here, .ref a_v_law_rows, (.int (v_law_look)), (.str (v_law_name)), .ref a_v_law_held] ∧ Sep H ([ThreadsA a_v_law_threads_here v_law_threads_here, lstA a_v_law_rows (v_law_rows : (List (Str × Str))), listE (otfE lstA) a_v_law_held (v_law_held : (List ((List Any) × Str))), F] : List (Asn G)) ∧ R.wp (m_law_looked v_law_threads_here v_law_rows v_law_look v_law_name v_law_held) (fun r => ∀ H', Sep H' ([ThreadsA a_v_law_threads_here v_law_threads_here, lstA a_v_law_rows (v_law_rows : (List (Str × Str))), listE (otfE lstA) a_v_law_held (r.2 : (List ((List Any) × Str))), F] : List (Asn G)) → Q (.bl (r.1)) H') (fun _ => False)
abbrev N_law_looked : List Str := ["_law_threads_here", "_law_rows", "_law_look", "_law_name", "_law_held", "_law_found", "_law_row", "_law_due"]
theorem sc_law_looked : FnScope N_law_looked ["_law_threads_here", "_law_rows", "_law_look", "_law_name", "_law_held"] (defScope s_law_looked) := ⟨rfl, rfl, rfl, by decide +kernel, rfl, by decide +kernel, by decide +kernel⟩
theorem ok_law_looked (T : Txt G mg) : FnG P w G.K mg base CX0 4 T.a_law_looked T.fd_law_looked ["_law_threads_here", "_law_rows", "_law_look", "_law_name", "_law_held"] (sp_law_looked G) := by
  have nd := sc_law_looked.nd
  refine Fun.okG T.F_law_looked sc_law_looked (fun vs H Q E h => ?_) (fun cdv A outer s H vs Q E hgd hr h => ?_)
  · obtain ⟨a_v_law_threads_here, v_law_threads_here, a_v_law_rows, v_law_rows, v_law_look, v_law_name, a_v_law_held, v_law_held, F, rfl, _⟩ := h; rfl
  · obtain ⟨a_v_law_threads_here, v_law_threads_here, a_v_law_rows, v_law_rows, v_law_look, v_law_name, a_v_law_held, v_law_held, F, rfl, hS, hm⟩ := h
    refine ⟨_, (pss_cons (ps_if (pt_cmpR op_eq (pv 2) pe_int (nomark _)) (pss_cons (ps_set (i := 5) nd rfl (Or.inl rfl) (pe_fz (pe_meth0 (pv 0) T.cl_Threads T.m_Threads_names (ok_Threads_names T) (hr.mono (by decide)) T.b_Threads_names .nil pass0)))
      (pss_one (ps_set (i := 7) nd rfl (Or.inl rfl) (pe_fz (pe_callB (sortedSK G.K) (by rfl) T.z_sorted (by decide +kernel) (pa_cons (pe_fz (pe_lc (own := [("_law_row", 6)]) (g := gName 6) rfl nd (pi_listK G.K (pe_fz (pv 1))) (blkOk_by (own := [("_law_row", 6)]) (N := N_law_looked) (sc := defScope s_law_looked) (by decide +kernel)) (fun _ _ _ _ _ => pg_name (i := 6) nd rfl (Or.inl rfl)) (fun _ _ _ _ _ => pts_nil) (fun _ _ _ _ _ => (pe_ix (ix_tupK G.K) (pv 6) pe_int (fun _ _ => rfl))))) pa_nil)))))) (pss_one (ps_if (pt_cmpR op_eq (pv 2) pe_int (nomark _)) (pss_cons (ps_set (i := 5) nd rfl (Or.inl rfl) (pe_fz (pe_meth0 (pv 0) T.cl_Threads T.m_Threads_threads (ok_Threads_threads T) (hr.mono (by decide)) T.b_Threads_threads .nil pass0)))
      (pss_one (ps_set (i := 7) nd rfl (Or.inl rfl) (pe_fz (pe_call (ok_law_threads T) (hr.mono (by decide)) rfl T.g_law_threads T.kp_law_threads T.b_law_threads .nil pass0 (pa_cons (pe_fz (pv 1)) pa_nil)))))) (pss_cons (ps_set (i := 5) nd rfl (Or.inl rfl) (pe_fz (pe_meth (pv 0) T.cl_Threads T.m_Threads_thread (ok_Threads_thread T) (hr.mono (by decide)) T.b_Threads_thread .nil passL (pa_cons (pv 3) pa_nil))))
      (pss_one (ps_set (i := 7) nd rfl (Or.inl rfl) (pe_fz (pe_call (ok_law_thread T) (hr.mono (by decide)) rfl T.g_law_thread T.kp_law_thread T.b_law_thread .nil pass0 (pa_cons (pe_fz (pv 1)) (pa_cons (pv 3) pa_nil))))))))))
      (pss_cons (ps_if (pt_not (pt_val (pe_call (ok_law_is_list T) (hr.mono (by decide)) rfl T.g_law_is_list T.kp_law_is_list T.b_law_is_list .nil pass0 (pa_cons (pe_fz (pv 5)) (pa_cons (pe_fz (pv 7)) pa_nil))))) (pss_one (ps_ret pe_bl)) pss_nil)
      (pss_cons (ps_expr (pe_bmK G.K PySem.F.plainAttrs_list PySem.F.slot_list_append PySem.F.type_list_append mt_append (pe_fz (pv 4)) (pa_cons (pe_tup (pa_cons (pe_fz (pv 5)) (pa_cons (pe_callB (call_reprD G.K hgd hr.units) (by rfl) T.z_repr (by decide +kernel) (pa_cons (pe_fz (pv 7)) pa_nil)) pa_nil))) pa_nil)))
      (pss_one (ps_ret pe_bl))))), ?_⟩
    unfold m_law_looked at hm
    refine f_seq ?_
    refine f_if ?_
    refine et_to (et_test (ev_eqI (ev_var rfl) ev_c)) ?_
    refine ifK_J (τ := (List Any) × (List Any)) (fun (s1 : (List Any) × (List Any)) (σ : L2.St) (H : Hp) => ∃ (a2 : Addr), ∃ (a3 : Addr), σ = [some (.ref a_v_law_threads_here), some (.ref a_v_law_rows), some (.int (v_law_look)), some (.str (v_law_name)), some (.ref a_v_law_held), some (.ref a2), none, some (.ref a3)] ∧ Sep H ([lstA a2 (s1.1 : (List Any)), lstA a3 (s1.2 : (List Any)), ThreadsA a_v_law_threads_here v_law_threads_here, lstA a_v_law_rows (v_law_rows : (List (Str × Str))), listE (otfE lstA) a_v_law_held (v_law_held : (List ((List Any) × Str))), F] : List (Asn G))) hm (fun hb q hm nx => ?_) (fun hb q hm nx => ?_) (fun s1 σ H hm hI => ?_)
    ·
      refine f_seq ?_
      refine c_asg ?_
      refine c_fz ?_
      refine c_meth ?_
      refine ev_to (ev_var rfl) ?_
      obtain ⟨d4, _, _, _, _, hO5⟩ := ins_Threads hS (i := 0) rfl
      refine ⟨_, _, _, rfl, hO5, rfl, ?_⟩
      refine ea_to ea_nil ?_
      refine ⟨a_v_law_threads_here, (v_law_threads_here : Threads), star [lstA a_v_law_rows (v_law_rows : (List (Str × Str))), listE (otfE lstA) a_v_law_held (v_law_held : (List ((List Any) × Str))), F], rfl, Sep.unstar (M := [ThreadsA a_v_law_threads_here v_law_threads_here]) (hS.sel [0, 1, 2, 3] (by decide) rfl : Sep H (([ThreadsA a_v_law_threads_here v_law_threads_here] ++ [lstA a_v_law_rows (v_law_rows : (List (Str × Str))), listE (otfE lstA) a_v_law_held (v_law_held : (List ((List Any) × Str))), F] : List (Asn G)))), R.wp_mono (R.wp_bind hm) (fun r6 hm p7 H hS => ?_) (fun _ z => z)⟩
      have hS : Sep H ([lstA p7 (r6 : (List Str)), ThreadsA a_v_law_threads_here v_law_threads_here, lstA a_v_law_rows (v_law_rows : (List (Str × Str))), listE (otfE lstA) a_v_law_held (v_law_held : (List ((List Any) × Str))), F] : List (Asn G)) := Sep.star (M := [lstA p7 (r6 : (List Str)), ThreadsA a_v_law_threads_here v_law_threads_here]) hS
      refine fz_no ?_
      have hS : Sep H ([lstA p7 (r6.map Any.str : (List Any)), ThreadsA a_v_law_threads_here v_law_threads_here, lstA a_v_law_rows (v_law_rows : (List (Str × Str))), listE (otfE lstA) a_v_law_held (v_law_held : (List ((List Any) × Str))), F] : List (Asn G)) := conv_strs (hS.sel [0, 1, 2, 3, 4] (by decide) rfl)
      obtain ⟨y8, hy8, hm⟩ := wp_let hm
      have hS : Sep H ([lstA p7 (y8 : (List Any)), ThreadsA a_v_law_threads_here v_law_threads_here, lstA a_v_law_rows (v_law_rows : (List (Str × Str))), listE (otfE lstA) a_v_law_held (v_law_held : (List ((List Any) × Str))), F] : List (Asn G)) := by rw [← hy8]; exact hS
      refine c_set (σ' := [some (.ref a_v_law_threads_here), some (.ref a_v_law_rows), some (.int (v_law_look)), some (.str (v_law_name)), some (.ref a_v_law_held), some (.ref p7), none, none]) rfl ?_
      refine sq_nx ?_
      refine c_asg ?_
      refine c_fz ?_
      refine c_cb ?_
      refine c_cons ?_
      refine c_fz ?_
      refine c_lc ?_
      refine c_il ?_
      refine ev_to (ev_fz (ev_var rfl)) ?_
      refine k_il hS (i := 2) rfl ?_
      obtain ⟨h9, hm⟩ := R.wp_need hm
      refine lc_sep (β := Str) (fun (_ : Unit) => ([lstA p7 (y8 : (List Any)), ThreadsA a_v_law_threads_here v_law_threads_here, lstA a_v_law_rows (v_law_rows : (List (Str × Str))), listE (otfE lstA) a_v_law_held (v_law_held : (List ((List Any) × Str))), F] : List (Asn G))) (s := ()) (im := (Im.im G)) hS (fun _ _ _ => wk_list fun _ _ h => h.sq (i := 3) rfl) h9 hm (fun p10 _ ys13 x11 v12 H q Nx hS hx hm kS kN => ?_) (fun p10 t H hm hS => ?_)
      ·
        obtain ⟨a14, rfl⟩ := isref hx
        have hS := hS.addIm (v := (.ref a14)) (x := (x11 : (Str × Str))) hx
        refine c_gLc (σ' := [some (.ref a_v_law_threads_here), some (.ref a_v_law_rows), some (.int (v_law_look)), some (.str (v_law_name)), some (.ref a_v_law_held), some (.ref p7), some (.ref a14), none]) rfl rfl ?_
        refine c_yes ?_
        obtain ⟨u16, u17, hT20, h18, h19⟩ := im2 (hS.im (i := 0) rfl)
        obtain rfl : u16 = (.str (x11.1)) := h18
        obtain rfl : u17 = (.str (x11.2)) := h19
        refine ev_to (ev_ixT (ev_var rfl) ev_c hT20 rfl) ?_
        exact kS () _ _ _ hm rfl (hS.sel [1, 2, 3, 4, 5, 6] (by decide) rfl)
      · revert hm hS; generalize t = t21; intro hm hS
        refine fz_no ?_
        refine c_nil ?_
        obtain ⟨h23, hm⟩ := R.wp_need hm
        refine k_sorted hS (hS.sqF (i := 0) rfl) h23 fun p22 H hS => ?_
        refine fz_no ?_
        have hS : Sep H ([lstA p22 ((sortT t21.2).map Any.str : (List Any)), lstA p10 (t21.2 : (List Str)), lstA p7 (y8 : (List Any)), ThreadsA a_v_law_threads_here v_law_threads_here, lstA a_v_law_rows (v_law_rows : (List (Str × Str))), listE (otfE lstA) a_v_law_held (v_law_held : (List ((List Any) × Str))), F] : List (Asn G)) := conv_strs (hS.sel [0, 1, 2, 3, 4, 5, 6] (by decide) rfl)
        obtain ⟨y24, hy24, hm⟩ := wp_let hm
        have hS : Sep H ([lstA p22 (y24 : (List Any)), lstA p10 (t21.2 : (List Str)), lstA p7 (y8 : (List Any)), ThreadsA a_v_law_threads_here v_law_threads_here, lstA a_v_law_rows (v_law_rows : (List (Str × Str))), listE (otfE lstA) a_v_law_held (v_law_held : (List ((List Any) × Str))), F] : List (Asn G)) := by rw [← hy24]; exact hS
        refine c_set (σ' := [some (.ref a_v_law_threads_here), some (.ref a_v_law_rows), some (.int (v_law_look)), some (.str (v_law_name)), some (.ref a_v_law_held), some (.ref p7), none, some (.ref p22)]) rfl ?_
        exact nx _ _ _ hm ⟨_, _, rfl, hS.sel [2, 0, 3, 4, 5, 6] (by decide) rfl⟩
    ·
      refine f_if ?_
      refine et_to (et_test (ev_eqI (ev_var rfl) ev_c)) ?_
      refine ifK_J (τ := (List Any) × (List Any)) (fun (s25 : (List Any) × (List Any)) (σ : L2.St) (H : Hp) => ∃ (a26 : Addr), ∃ (a27 : Addr), σ = [some (.ref a_v_law_threads_here), some (.ref a_v_law_rows), some (.int (v_law_look)), some (.str (v_law_name)), some (.ref a_v_law_held), some (.ref a26), none, some (.ref a27)] ∧ Sep H ([lstA a26 (s25.1 : (List Any)), lstA a27 (s25.2 : (List Any)), ThreadsA a_v_law_threads_here v_law_threads_here, lstA a_v_law_rows (v_law_rows : (List (Str × Str))), listE (otfE lstA) a_v_law_held (v_law_held : (List ((List Any) × Str))), F] : List (Asn G))) hm (fun hb q hm nx => ?_) (fun hb q hm nx => ?_) (fun s25 σ H hm hI => ?_)
      ·
        refine f_seq ?_
        refine c_asg ?_
        refine c_fz ?_
        refine c_meth ?_
        refine ev_to (ev_var rfl) ?_
        obtain ⟨d28, _, _, _, _, hO29⟩ := ins_Threads hS (i := 0) rfl
        refine ⟨_, _, _, rfl, hO29, rfl, ?_⟩
        refine ea_to ea_nil ?_
        refine ⟨a_v_law_threads_here, (v_law_threads_here : Threads), star [lstA a_v_law_rows (v_law_rows : (List (Str × Str))), listE (otfE lstA) a_v_law_held (v_law_held : (List ((List Any) × Str))), F], rfl, Sep.unstar (M := [ThreadsA a_v_law_threads_here v_law_threads_here]) (hS.sel [0, 1, 2, 3] (by decide) rfl : Sep H (([ThreadsA a_v_law_threads_here v_law_threads_here] ++ [lstA a_v_law_rows (v_law_rows : (List (Str × Str))), listE (otfE lstA) a_v_law_held (v_law_held : (List ((List Any) × Str))), F] : List (Asn G)))), R.wp_mono (R.wp_bind hm) (fun r30 hm p31 H hS => ?_) (fun _ z => z)⟩
        have hS : Sep H ([lstA p31 (r30 : (List (List Str))), ThreadsA a_v_law_threads_here v_law_threads_here, lstA a_v_law_rows (v_law_rows : (List (Str × Str))), listE (otfE lstA) a_v_law_held (v_law_held : (List ((List Any) × Str))), F] : List (Asn G)) := Sep.star (M := [lstA p31 (r30 : (List (List Str))), ThreadsA a_v_law_threads_here v_law_threads_here]) hS
        refine fz_no ?_
        have hS : Sep H ([lstA p31 (r30.map lsA : (List Any)), ThreadsA a_v_law_threads_here v_law_threads_here, lstA a_v_law_rows (v_law_rows : (List (Str × Str))), listE (otfE lstA) a_v_law_held (v_law_held : (List ((List Any) × Str))), F] : List (Asn G)) := conv_lists (hS.sel [0, 1, 2, 3, 4] (by decide) rfl)
        obtain ⟨y32, hy32, hm⟩ := wp_let hm
        have hS : Sep H ([lstA p31 (y32 : (List Any)), ThreadsA a_v_law_threads_here v_law_threads_here, lstA a_v_law_rows (v_law_rows : (List (Str × Str))), listE (otfE lstA) a_v_law_held (v_law_held : (List ((List Any) × Str))), F] : List (Asn G)) := by rw [← hy32]; exact hS
        refine c_set (σ' := [some (.ref a_v_law_threads_here), some (.ref a_v_law_rows), some (.int (v_law_look)), some (.str (v_law_name)), some (.ref a_v_law_held), some (.ref p31), none, none]) rfl ?_
        refine sq_nx ?_
        refine c_asg ?_
        refine c_fz ?_
        refine c_call ?_
        refine ea_to (ea_cons (ev_fz (ev_var rfl)) ea_nil) ?_
        refine ⟨a_v_law_rows, (v_law_rows : (List (Str × Str))), star [lstA p31 (y32 : (List Any)), ThreadsA a_v_law_threads_here v_law_threads_here, listE (otfE lstA) a_v_law_held (v_law_held : (List ((List Any) × Str))), F], rfl, Sep.unstar (M := [lstA a_v_law_rows (v_law_rows : (List (Str × Str)))]) (hS.sel [2, 0, 1, 3, 4] (by decide) rfl : Sep H (([lstA a_v_law_rows (v_law_rows : (List (Str × Str)))] ++ [lstA p31 (y32 : (List Any)), ThreadsA a_v_law_threads_here v_law_threads_here, listE (otfE lstA) a_v_law_held (v_law_held : (List ((List Any) × Str))), F] : List (Asn G)))), R.wp_mono (R.wp_bind hm) (fun r33 hm p34 H hS => ?_) (fun _ z => z)⟩
        have hS : Sep H ([lstA p34 (r33 : (List (List Str))), lstA a_v_law_rows (v_law_rows : (List (Str × Str))), lstA p31 (y32 : (List Any)), ThreadsA a_v_law_threads_here v_law_threads_here, listE (otfE lstA) a_v_law_held (v_law_held : (List ((List Any) × Str))), F] : List (Asn G)) := Sep.star (M := [lstA p34 (r33 : (List (List Str))), lstA a_v_law_rows (v_law_rows : (List (Str × Str)))]) hS
        refine fz_no ?_
        have hS : Sep H ([lstA p34 (r33.map lsA : (List Any)), lstA a_v_law_rows (v_law_rows : (List (Str × Str))), lstA p31 (y32 : (List Any)), ThreadsA a_v_law_threads_here v_law_threads_here, listE (otfE lstA) a_v_law_held (v_law_held : (List ((List Any) × Str))), F] : List (Asn G)) := conv_lists (hS.sel [0, 1, 2, 3, 4, 5] (by decide) rfl)
        obtain ⟨y35, hy35, hm⟩ := wp_let hm
        have hS : Sep H ([lstA p34 (y35 : (List Any)), lstA a_v_law_rows (v_law_rows : (List (Str × Str))), lstA p31 (y32 : (List Any)), ThreadsA a_v_law_threads_here v_law_threads_here, listE (otfE lstA) a_v_law_held (v_law_held : (List ((List Any) × Str))), F] : List (Asn G)) := by rw [← hy35]; exact hS
        refine c_set (σ' := [some (.ref a_v_law_threads_here), some (.ref a_v_law_rows), some (.int (v_law_look)), some (.str (v_law_name)), some (.ref a_v_law_held), some (.ref p31), none, some (.ref p34)]) rfl ?_
        exact nx _ _ _ hm ⟨_, _, rfl, hS.sel [2, 0, 3, 1, 4, 5] (by decide) rfl⟩
      ·
        refine f_seq ?_
        refine c_asg ?_
        refine c_fz ?_
        refine c_meth ?_
        refine ev_to (ev_var rfl) ?_
        obtain ⟨d36, _, _, _, _, hO37⟩ := ins_Threads hS (i := 0) rfl
        refine ⟨_, _, _, rfl, hO37, rfl, ?_⟩
        refine ea_to (ea_cons (ev_var rfl) ea_nil) ?_
        refine ⟨a_v_law_threads_here, (v_law_threads_here : Threads), v_law_name, star [lstA a_v_law_rows (v_law_rows : (List (Str × Str))), listE (otfE lstA) a_v_law_held (v_law_held : (List ((List Any) × Str))), F], rfl, Sep.unstar (M := [ThreadsA a_v_law_threads_here v_law_threads_here]) (hS.sel [0, 1, 2, 3] (by decide) rfl : Sep H (([ThreadsA a_v_law_threads_here v_law_threads_here] ++ [lstA a_v_law_rows (v_law_rows : (List (Str × Str))), listE (otfE lstA) a_v_law_held (v_law_held : (List ((List Any) × Str))), F] : List (Asn G)))), R.wp_mono (R.wp_bind hm) (fun r38 hm p39 H hS => ?_) (fun _ z => z.elim)⟩
        have hS : Sep H ([lstA p39 (r38 : (List Str)), ThreadsA a_v_law_threads_here v_law_threads_here, lstA a_v_law_rows (v_law_rows : (List (Str × Str))), listE (otfE lstA) a_v_law_held (v_law_held : (List ((List Any) × Str))), F] : List (Asn G)) := Sep.star (M := [lstA p39 (r38 : (List Str)), ThreadsA a_v_law_threads_here v_law_threads_here]) hS
        refine fz_no ?_
        have hS : Sep H ([lstA p39 (r38.map Any.str : (List Any)), ThreadsA a_v_law_threads_here v_law_threads_here, lstA a_v_law_rows (v_law_rows : (List (Str × Str))), listE (otfE lstA) a_v_law_held (v_law_held : (List ((List Any) × Str))), F] : List (Asn G)) := conv_strs (hS.sel [0, 1, 2, 3, 4] (by decide) rfl)
        obtain ⟨y40, hy40, hm⟩ := wp_let hm
        have hS : Sep H ([lstA p39 (y40 : (List Any)), ThreadsA a_v_law_threads_here v_law_threads_here, lstA a_v_law_rows (v_law_rows : (List (Str × Str))), listE (otfE lstA) a_v_law_held (v_law_held : (List ((List Any) × Str))), F] : List (Asn G)) := by rw [← hy40]; exact hS
        refine c_set (σ' := [some (.ref a_v_law_threads_here), some (.ref a_v_law_rows), some (.int (v_law_look)), some (.str (v_law_name)), some (.ref a_v_law_held), some (.ref p39), none, none]) rfl ?_
        refine sq_nx ?_
        refine c_asg ?_
        refine c_fz ?_
        refine c_call ?_
        refine ea_to (ea_cons (ev_fz (ev_var rfl)) (ea_cons (ev_var rfl) ea_nil)) ?_
        refine ⟨a_v_law_rows, (v_law_rows : (List (Str × Str))), v_law_name, star [lstA p39 (y40 : (List Any)), ThreadsA a_v_law_threads_here v_law_threads_here, listE (otfE lstA) a_v_law_held (v_law_held : (List ((List Any) × Str))), F], rfl, Sep.unstar (M := [lstA a_v_law_rows (v_law_rows : (List (Str × Str)))]) (hS.sel [2, 0, 1, 3, 4] (by decide) rfl : Sep H (([lstA a_v_law_rows (v_law_rows : (List (Str × Str)))] ++ [lstA p39 (y40 : (List Any)), ThreadsA a_v_law_threads_here v_law_threads_here, listE (otfE lstA) a_v_law_held (v_law_held : (List ((List Any) × Str))), F] : List (Asn G)))), R.wp_mono (R.wp_bind hm) (fun r41 hm p42 H hS => ?_) (fun _ z => z)⟩
        have hS : Sep H ([lstA p42 (r41 : (List Str)), lstA a_v_law_rows (v_law_rows : (List (Str × Str))), lstA p39 (y40 : (List Any)), ThreadsA a_v_law_threads_here v_law_threads_here, listE (otfE lstA) a_v_law_held (v_law_held : (List ((List Any) × Str))), F] : List (Asn G)) := Sep.star (M := [lstA p42 (r41 : (List Str)), lstA a_v_law_rows (v_law_rows : (List (Str × Str)))]) hS
        refine fz_no ?_
        have hS : Sep H ([lstA p42 (r41.map Any.str : (List Any)), lstA a_v_law_rows (v_law_rows : (List (Str × Str))), lstA p39 (y40 : (List Any)), ThreadsA a_v_law_threads_here v_law_threads_here, listE (otfE lstA) a_v_law_held (v_law_held : (List ((List Any) × Str))), F] : List (Asn G)) := conv_strs (hS.sel [0, 1, 2, 3, 4, 5] (by decide) rfl)
        obtain ⟨y43, hy43, hm⟩ := wp_let hm
        have hS : Sep H ([lstA p42 (y43 : (List Any)), lstA a_v_law_rows (v_law_rows : (List (Str × Str))), lstA p39 (y40 : (List Any)), ThreadsA a_v_law_threads_here v_law_threads_here, listE (otfE lstA) a_v_law_held (v_law_held : (List ((List Any) × Str))), F] : List (Asn G)) := by rw [← hy43]; exact hS
        refine c_set (σ' := [some (.ref a_v_law_threads_here), some (.ref a_v_law_rows), some (.int (v_law_look)), some (.str (v_law_name)), some (.ref a_v_law_held), some (.ref p39), none, some (.ref p42)]) rfl ?_
        exact nx _ _ _ hm ⟨_, _, rfl, hS.sel [2, 0, 3, 1, 4, 5] (by decide) rfl⟩
      · obtain ⟨a26, a27, rfl, hS⟩ := hI
        exact nx _ _ _ hm ⟨_, _, rfl, hS.sel [0, 1, 2, 3, 4, 5] (by decide) rfl⟩
    · obtain ⟨a2, a3, rfl, hS⟩ := hI
      refine sq_nx ?_
      refine f_seq ?_
      refine f_if ?_
      refine f_not ?_
      refine f_B ?_
      refine c_call ?_
      refine ea_to (ea_cons (ev_fz (ev_var rfl)) (ea_cons (ev_fz (ev_var rfl)) ea_nil)) ?_
      refine ⟨a2, (s1.1 : (List Any)), a3, (s1.2 : (List Any)), star [ThreadsA a_v_law_threads_here v_law_threads_here, lstA a_v_law_rows (v_law_rows : (List (Str × Str))), listE (otfE lstA) a_v_law_held (v_law_held : (List ((List Any) × Str))), F], rfl, Sep.unstar (M := [lstA a2 (s1.1 : (List Any)), lstA a3 (s1.2 : (List Any))]) (hS.sel [0, 1, 2, 3, 4, 5] (by decide) rfl : Sep H (([lstA a2 (s1.1 : (List Any)), lstA a3 (s1.2 : (List Any))] ++ [ThreadsA a_v_law_threads_here v_law_threads_here, lstA a_v_law_rows (v_law_rows : (List (Str × Str))), listE (otfE lstA) a_v_law_held (v_law_held : (List ((List Any) × Str))), F] : List (Asn G)))), R.wp_mono (R.wp_bind hm) (fun r44 hm H hS => ?_) (fun _ z => z)⟩
      have hS : Sep H ([lstA a2 (s1.1 : (List Any)), lstA a3 (s1.2 : (List Any)), ThreadsA a_v_law_threads_here v_law_threads_here, lstA a_v_law_rows (v_law_rows : (List (Str × Str))), listE (otfE lstA) a_v_law_held (v_law_held : (List ((List Any) × Str))), F] : List (Asn G)) := Sep.star (M := [lstA a2 (s1.1 : (List Any)), lstA a3 (s1.2 : (List Any))]) hS
      refine f_bl ?_
      refine f_nK ?_
      refine ifK_2 (fun hb45 => ?_) (fun hb45 => ?_)
      · have hm := R.wp_ifY hm hb45
        refine c_ret ?_
        refine ev_to ev_c ?_
        exact hm _ (hS.sel [2, 3, 4, 5] (by decide) rfl)
      · have hm := R.wp_ifN hm (by first | (rw [hb45]; decide) | simpa using hb45)
        refine st_nx ?_
        refine sq_nx ?_
        refine f_seq ?_
        refine c_drop ?_
        refine c_bm ?_
        refine ev_to (ev_fz (ev_var rfl)) ⟨tyE hS (i := 4) rfl, ?_⟩
        refine c_cons ?_
        refine c_tup ?_
        obtain ⟨s46, hs46, hm⟩ := wp_reprA hm
        refine ea_to (ea_cons (ev_fz (ev_var rfl)) (ea_cons (ev_cb (ea_cons (ev_fz (ev_var rfl)) ea_nil) fun _ q => r_reprA hS (i := 1) rfl hs46 q) ea_nil)) ?_
        refine k_tupV (vs := [(.ref a2), (.str (s46))]) hS (by show 2 ≤ sizeLine; decide) fun p47 H hS => ?_
        have hS := hS.addIm (v := (.str (s46))) (x := (s46 : Str)) rfl
        have hS : Sep H ([(otfE lstA) p47 ((s1.1, s46) : ((List Any) × Str)), lstA a3 (s1.2 : (List Any)), ThreadsA a_v_law_threads_here v_law_threads_here, lstA a_v_law_rows (v_law_rows : (List (Str × Str))), listE (otfE lstA) a_v_law_held (v_law_held : (List ((List Any) × Str))), F] : List (Asn G)) := otf_pack (hS.sel [1, 2, 0, 3, 4, 5, 6, 7] (by decide) rfl)
        refine c_nil ?_
        obtain ⟨h48, hm⟩ := R.wp_need hm
        refine k_appendE (hS.sel [0, 4, 1, 2, 3, 5] (by decide) rfl : Sep H ((otfE lstA) p47 ((s1.1, s46) : ((List Any) × Str)) :: listE (otfE lstA) a_v_law_held (v_law_held : (List ((List Any) × Str))) :: [lstA a3 (s1.2 : (List Any)), ThreadsA a_v_law_threads_here v_law_threads_here, lstA a_v_law_rows (v_law_rows : (List (Str × Str))), F] : List (Asn G))) h48 fun H hS => ?_
        have hS : Sep H ([listE (otfE lstA) a_v_law_held (v_law_held ++ [(s1.1, s46)] : (List ((List Any) × Str))), lstA a3 (s1.2 : (List Any)), ThreadsA a_v_law_threads_here v_law_threads_here, lstA a_v_law_rows (v_law_rows : (List (Str × Str))), F] : List (Asn G)) := hS
        refine sq_nx ?_
        refine c_ret ?_
        refine ev_to ev_c ?_
        exact hm _ (hS.sel [2, 3, 0, 4] (by decide) rfl)
def sp_law_stands (G : Gx) : Sp := fun vs H Q E => ∃ (a_v_law_threads_here : Addr) (v_law_threads_here : Threads) (a_v_law_rows : Addr) (v_law_rows : (List (Str × Str))) (v_law_draw : Int) (a_v_law_held : Addr) (v_law_held : (List ((List Any) × Str))) (F : Asn G), vs = [.ref a_v_law_threads_here, .ref a_v_law_rows, (.int (v_law_draw)), .ref a_v_law_held] ∧ Sep H ([ThreadsA a_v_law_threads_here v_law_threads_here, lstA a_v_law_rows (v_law_rows : (List (Str × Str))), listE (otfE lstA) a_v_law_held (v_law_held : (List ((List Any) × Str))), F] : List (Asn G)) ∧ R.wp (m_law_stands v_law_threads_here v_law_rows v_law_draw v_law_held) (fun r => ∀ H', Sep H' ([ThreadsA a_v_law_threads_here v_law_threads_here, lstA a_v_law_rows (v_law_rows : (List (Str × Str))), listE (otfE lstA) a_v_law_held (r.2 : (List ((List Any) × Str))), F] : List (Asn G)) → Q (.bl (r.1)) H') (fun _ => False)
abbrev N_law_stands : List Str := ["_law_threads_here", "_law_rows", "_law_draw", "_law_held", "_law_turn", "_law_look", "_law_name"]
theorem sc_law_stands : FnScope N_law_stands ["_law_threads_here", "_law_rows", "_law_draw", "_law_held"] (defScope s_law_stands) := ⟨rfl, rfl, rfl, by decide +kernel, rfl, by decide +kernel, by decide +kernel⟩
theorem ok_law_stands (T : Txt G mg) : FnG P w G.K mg base CX0 5 T.a_law_stands T.fd_law_stands ["_law_threads_here", "_law_rows", "_law_draw", "_law_held"] (sp_law_stands G) := by
  have nd := sc_law_stands.nd
  refine Fun.okG T.F_law_stands sc_law_stands (fun vs H Q E h => ?_) (fun cdv A outer s H vs Q E hgd hr h => ?_)
  · obtain ⟨a_v_law_threads_here, v_law_threads_here, a_v_law_rows, v_law_rows, v_law_draw, a_v_law_held, v_law_held, F, rfl, _⟩ := h; rfl
  · obtain ⟨a_v_law_threads_here, v_law_threads_here, a_v_law_rows, v_law_rows, v_law_draw, a_v_law_held, v_law_held, F, rfl, hS, hm⟩ := h
    refine ⟨_, (pss_cons (ps_for PassesOwn.never rfl (pi_range1 rfl T.z_range (pa_cons (pe_op op_add pe_int (pe_op op_mul (pe_callTy call_int1 (by rfl) T.z_int (by decide +kernel) (pa_cons (pe_cmpR op_eq (pe_op op_mod (pv 2) pe_int) pe_int (nomark _)) pa_nil)) pe_int)) pa_nil)) (pg_name (i := 4) nd rfl (Or.inl rfl)) (pss_cons (ps_set (i := 5) nd rfl (Or.inl rfl) (pe_op op_mod (pe_op op_add (pv 2) (pv 4)) pe_int))
      (pss_cons (ps_if (PW.pt (pw_and (pt_cmpR op_eq (pv 5) pe_int (nomark _)) (pw_and1 (pt_cmpR (eqDK G.K hr.units) (pe_fz (pv 1)) (pe_fz (pe_lst pa_nil)) (nomark _))))) (pss_one ps_continue) pss_nil)
      (pss_cons (ps_set (i := 6) nd rfl (Or.inl rfl) pe_str)
      (pss_cons (ps_if (pt_cmpR (neDK G.K hr.units) (pe_fz (pv 1)) (pe_fz (pe_lst pa_nil)) (nomark _)) (pss_one (ps_set (i := 6) nd rfl (Or.inl rfl) (pe_ix (ix_tupK G.K) (pe_ix (ix_listK G.K) (pe_fz (pv 1)) (pe_op op_mod (pe_op op_fdiv (pv 2) pe_int) (pe_callB (lenSqK G.K) (by rfl) T.z_len PySem.boot_len (pa_cons (pe_fz (pv 1)) pa_nil))) (fun _ _ => rfl)) pe_int (fun _ _ => rfl)))) pss_nil)
      (pss_one (ps_if (pt_not (pt_val (pe_callGd (ok_law_looked T) hgd (hr.mono (by decide)) rfl T.g_law_looked T.kp_law_looked T.b_law_looked .nil pass0 (pa_cons (pv 0) (pa_cons (pe_fz (pv 1)) (pa_cons (pv 5) (pa_cons (pv 6) (pa_cons (pe_fz (pv 3)) pa_nil)))))))) (pss_one (ps_ret pe_bl)) pss_nil)))))))
      (pss_cons (ps_if (pt_cmpR op_eq (pe_op op_mod (pe_op op_fdiv (pv 2) pe_int) pe_int) pe_int (nomark _)) (pss_cons (ps_expr (pe_bmK G.K PySem.F.plainAttrs_list PySem.F.slot_list_append PySem.F.type_list_append mt_append (pe_fz (pe_ix (ix_tupK G.K) (pe_ix (ix_listK G.K) (pe_fz (pv 3)) (pe_un un_neg pe_int) (fun _ _ => rfl)) pe_int (fun _ _ => rfl))) (pa_cons pe_str pa_nil)))
      (pss_one (ps_asg (pe_tup (pa_cons (pe_fz (pe_ix (ix_tupK G.K) (pe_ix (ix_listK G.K) (pe_fz (pv 3)) (pe_un un_neg pe_int) (fun _ _ => rfl)) pe_int (fun _ _ => rfl))) (pa_cons (pe_callB (call_reprD G.K hgd hr.units) (by rfl) T.z_repr (by decide +kernel) (pa_cons (pe_fz (pe_ix (ix_tupK G.K) (pe_ix (ix_listK G.K) (pe_fz (pv 3)) (pe_un un_neg pe_int) (fun _ _ => rfl)) pe_int (fun _ _ => rfl))) pa_nil)) pa_nil))) (pg_sub (pe_fz (pv 3)) (pe_un un_neg pe_int) set_list)))) pss_nil)
      (pss_one (ps_ret pe_bl)))), ?_⟩
    unfold m_law_stands at hm
    refine f_seq ?_
    refine c_for ?_
    refine c_rng1 ?_
    refine ea_to (ea_cons (ev_add ev_c (ev_mul (ev_cb (ea_cons (ev_eqI (ev_mod (ev_var rfl) ev_c (by decide)) ev_c) ea_nil) fun _ q => .inr ⟨_, rfl, q⟩) ev_c (.inr (by constructor <;> decide)))) ea_nil) ?_
    obtain ⟨h1, hm⟩ := R.wp_need hm
    refine k_rng1 h1.1 h1.2 ?_
    refine k_forF (τ := (List ((List Any) × Str))) (fun (s2 : (List ((List Any) × Str))) (σ : L2.St) (H : Hp) => ∃ (w5 w6 w7 : Option V), σ = [some (.ref a_v_law_threads_here), some (.ref a_v_law_rows), some (.int (v_law_draw)), some (.ref a_v_law_held), w5, w6, w7] ∧ Sep H ([ThreadsA a_v_law_threads_here v_law_threads_here, lstA a_v_law_rows (v_law_rows : (List (Str × Str))), listE (otfE lstA) a_v_law_held (s2 : (List ((List Any) × Str))), F] : List (Asn G))) (im := (fun _ v (x : Int) => v = .int x)) (s := (v_law_held)) (fun _ => wk_range) ⟨_, _, _, rfl, hS.sel [0, 1, 2, 3] (by decide) rfl⟩ hm (fun s2 x3 v4 σ H q N B hI hx hm nx bk ho8 => ?_) (fun s2 σ H hm hI => ?_)
    ·
      obtain ⟨w5, w6, w7, rfl, hS⟩ := hI
      cases hx
      refine c_gN (σ' := [some (.ref a_v_law_threads_here), some (.ref a_v_law_rows), some (.int (v_law_draw)), some (.ref a_v_law_held), some (.int (x3)), w6, w7]) rfl ?_
      refine f_seq ?_
      refine c_asg ?_
      refine ev_to (ev_mod (ev_add (ev_var rfl) (ev_var rfl)) ev_c (by decide)) ?_
      obtain ⟨y9, hy9, hm⟩ := wp_let hm
      refine n_is (w := (.int (y9))) (by first | rw [hy9] | (subst hy9; rfl)) ?_
      refine c_set (σ' := [some (.ref a_v_law_threads_here), some (.ref a_v_law_rows), some (.int (v_law_draw)), some (.ref a_v_law_held), some (.int (x3)), some (.int (y9)), w7]) rfl ?_
      refine sq_nx ?_
      refine f_seq ?_
      refine f_if ?_
      refine f_and ?_
      refine et_to (et_test (ev_eqI (ev_var rfl) ev_c)) ?_
      refine andK_J hm hS (fun hb q hm nx => ?_) (fun b10 H hm hS => ?_)
      ·
        refine f_test ?_
        refine c_op ?_
        refine ev_to (ev_fz (ev_var rfl)) ?_
        refine c_fz ?_
        refine c_lst ?_
        refine ea_to ea_nil ?_
        refine k_lst (α := (Str × Str)) (vs := []) (xs := ([] : (List (Str × Str)))) hS True.intro (by show 0 ≤ sizeLine; decide) fun p11 H hS => ?_
        refine fz_no ?_
        obtain ⟨h12, hm⟩ := R.wp_need hm
        obtain ⟨h13, hm⟩ := R.wp_need hm
        refine ev_op2 (ev_eqP (G := G) (x := (v_law_rows : (List (Str × Str)))) (y := ([] : (List (Str × Str)))) ev_c ev_c (dpOwn hS (i := 2) rfl) (dpOwn hS (i := 0) rfl) h12 h13 (Nat.le_of_ble_eq_true rfl)) ?_
        refine f_bl ?_
        exact nx _ _ hm (hS.sel [1, 2, 3, 4] (by decide) rfl)
      ·
        refine ifK_2 (fun hb14 => ?_) (fun hb14 => ?_)
        · have hm := R.wp_ifY hm hb14
          first | refine lp_ct ?_ | skip
          exact nx _ _ _ hm ⟨_, _, _, rfl, hS.sel [0, 1, 2, 3] (by decide) rfl⟩
        · have hm := R.wp_ifN hm (by first | (rw [hb14]; decide) | simpa using hb14)
          refine st_nx ?_
          refine sq_nx ?_
          refine f_seq ?_
          refine c_asg ?_
          refine ev_to ev_c ?_
          refine c_set (σ' := [some (.ref a_v_law_threads_here), some (.ref a_v_law_rows), some (.int (v_law_draw)), some (.ref a_v_law_held), some (.int (x3)), some (.int (y9)), some (.str (("" : Str)))]) rfl ?_
          refine sq_nx ?_
          refine f_seq ?_
          refine f_if ?_
          refine f_test ?_
          refine c_op ?_
          refine ev_to (ev_fz (ev_var rfl)) ?_
          refine c_fz ?_
          refine c_lst ?_
          refine ea_to ea_nil ?_
          refine k_lst (α := (Str × Str)) (vs := []) (xs := ([] : (List (Str × Str)))) hS True.intro (by show 0 ≤ sizeLine; decide) fun p15 H hS => ?_
          refine fz_no ?_
          obtain ⟨h16, hm⟩ := R.wp_need hm
          obtain ⟨h17, hm⟩ := R.wp_need hm
          refine ev_op2 (ev_neP (G := G) (x := (v_law_rows : (List (Str × Str)))) (y := ([] : (List (Str × Str)))) ev_c ev_c (dpOwn hS (i := 2) rfl) (dpOwn hS (i := 0) rfl) h16 h17 (Nat.le_of_ble_eq_true rfl)) ?_
          refine f_bl ?_
          refine ifK_J (τ := Str) (fun (s18 : Str) (σ : L2.St) (H : Hp) => σ = [some (.ref a_v_law_threads_here), some (.ref a_v_law_rows), some (.int (v_law_draw)), some (.ref a_v_law_held), some (.int (x3)), some (.int (y9)), some (.str (s18))] ∧ Sep H ([lstA p15 (([] : (List (Str × Str))) : (List (Str × Str))), ThreadsA a_v_law_threads_here v_law_threads_here, lstA a_v_law_rows (v_law_rows : (List (Str × Str))), listE (otfE lstA) a_v_law_held (s2 : (List ((List Any) × Str))), F] : List (Asn G))) hm (fun hb q hm nx => ?_) (fun hb q hm nx => ?_) (fun s18 σ H hm hI => ?_)
          ·
            refine c_asg ?_
            obtain ⟨h19, hm⟩ := R.wp_need hm
            obtain ⟨x20, hx20, hm⟩ := wp_idx hm
            obtain ⟨vs21, hq22, hM23⟩ := hS.sq (i := 2) rfl
            obtain ⟨u24, hu25, hi26⟩ := atI_im hM23 hx20
            obtain ⟨a27, rfl⟩ := isref hi26
            obtain ⟨u28, u29, hT32, h30, h31⟩ := im2 hi26
            obtain rfl : u28 = (.str (x20.1)) := h30
            obtain rfl : u29 = (.str (x20.2)) := h31
            refine ev_to (ev_ixT (ev_ixSq (ev_fz (ev_var rfl)) (ev_mod (ev_fdiv (ev_var rfl) ev_c ⟨by decide, by decide⟩) (ev_lenG (ev_fz (ev_var rfl)) (hS.sq (i := 2) rfl)) h19) hq22 hu25) ev_c hT32 rfl) ?_
            refine c_set (σ' := [some (.ref a_v_law_threads_here), some (.ref a_v_law_rows), some (.int (v_law_draw)), some (.ref a_v_law_held), some (.int (x3)), some (.int (y9)), some (.str (x20.1))]) rfl ?_
            exact nx _ _ _ hm ⟨rfl, hS.sel [0, 1, 2, 3, 4] (by decide) rfl⟩
          ·
            refine st_nx ?_
            exact nx _ _ _ hm ⟨rfl, hS.sel [0, 1, 2, 3, 4] (by decide) rfl⟩
          · obtain ⟨rfl, hS⟩ := hI
            refine sq_nx ?_
            refine f_if ?_
            refine f_not ?_
            refine f_B ?_
            refine c_call ?_
            refine ea_to (ea_cons (ev_var rfl) (ea_cons (ev_fz (ev_var rfl)) (ea_cons (ev_var rfl) (ea_cons (ev_var rfl) (ea_cons (ev_fz (ev_var rfl)) ea_nil))))) ?_
            refine ⟨a_v_law_threads_here, (v_law_threads_here : Threads), a_v_law_rows, (v_law_rows : (List (Str × Str))), y9, s18, a_v_law_held, (s2 : (List ((List Any) × Str))), star [lstA p15 (([] : (List (Str × Str))) : (List (Str × Str))), F], rfl, Sep.unstar (M := [ThreadsA a_v_law_threads_here v_law_threads_here, lstA a_v_law_rows (v_law_rows : (List (Str × Str))), listE (otfE lstA) a_v_law_held (s2 : (List ((List Any) × Str)))]) (hS.sel [1, 2, 3, 0, 4] (by decide) rfl : Sep H (([ThreadsA a_v_law_threads_here v_law_threads_here, lstA a_v_law_rows (v_law_rows : (List (Str × Str))), listE (otfE lstA) a_v_law_held (s2 : (List ((List Any) × Str)))] ++ [lstA p15 (([] : (List (Str × Str))) : (List (Str × Str))), F] : List (Asn G)))), R.wp_mono (R.wp_bind hm) (fun r33 hm H hS => ?_) (fun _ z => z)⟩
            have hS : Sep H ([ThreadsA a_v_law_threads_here v_law_threads_here, lstA a_v_law_rows (v_law_rows : (List (Str × Str))), listE (otfE lstA) a_v_law_held (r33.2 : (List ((List Any) × Str))), lstA p15 (([] : (List (Str × Str))) : (List (Str × Str))), F] : List (Asn G)) := Sep.star (M := [ThreadsA a_v_law_threads_here v_law_threads_here, lstA a_v_law_rows (v_law_rows : (List (Str × Str))), listE (otfE lstA) a_v_law_held (r33.2 : (List ((List Any) × Str)))]) hS
            refine f_bl ?_
            refine f_nK ?_
            refine ifK_2 (fun hb34 => ?_) (fun hb34 => ?_)
            · have hm := R.wp_ifY hm hb34
              refine c_ret ?_
              refine ev_to ev_c ?_
              exact (ho8 _ hm) _ (hS.sel [0, 1, 2, 4] (by decide) rfl)
            · have hm := R.wp_ifN hm (by first | (rw [hb34]; decide) | simpa using hb34)
              refine st_nx ?_
              exact nx _ _ _ hm ⟨_, _, _, rfl, hS.sel [0, 1, 2, 4] (by decide) rfl⟩
    · obtain ⟨w5, w6, w7, rfl, hS⟩ := hI
      refine sq_nx ?_
      refine f_seq ?_
      refine f_if ?_
      refine et_to (et_test (ev_eqI (ev_mod (ev_fdiv (ev_var rfl) ev_c ⟨by decide, by decide⟩) ev_c (by decide)) ev_c)) ?_
      refine ifK_J (τ := (List ((List Any) × Str))) (fun (s35 : (List ((List Any) × Str))) (σ : L2.St) (H : Hp) => σ = [some (.ref a_v_law_threads_here), some (.ref a_v_law_rows), some (.int (v_law_draw)), some (.ref a_v_law_held), w5, w6, w7] ∧ Sep H ([ThreadsA a_v_law_threads_here v_law_threads_here, lstA a_v_law_rows (v_law_rows : (List (Str × Str))), listE (otfE lstA) a_v_law_held (s35 : (List ((List Any) × Str))), F] : List (Asn G))) hm (fun hb q hm nx => ?_) (fun hb q hm nx => ?_) (fun s35 σ H hm hI => ?_)
      ·
        refine f_seq ?_
        refine c_drop ?_
        refine c_bm ?_
        refine c_fz ?_
        refine c_op ?_
        refine c_op ?_
        refine ev_to (ev_fz (ev_var rfl)) ?_
        refine ev_to (ev_un ev_c fun _ q => ⟨_, rfl, q⟩) ?_
        obtain ⟨j36, x37, hx37, hm⟩ := wp_ixJ hm
        refine ixK (x := (x37 : ((List Any) × Str))) (hS.sel [2, 0, 1, 3] (by decide) rfl : Sep H (listE (otfE lstA) a_v_law_held (s2 : (List ((List Any) × Str))) :: [ThreadsA a_v_law_threads_here v_law_threads_here, lstA a_v_law_rows (v_law_rows : (List (Str × Str))), F] : List (Asn G))) hx37 fun ps38 p39 hl40 hp41 hS => ?_
        have hS : Sep H ([(otfE lstA) p39 (x37 : ((List Any) × Str)), listH (otfE lstA) a_v_law_held ps38 (s2 : (List ((List Any) × Str))) j36, ThreadsA a_v_law_threads_here v_law_threads_here, lstA a_v_law_rows (v_law_rows : (List (Str × Str))), F] : List (Asn G)) := hS
        refine ev_to ev_c ?_
        obtain ⟨q43, v42, hS⟩ := otf_open (hS.sel [0, 1, 2, 3, 4] (by decide) rfl : Sep _ ((otfE lstA) p39 (x37 : ((List Any) × Str)) :: [listH (otfE lstA) a_v_law_held ps38 (s2 : (List ((List Any) × Str))) j36, ThreadsA a_v_law_threads_here v_law_threads_here, lstA a_v_law_rows (v_law_rows : (List (Str × Str))), F] : List (Asn G)))
        obtain rfl : v42 = (.str (x37.2)) := hS.im (i := 2) rfl
        have hS : Sep _ ([imA (.ref p39) (⟨[.ref q43, (.str (x37.2))]⟩ : TupV), lstA q43 (x37.1 : (List Any)), imA (.str (x37.2)) (x37.2 : Str), listH (otfE lstA) a_v_law_held ps38 (s2 : (List ((List Any) × Str))) j36, ThreadsA a_v_law_threads_here v_law_threads_here, lstA a_v_law_rows (v_law_rows : (List (Str × Str))), F] : List (Asn G)) := hS
        refine r_ixT (tupV_at (hS.im (i := 0) rfl)) rfl ?_
        refine fz_no ?_
        refine ⟨tyL hS (i := 1) rfl, ?_⟩
        refine ea_to (ea_cons ev_c ea_nil) ?_
        obtain ⟨h45, hm⟩ := R.wp_need hm
        refine k_append (x := (Any.str ("zz" : Str))) hS (i := 1) rfl (any_str.mpr rfl) h45 rfl fun H hS => ?_
        have hS : Sep _ ([(otfE lstA) p39 ((x37.1 ++ [(Any.str ("zz" : Str))], x37.2) : ((List Any) × Str)), listH (otfE lstA) a_v_law_held ps38 (s2 : (List ((List Any) × Str))) j36, ThreadsA a_v_law_threads_here v_law_threads_here, lstA a_v_law_rows (v_law_rows : (List (Str × Str))), F] : List (Asn G)) := otf_pack (hS.sel [0, 1, 2, 3, 4, 5, 6] (by decide) rfl)
        have hS : Sep H ([listE (otfE lstA) a_v_law_held (s2.set j36 (x37.1 ++ [(Any.str ("zz" : Str))], x37.2) : (List ((List Any) × Str))), ThreadsA a_v_law_threads_here v_law_threads_here, lstA a_v_law_rows (v_law_rows : (List (Str × Str))), F] : List (Asn G)) := unfocusE (y := ((x37.1 ++ [(Any.str ("zz" : Str))], x37.2) : ((List Any) × Str))) hl40 hp41 (hS.sel [0, 1, 2, 3, 4] (by decide) rfl)
        refine sq_nx ?_
        refine c_asgS ?_
        refine c_tup ?_
        refine c_cons ?_
        refine c_fz ?_
        refine c_op ?_
        refine c_op ?_
        refine ev_to (ev_fz (ev_var rfl)) ?_
        refine ev_to (ev_un ev_c fun _ q => ⟨_, rfl, q⟩) ?_
        obtain ⟨j46, x47, hx47, hm⟩ := wp_ixJ hm
        refine ixK (x := (x47 : ((List Any) × Str))) (hS.sel [0, 1, 2, 3] (by decide) rfl : Sep H (listE (otfE lstA) a_v_law_held (s2.set j36 (x37.1 ++ [(Any.str ("zz" : Str))], x37.2) : (List ((List Any) × Str))) :: [ThreadsA a_v_law_threads_here v_law_threads_here, lstA a_v_law_rows (v_law_rows : (List (Str × Str))), F] : List (Asn G))) hx47 fun ps48 p49 hl50 hp51 hS => ?_
        refine ev_to ev_c ?_
        obtain ⟨q52, v53, hS⟩ := otf_open hS
        obtain rfl : v53 = (.str (x47.2)) := hS.im (i := 2) rfl
        have hS : Sep H ([imA (.ref p49) (⟨[.ref q52, .str (x47.2)]⟩ : TupV), lstA q52 (x47.1 : List Any), imA (.str (x47.2)) (x47.2 : Str), listH (otfE lstA) a_v_law_held ps48 (s2.set j36 (x37.1 ++ [(Any.str ("zz" : Str))], x37.2) : (List ((List Any) × Str))) j46, ThreadsA a_v_law_threads_here v_law_threads_here, lstA a_v_law_rows (v_law_rows : (List (Str × Str))), F] : List (Asn G)) := hS
        refine r_ixT (tupV_at (hS.im (i := 0) rfl)) rfl ?_
        refine fz_no ?_
        refine c_cons ?_
        refine c_cb ?_
        refine c_cons ?_
        refine c_fz ?_
        refine c_op ?_
        refine c_op ?_
        refine ev_to (ev_fz (ev_var rfl)) ?_
        refine ev_to (ev_un ev_c fun _ q => ⟨_, rfl, q⟩) ?_
        refine r_ixH hS (n := 3) rfl hl50 hp51 hx47 ?_
        refine ev_to ev_c ?_
        refine r_ixT (tupV_at (hS.im (i := 0) rfl)) rfl ?_
        refine fz_no ?_
        refine c_nil ?_
        obtain ⟨s54, hs54, hm⟩ := wp_reprA hm
        refine r_reprA hS (i := 1) rfl hs54 ?_
        refine c_nil ?_
        refine k_tupV (vs := [.ref q52, .str s54]) hS (by show 2 ≤ sizeLine; decide) fun p55 H hS => ?_
        have hS := hS.addIm (v := .str s54) (x := (s54 : Str)) rfl
        have hS : Sep H ((otfE lstA) p55 ((x47.1, s54) : ((List Any) × Str)) :: [listH (otfE lstA) a_v_law_held ps48 (s2.set j36 (x37.1 ++ [(Any.str ("zz" : Str))], x37.2) : (List ((List Any) × Str))) j46, ThreadsA a_v_law_threads_here v_law_threads_here, lstA a_v_law_rows (v_law_rows : (List (Str × Str))), F] : List (Asn G)) := otf_pack (hS.sel [1, 3, 0, 5, 6, 7, 8] (by decide) rfl)
        refine ev_to (ev_fz (ev_var rfl)) ?_
        refine ev_to (ev_un ev_c fun _ q => ⟨_, rfl, q⟩) ?_
        refine k_setH (hS.perm (List.Perm.swap _ _ _)) hl50 hx47 fun H hS => ?_
        have hS : Sep H ([listE (otfE lstA) a_v_law_held ((s2.set j36 (x37.1 ++ [(Any.str ("zz" : Str))], x37.2) : (List ((List Any) × Str))).set j46 (x47.1, s54) : (List ((List Any) × Str))), ThreadsA a_v_law_threads_here v_law_threads_here, lstA a_v_law_rows (v_law_rows : (List (Str × Str))), F] : List (Asn G)) := hS
        exact nx _ _ _ hm ⟨rfl, hS.sel [1, 2, 0, 3] (by decide) rfl⟩
      ·
        refine st_nx ?_
        exact nx _ _ _ hm ⟨rfl, hS.sel [0, 1, 2, 3] (by decide) rfl⟩
      · obtain ⟨rfl, hS⟩ := hI
        refine sq_nx ?_
        refine c_ret ?_
        refine ev_to ev_c ?_
        exact hm _ (hS.sel [0, 1, 2, 3] (by decide) rfl)
def sp_law (G : Gx) : Sp := fun vs H Q E => ∃ (a_v_law_script : V) (v_law_script : Script) (F : Asn G), vs = [a_v_law_script] ∧ Im.im G H a_v_law_script v_law_script ∧ Sep H ([F] : List (Asn G)) ∧ R.wp (m_law v_law_script) (fun r => ∀ H', Sep H' ([F] : List (Asn G)) → Q (.bl (r)) H') (fun _ => False)
abbrev N_law : List Str := ["_law_script", "_law_draws_here", "_law_pool_here", "_law_threads_here", "_law_rows", "_law_held", "_law_k", "_law_told", "_law_kept"]
theorem sc_law : FnScope N_law ["_law_script"] (defScope s_law) := ⟨rfl, rfl, rfl, by decide +kernel, rfl, by decide +kernel, by decide +kernel⟩
theorem ok_law (T : Txt G mg) : FnG P w G.K mg base CX0 6 T.a_law T.fd_law ["_law_script"] (sp_law G) := by
  have nd := sc_law.nd
  refine Fun.okG T.F_law sc_law (fun vs H Q E h => ?_) (fun cdv A outer s H vs Q E hgd hr h => ?_)
  · obtain ⟨a_v_law_script, v_law_script, F, rfl, _⟩ := h; rfl
  · obtain ⟨a_v_law_script, v_law_script, F, rfl, him_v_law_script, hS, hm⟩ := h
    obtain ⟨ad_v_law_script, rfl, _⟩ := im_script him_v_law_script
    have hS := hS.addIm him_v_law_script
    refine ⟨_, (pss_cons (ps_set (i := 1) nd rfl (Or.inl rfl) (pe_fz (pe_call (ok_law_draws T) (hr.mono (by decide)) rfl T.g_law_draws T.kp_law_draws T.b_law_draws .nil pass0 (pa_cons (pv 0) (pa_cons pe_int pa_nil)))))
      (pss_cons (ps_set (i := 2) nd rfl (Or.inl rfl) (pe_fz (pe_call (ok_law_pool T) (hr.mono (by decide)) rfl T.g_law_pool T.kp_law_pool T.b_law_pool .nil pass0 (pa_cons (pe_fz (pv 1)) pa_nil))))
      (pss_cons (ps_set (i := 3) nd rfl (Or.inl rfl) (pe_make0 T.k_Threads (ok_Threads___init__ T) (hr.mono (by decide)) rfl T.g_Threads T.b_Threads___init__ .nil pass0))
      (pss_cons (ps_set (i := 4) nd rfl (Or.inl rfl) (pe_fz (pe_lst pa_nil)))
      (pss_cons (ps_set (i := 5) nd rfl (Or.inl rfl) (pe_fz (pe_lst pa_nil)))
      (pss_cons (ps_for PassesOwn.never rfl (pi_range1 rfl T.z_range (pa_cons (pe_op op_add pe_int (pe_op op_mod (pe_ix (ix_listK G.K) (pe_fz (pv 1)) pe_int (fun _ _ => rfl)) pe_int)) pa_nil)) (pg_name (i := 6) nd rfl (Or.inl rfl)) (pss_cons (ps_if (pt_not (pt_val (pe_call (ok_law_done T) (hr.mono (by decide)) rfl T.g_law_done T.kp_law_done T.b_law_done .nil pass0 (pa_cons (pv 3) (pa_cons (pe_fz (pv 4)) (pa_cons (pe_fz (pv 2)) (pa_cons (pe_fz (pe_slice (sl_listK G.K) (pe_fz (pv 1)) (po_some (pe_op op_add pe_int (pe_op op_mul pe_int (pv 6)))) (po_some (pe_op op_add pe_int (pe_op op_mul pe_int (pv 6)))))) pa_nil))))))) (pss_one (ps_ret pe_bl)) pss_nil)
      (pss_one (ps_if (pt_not (pt_val (pe_callGd (ok_law_stands T) hgd (hr.mono (by decide)) rfl T.g_law_stands T.kp_law_stands T.b_law_stands .nil pass0 (pa_cons (pv 3) (pa_cons (pe_fz (pv 4)) (pa_cons (pe_ix (ix_listK G.K) (pe_fz (pv 1)) (pe_op op_add pe_int (pe_op op_mul pe_int (pv 6))) (fun _ _ => rfl)) (pa_cons (pe_fz (pv 5)) pa_nil))))))) (pss_one (ps_ret pe_bl)) pss_nil))))
      (pss_one (ps_ret (pe_callB (allK G.K rfl) (by rfl) T.z_all (by decide +kernel) (pa_cons (pe_fz (pe_lc (own := [("_law_told", 7), ("_law_kept", 8)]) rfl nd (pi_listK G.K (pe_fz (pv 5))) (blkOk_by (own := [("_law_told", 7), ("_law_kept", 8)]) (N := N_law) (sc := defScope s_law) (by decide +kernel)) (fun _ _ _ _ _ => (pg_tupK (n := 2) G.K rfl rfl (pgs_cons (pg_name (i := 7) nd rfl (Or.inl rfl)) (pgs_cons (pg_name (i := 8) nd rfl (Or.inl rfl)) pgs_nil)))) (fun _ _ _ _ _ => pts_nil) (fun _ _ _ _ _ => (pe_cmpR op_eq (pe_callB (call_reprD G.K hgd hr.units) (by rfl) T.z_repr (by decide +kernel) (pa_cons (pe_fz (pv 7)) pa_nil)) (pv 8) (nomark _))))) pa_nil)))))))))), ?_⟩
    unfold m_law at hm
    refine f_seq ?_
    refine c_asg ?_
    refine c_fz ?_
    refine c_call ?_
    refine ea_to (ea_cons (ev_var rfl) (ea_cons ev_c ea_nil)) ?_
    refine ⟨_, v_law_script, 60, star [imA (.ref ad_v_law_script) v_law_script, F], rfl, (hS.im (i := 0) rfl), Sep.unstar (M := []) (hS.sel [0, 1] (by decide) rfl : Sep H (([] ++ [imA (.ref ad_v_law_script) v_law_script, F] : List (Asn G)))), R.wp_mono (R.wp_bind hm) (fun r1 hm p2 H hS => ?_) (fun _ z => z)⟩
    have hS : Sep H ([lstA p2 (r1 : (List Int)), imA (.ref ad_v_law_script) v_law_script, F] : List (Asn G)) := Sep.star (M := [lstA p2 (r1 : (List Int))]) hS
    refine fz_no ?_
    refine c_set (σ' := [some (.ref ad_v_law_script), some (.ref p2), none, none, none, none, none, none, none]) rfl ?_
    refine sq_nx ?_
    refine f_seq ?_
    refine c_asg ?_
    refine c_fz ?_
    refine c_call ?_
    refine ea_to (ea_cons (ev_fz (ev_var rfl)) ea_nil) ?_
    refine ⟨p2, (r1 : (List Int)), star [imA (.ref ad_v_law_script) v_law_script, F], rfl, Sep.unstar (M := [lstA p2 (r1 : (List Int))]) (hS.sel [0, 1, 2] (by decide) rfl : Sep H (([lstA p2 (r1 : (List Int))] ++ [imA (.ref ad_v_law_script) v_law_script, F] : List (Asn G)))), R.wp_mono (R.wp_bind hm) (fun r3 hm p4 H hS => ?_) (fun _ z => z)⟩
    have hS : Sep H ([lstA p4 (r3 : (List Str)), lstA p2 (r1 : (List Int)), imA (.ref ad_v_law_script) v_law_script, F] : List (Asn G)) := Sep.star (M := [lstA p4 (r3 : (List Str)), lstA p2 (r1 : (List Int))]) hS
    refine fz_no ?_
    refine c_set (σ' := [some (.ref ad_v_law_script), some (.ref p2), some (.ref p4), none, none, none, none, none, none]) rfl ?_
    refine sq_nx ?_
    refine f_seq ?_
    refine c_asg ?_
    refine c_make ?_
    refine ea_to ea_nil ?_
    intro p5 d6 np nd ne
    have hS := hS.newI (C := G.cl 2) np nd ne (by rw [T.fz_Threads]; decide)
    refine ⟨p5, d6, star [lstA p4 (r3 : (List Str)), lstA p2 (r1 : (List Int)), imA (.ref ad_v_law_script) v_law_script, F], rfl, Sep.unstar (M := [cell p5 (.ins (G.cl 2) d6 [])]) (hS.sel [0, 1, 2, 3, 4] (by decide) rfl : Sep _ (([cell p5 (.ins (G.cl 2) d6 [])] ++ [lstA p4 (r3 : (List Str)), lstA p2 (r1 : (List Int)), imA (.ref ad_v_law_script) v_law_script, F] : List (Asn G)))), R.wp_mono (R.wp_bind hm) (fun r7 hm H hS => ⟨rfl, ?_⟩) (fun _ z => z)⟩
    have hS : Sep H ([ThreadsA p5 r7, lstA p4 (r3 : (List Str)), lstA p2 (r1 : (List Int)), imA (.ref ad_v_law_script) v_law_script, F] : List (Asn G)) := Sep.star (M := [ThreadsA p5 r7]) hS
    refine c_set (σ' := [some (.ref ad_v_law_script), some (.ref p2), some (.ref p4), some (.ref p5), none, none, none, none, none]) rfl ?_
    refine sq_nx ?_
    refine f_seq ?_
    refine c_asg ?_
    refine c_fz ?_
    refine c_lst ?_
    refine ea_to ea_nil ?_
    refine k_lst (α := (Str × Str)) (vs := []) (xs := ([] : (List (Str × Str)))) hS True.intro (by show 0 ≤ sizeLine; decide) fun p8 H hS => ?_
    refine fz_no ?_
    refine c_set (σ' := [some (.ref ad_v_law_script), some (.ref p2), some (.ref p4), some (.ref p5), some (.ref p8), none, none, none, none]) rfl ?_
    refine sq_nx ?_
    refine f_seq ?_
    refine c_asg ?_
    refine c_fz ?_
    refine c_lst ?_
    refine ea_to ea_nil ?_
    refine k_lstC (vs := []) hS (Nat.zero_le _) fun p9 H hS => ?_
    have hS : Sep H ([listE (otfE lstA) p9 (([] : (List ((List Any) × Str))) : (List ((List Any) × Str))), lstA p8 (([] : (List (Str × Str))) : (List (Str × Str))), ThreadsA p5 r7, lstA p4 (r3 : (List Str)), lstA p2 (r1 : (List Int)), imA (.ref ad_v_law_script) v_law_script, F] : List (Asn G)) := listE_nil hS
    refine fz_no ?_
    refine c_set (σ' := [some (.ref ad_v_law_script), some (.ref p2), some (.ref p4), some (.ref p5), some (.ref p8), some (.ref p9), none, none, none]) rfl ?_
    refine sq_nx ?_
    refine f_seq ?_
    refine c_for ?_
    refine c_rng1 ?_
    obtain ⟨x10, hx10, hm⟩ := wp_idx hm
    refine ea_to (ea_cons (ev_add ev_c (ev_mod (ev_ixSq (ev_fz (ev_var rfl)) ev_c (hS.sqF (i := 4) rfl) (atI_map hx10)) ev_c (by decide))) ea_nil) ?_
    obtain ⟨h11, hm⟩ := R.wp_need hm
    refine k_rng1 h11.1 h11.2 ?_
    refine k_forF (τ := Threads × (List (Str × Str)) × (List ((List Any) × Str))) (fun (s12 : Threads × (List (Str × Str)) × (List ((List Any) × Str))) (σ : L2.St) (H : Hp) => ∃ (w15 : Option V), σ = [some (.ref ad_v_law_script), some (.ref p2), some (.ref p4), some (.ref p5), some (.ref p8), some (.ref p9), w15, none, none] ∧ Sep H ([listE (otfE lstA) p9 (s12.2.2 : (List ((List Any) × Str))), lstA p8 (s12.2.1 : (List (Str × Str))), ThreadsA p5 s12.1, lstA p4 (r3 : (List Str)), lstA p2 (r1 : (List Int)), imA (.ref ad_v_law_script) v_law_script, F] : List (Asn G))) (im := (fun _ v (x : Int) => v = .int x)) (s := (r7, ([] : (List (Str × Str))), ([] : (List ((List Any) × Str))))) (fun _ => wk_range) ⟨_, rfl, hS.sel [0, 1, 2, 3, 4, 5, 6] (by decide) rfl⟩ hm (fun s12 x13 v14 σ H q N B hI hx hm nx bk ho16 => ?_) (fun s12 σ H hm hI => ?_)
    ·
      obtain ⟨w15, rfl, hS⟩ := hI
      cases hx
      refine c_gN (σ' := [some (.ref ad_v_law_script), some (.ref p2), some (.ref p4), some (.ref p5), some (.ref p8), some (.ref p9), some (.int (x13)), none, none]) rfl ?_
      refine f_seq ?_
      refine f_if ?_
      refine f_not ?_
      refine f_B ?_
      refine c_call ?_
      refine c_cons ?_
      refine ev_to (ev_var rfl) ?_
      refine c_cons ?_
      refine ev_to (ev_fz (ev_var rfl)) ?_
      refine c_cons ?_
      refine ev_to (ev_fz (ev_var rfl)) ?_
      refine c_cons ?_
      refine c_fz ?_
      refine c_sl ?_
      refine ev_to (ev_fz (ev_var rfl)) ?_
      refine eo_to (eo_some (ev_add ev_c (ev_mul ev_c (ev_var rfl) (.inl (by constructor <;> decide))))) ?_
      refine eo_to (eo_some (ev_add ev_c (ev_mul ev_c (ev_var rfl) (.inl (by constructor <;> decide))))) ?_
      refine k_slG hS (hS.sq (i := 4) rfl) fun p17 H hS => ?_
      refine fz_no ?_
      refine c_nil ?_
      refine ⟨p5, (s12.1 : Threads), p8, (s12.2.1 : (List (Str × Str))), p4, (r3 : (List Str)), p17, (cutL r1 (some (4 + (3 * x13))) (some (6 + (3 * x13))) : (List Int)), star [listE (otfE lstA) p9 (s12.2.2 : (List ((List Any) × Str))), lstA p2 (r1 : (List Int)), imA (.ref ad_v_law_script) v_law_script, F], rfl, Sep.unstar (M := [ThreadsA p5 s12.1, lstA p8 (s12.2.1 : (List (Str × Str))), lstA p4 (r3 : (List Str)), lstA p17 (cutL r1 (some (4 + (3 * x13))) (some (6 + (3 * x13))) : (List Int))]) (hS.sel [3, 2, 4, 0, 1, 5, 6, 7] (by decide) rfl : Sep H (([ThreadsA p5 s12.1, lstA p8 (s12.2.1 : (List (Str × Str))), lstA p4 (r3 : (List Str)), lstA p17 (cutL r1 (some (4 + (3 * x13))) (some (6 + (3 * x13))) : (List Int))] ++ [listE (otfE lstA) p9 (s12.2.2 : (List ((List Any) × Str))), lstA p2 (r1 : (List Int)), imA (.ref ad_v_law_script) v_law_script, F] : List (Asn G)))), R.wp_mono (R.wp_bind hm) (fun r18 hm H hS => ?_) (fun _ z => z)⟩
      have hS : Sep H ([ThreadsA p5 r18.2.1, lstA p8 (r18.2.2 : (List (Str × Str))), lstA p4 (r3 : (List Str)), lstA p17 (cutL r1 (some (4 + (3 * x13))) (some (6 + (3 * x13))) : (List Int)), listE (otfE lstA) p9 (s12.2.2 : (List ((List Any) × Str))), lstA p2 (r1 : (List Int)), imA (.ref ad_v_law_script) v_law_script, F] : List (Asn G)) := Sep.star (M := [ThreadsA p5 r18.2.1, lstA p8 (r18.2.2 : (List (Str × Str))), lstA p4 (r3 : (List Str)), lstA p17 (cutL r1 (some (4 + (3 * x13))) (some (6 + (3 * x13))) : (List Int))]) hS
      refine f_bl ?_
      refine f_nK ?_
      refine ifK_2 (fun hb19 => ?_) (fun hb19 => ?_)
      · have hm := R.wp_ifY hm hb19
        refine c_ret ?_
        refine ev_to ev_c ?_
        exact (ho16 _ hm) _ (hS.sel [7] (by decide) rfl)
      · have hm := R.wp_ifN hm (by first | (rw [hb19]; decide) | simpa using hb19)
        refine st_nx ?_
        refine sq_nx ?_
        refine f_if ?_
        refine f_not ?_
        refine f_B ?_
        refine c_call ?_
        obtain ⟨x20, hx20, hm⟩ := wp_idx hm
        refine ea_to (ea_cons (ev_var rfl) (ea_cons (ev_fz (ev_var rfl)) (ea_cons (ev_ixSq (ev_fz (ev_var rfl)) (ev_add ev_c (ev_mul ev_c (ev_var rfl) (.inl (by constructor <;> decide)))) (hS.sqF (i := 5) rfl) (atI_map hx20)) (ea_cons (ev_fz (ev_var rfl)) ea_nil)))) ?_
        refine ⟨p5, (r18.2.1 : Threads), p8, (r18.2.2 : (List (Str × Str))), x20, p9, (s12.2.2 : (List ((List Any) × Str))), star [lstA p4 (r3 : (List Str)), lstA p17 (cutL r1 (some (4 + (3 * x13))) (some (6 + (3 * x13))) : (List Int)), lstA p2 (r1 : (List Int)), imA (.ref ad_v_law_script) v_law_script, F], rfl, Sep.unstar (M := [ThreadsA p5 r18.2.1, lstA p8 (r18.2.2 : (List (Str × Str))), listE (otfE lstA) p9 (s12.2.2 : (List ((List Any) × Str)))]) (hS.sel [0, 1, 4, 2, 3, 5, 6, 7] (by decide) rfl : Sep H (([ThreadsA p5 r18.2.1, lstA p8 (r18.2.2 : (List (Str × Str))), listE (otfE lstA) p9 (s12.2.2 : (List ((List Any) × Str)))] ++ [lstA p4 (r3 : (List Str)), lstA p17 (cutL r1 (some (4 + (3 * x13))) (some (6 + (3 * x13))) : (List Int)), lstA p2 (r1 : (List Int)), imA (.ref ad_v_law_script) v_law_script, F] : List (Asn G)))), R.wp_mono (R.wp_bind hm) (fun r21 hm H hS => ?_) (fun _ z => z)⟩
        have hS : Sep H ([ThreadsA p5 r18.2.1, lstA p8 (r18.2.2 : (List (Str × Str))), listE (otfE lstA) p9 (r21.2 : (List ((List Any) × Str))), lstA p4 (r3 : (List Str)), lstA p17 (cutL r1 (some (4 + (3 * x13))) (some (6 + (3 * x13))) : (List Int)), lstA p2 (r1 : (List Int)), imA (.ref ad_v_law_script) v_law_script, F] : List (Asn G)) := Sep.star (M := [ThreadsA p5 r18.2.1, lstA p8 (r18.2.2 : (List (Str × Str))), listE (otfE lstA) p9 (r21.2 : (List ((List Any) × Str)))]) hS
        refine f_bl ?_
        refine f_nK ?_
        refine ifK_2 (fun hb22 => ?_) (fun hb22 => ?_)
        · have hm := R.wp_ifY hm hb22
          refine c_ret ?_
          refine ev_to ev_c ?_
          exact (ho16 _ hm) _ (hS.sel [7] (by decide) rfl)
        · have hm := R.wp_ifN hm (by first | (rw [hb22]; decide) | simpa using hb22)
          refine st_nx ?_
          exact nx _ _ _ hm ⟨_, rfl, hS.sel [2, 1, 0, 3, 5, 6, 7] (by decide) rfl⟩
    · obtain ⟨w15, rfl, hS⟩ := hI
      refine sq_nx ?_
      refine c_ret ?_
      refine c_cb ?_
      refine c_cons ?_
      refine c_fz ?_
      refine c_lc ?_
      refine c_il ?_
      refine ev_to (ev_fz (ev_var rfl)) ?_
      refine k_ilE hS (i := 0) rfl ?_
      obtain ⟨h23, hm⟩ := R.wp_need hm
      refine lc_sepG (β := Bool) (fun (_ : Unit) => ([listE (otfE lstA) p9 (s12.2.2 : (List ((List Any) × Str))), lstA p8 (s12.2.1 : (List (Str × Str))), ThreadsA p5 s12.1, lstA p4 (r3 : (List Str)), lstA p2 (r1 : (List Int)), imA (.ref ad_v_law_script) v_law_script, F] : List (Asn G))) (s := ()) (im := (imIt p9 s12.2.2)) hS (fun _ _ _ => wk_listE fun _ _ h => frontE h (i := 1) rfl) h23 hm (fun p24 _ ys27 x25 v26 H q Nx hS hx hm kS kN => ?_) (fun p24 t H hm hS => ?_)
      ·
        obtain ⟨j28, ps29, p30, hl31, hp32, hx25, rfl, hS⟩ := focusI (hS.sel [1, 0, 2, 3, 4, 5, 6, 7] (by decide) rfl : Sep H (listE (otfE lstA) p9 (s12.2.2 : (List ((List Any) × Str))) :: [lstA p24 (ys27 : List Bool), lstA p8 (s12.2.1 : (List (Str × Str))), ThreadsA p5 s12.1, lstA p4 (r3 : (List Str)), lstA p2 (r1 : (List Int)), imA (.ref ad_v_law_script) v_law_script, F] : List (Asn G))) hx
        have hS : Sep H ([(otfE lstA) p30 (x25 : ((List Any) × Str)), listH (otfE lstA) p9 ps29 (s12.2.2 : (List ((List Any) × Str))) j28, lstA p24 (ys27 : List Bool), lstA p8 (s12.2.1 : (List (Str × Str))), ThreadsA p5 s12.1, lstA p4 (r3 : (List Str)), lstA p2 (r1 : (List Int)), imA (.ref ad_v_law_script) v_law_script, F] : List (Asn G)) := hS
        obtain ⟨q34, v33, hS⟩ := otf_open (hS.sel [0, 1, 2, 3, 4, 5, 6, 7, 8] (by decide) rfl : Sep _ ((otfE lstA) p30 (x25 : ((List Any) × Str)) :: [listH (otfE lstA) p9 ps29 (s12.2.2 : (List ((List Any) × Str))) j28, lstA p24 (ys27 : List Bool), lstA p8 (s12.2.1 : (List (Str × Str))), ThreadsA p5 s12.1, lstA p4 (r3 : (List Str)), lstA p2 (r1 : (List Int)), imA (.ref ad_v_law_script) v_law_script, F] : List (Asn G)))
        obtain rfl : v33 = (.str (x25.2)) := hS.im (i := 2) rfl
        have hS : Sep _ ([imA (.ref p30) (⟨[.ref q34, (.str (x25.2))]⟩ : TupV), lstA q34 (x25.1 : (List Any)), imA (.str (x25.2)) (x25.2 : Str), listH (otfE lstA) p9 ps29 (s12.2.2 : (List ((List Any) × Str))) j28, lstA p24 (ys27 : List Bool), lstA p8 (s12.2.1 : (List (Str × Str))), ThreadsA p5 s12.1, lstA p4 (r3 : (List Str)), lstA p2 (r1 : (List Int)), imA (.ref ad_v_law_script) v_law_script, F] : List (Asn G)) := hS
        refine k_gT (tupV_at (hS.im (i := 0) rfl)) rfl ?_
        refine k_gC (σ' := [some (.ref ad_v_law_script), some (.ref p2), some (.ref p4), some (.ref p5), some (.ref p8), some (.ref p9), w15, some (.ref q34), none]) rfl ?_
        refine k_gC (σ' := [some (.ref ad_v_law_script), some (.ref p2), some (.ref p4), some (.ref p5), some (.ref p8), some (.ref p9), w15, some (.ref q34), some (.str (x25.2))]) rfl ?_
        refine k_gE ?_
        refine c_gLT (σ' := [some (.ref ad_v_law_script), some (.ref p2), some (.ref p4), some (.ref p5), some (.ref p8), some (.ref p9), w15, some (.ref q34), some (.str (x25.2))]) rfl ?_
        refine c_yes ?_
        obtain ⟨s36, hs36, hm⟩ := wp_reprA hm
        refine ev_to (ev_eqS (ev_cb (ea_cons (ev_fz (ev_var rfl)) ea_nil) fun _ q => r_reprA hS (i := 1) rfl hs36 q) (ev_var rfl)) ?_
        have hS : Sep _ ([(otfE lstA) p30 (x25 : ((List Any) × Str)), listH (otfE lstA) p9 ps29 (s12.2.2 : (List ((List Any) × Str))) j28, lstA p24 (ys27 : List Bool), lstA p8 (s12.2.1 : (List (Str × Str))), ThreadsA p5 s12.1, lstA p4 (r3 : (List Str)), lstA p2 (r1 : (List Int)), imA (.ref ad_v_law_script) v_law_script, F] : List (Asn G)) := otf_pack (hS.sel [0, 1, 2, 3, 4, 5, 6, 7, 8, 9, 10] (by decide) rfl)
        have hS : Sep H ([listE (otfE lstA) p9 (s12.2.2 : (List ((List Any) × Str))), lstA p24 (ys27 : List Bool), lstA p8 (s12.2.1 : (List (Str × Str))), ThreadsA p5 s12.1, lstA p4 (r3 : (List Str)), lstA p2 (r1 : (List Int)), imA (.ref ad_v_law_script) v_law_script, F] : List (Asn G)) := unfocus0 hl31 hp32 hx25 (hS.sel [0, 1, 2, 3, 4, 5, 6, 7, 8] (by decide) rfl)
        exact kS () _ _ _ hm rfl (hS.sel [1, 0, 2, 3, 4, 5, 6, 7] (by decide) rfl)
      · revert hm hS; generalize t = t37; intro hm hS
        refine fz_no ?_
        refine c_nil ?_
        refine ⟨_, _, rfl, (hS.sqF (i := 0) rfl), ?_⟩
        exact hm _ (hS.sel [7] (by decide) rfl)
end
end Lw
namespace Lw
open PySem PySem.Spec PyProof.Rows L2 Ml
def sp_top (K : PySem.W.Frag) : Sp := fun vs H Q E => ∃ (a : Addr) (ns : List Int), vs = [.ref a] ∧ SqL K H a (ns.map V.int) ∧ Only H ∧ ns.length ≤ 63 ∧ ∀ H', Q (.bl true) H'
theorem all_mk {l : PySem.W.OpenLaw} {w : World} {K : PySem.W.Frag} {h : Heap} {mg : Str → Option Value} {fa : Addr} (X : K.In h) (H : h.Ns mainGlobals mg) (hfa : mg "law" = some (.ref fa))
    {c0 : Addr}
    {c1 : Addr}
    {c2 : Addr}
    {f0 : Addr} {od0 an0 : Option Addr} {sl0 : Array (Option Value)} {oc0 kV0 dc0 pm0 cd0 ct0 : Value}
    {f1 : Addr} {od1 an1 : Option Addr} {sl1 : Array (Option Value)} {oc1 kV1 dc1 pm1 cd1 ct1 : Value}
    {f2 : Addr} {od2 an2 : Option Addr} {sl2 : Array (Option Value)} {oc2 kV2 dc2 pm2 cd2 ct2 : Value}
    {f3 : Addr} {od3 an3 : Option Addr} {sl3 : Array (Option Value)} {oc3 kV3 dc3 pm3 cd3 ct3 : Value}
    {f4 : Addr} {od4 an4 : Option Addr} {sl4 : Array (Option Value)} {oc4 kV4 dc4 pm4 cd4 ct4 : Value}
    {f5 : Addr} {fd5 : FuncData}
    {f6 : Addr} {od6 an6 : Option Addr} {sl6 : Array (Option Value)} {oc6 kV6 dc6 pm6 cd6 ct6 : Value}
    {f7 : Addr} {od7 an7 : Option Addr} {sl7 : Array (Option Value)} {oc7 kV7 dc7 pm7 cd7 ct7 : Value}
    {f8 : Addr} {od8 an8 : Option Addr} {sl8 : Array (Option Value)} {oc8 kV8 dc8 pm8 cd8 ct8 : Value}
    {f9 : Addr} {od9 an9 : Option Addr} {sl9 : Array (Option Value)} {oc9 kV9 dc9 pm9 cd9 ct9 : Value}
    {f10 : Addr} {od10 an10 : Option Addr} {sl10 : Array (Option Value)} {oc10 kV10 dc10 pm10 cd10 ct10 : Value}
    {f11 : Addr} {od11 an11 : Option Addr} {sl11 : Array (Option Value)} {oc11 kV11 dc11 pm11 cd11 ct11 : Value}
    {f12 : Addr} {od12 an12 : Option Addr} {sl12 : Array (Option Value)} {oc12 kV12 dc12 pm12 cd12 ct12 : Value}
    {f13 : Addr} {od13 an13 : Option Addr} {sl13 : Array (Option Value)} {oc13 kV13 dc13 pm13 cd13 ct13 : Value}
    {f14 : Addr} {od14 an14 : Option Addr} {sl14 : Array (Option Value)} {oc14 kV14 dc14 pm14 cd14 ct14 : Value}
    {f15 : Addr} {od15 an15 : Option Addr} {sl15 : Array (Option Value)} {oc15 kV15 dc15 pm15 cd15 ct15 : Value}
    {f16 : Addr} {od16 an16 : Option Addr} {sl16 : Array (Option Value)} {oc16 kV16 dc16 pm16 cd16 ct16 : Value}
    {f17 : Addr} {od17 an17 : Option Addr} {sl17 : Array (Option Value)} {oc17 kV17 dc17 pm17 cd17 ct17 : Value}
    {f18 : Addr} {od18 an18 : Option Addr} {sl18 : Array (Option Value)} {oc18 kV18 dc18 pm18 cd18 ct18 : Value}
    {f19 : Addr} {od19 an19 : Option Addr} {sl19 : Array (Option Value)} {oc19 kV19 dc19 pm19 cd19 ct19 : Value}
    {f20 : Addr} {od20 an20 : Option Addr} {sl20 : Array (Option Value)} {oc20 kV20 dc20 pm20 cd20 ct20 : Value}
    {f21 : Addr} {od21 an21 : Option Addr} {sl21 : Array (Option Value)} {oc21 kV21 dc21 pm21 cd21 ct21 : Value}
    (ac0 : PySem.W.nsIn K mainGlobals "MailError" = some (some (.ref c0)))
    (ac1 : PySem.W.nsIn K mainGlobals "NoName" = some (some (.ref c1)))
    (ac2 : PySem.W.nsIn K mainGlobals "Threads" = some (some (.ref c2)))
    (a0_2 : PySem.W.findIn K (.ref c2) "__init__" = some (some (.ref f0)))
    (i0 : PySem.W.isFn K (.ref f0) = true)
    (l0 : K.lookup f0 = some ⟨oc0, od0, .func (PySem.W.fnOf "__init__" "Threads.__init__" (defArgs s_Threads___init__) (defBody s_Threads___init__) (defScope s_Threads___init__) .none kV0 dc0 pm0 an0 cd0 ct0), sl0⟩)
    (cc0 : PySem.W.codeIn K cd0 "Threads.__init__" = true)
    (k0 : PySem.W.keepIn K (.ref f0) = true)
    (mk2 : PySem.W.makesIn K c2 = true)
    (kc2 : PySem.W.keepIn K (.ref c2) = true)
    (a1_2 : PySem.W.findIn K (.ref c2) "pile" = some (some (.ref f1)))
    (i1 : PySem.W.isFn K (.ref f1) = true)
    (l1 : K.lookup f1 = some ⟨oc1, od1, .func (PySem.W.fnOf "pile" "Threads.pile" (defArgs s_Threads_pile) (defBody s_Threads_pile) (defScope s_Threads_pile) .none kV1 dc1 pm1 an1 cd1 ct1), sl1⟩)
    (cc1 : PySem.W.codeIn K cd1 "Threads.pile" = true)
    (k1 : PySem.W.keepIn K (.ref f1) = true)
    (a2_2 : PySem.W.findIn K (.ref c2) "put_together" = some (some (.ref f2)))
    (i2 : PySem.W.isFn K (.ref f2) = true)
    (l2 : K.lookup f2 = some ⟨oc2, od2, .func (PySem.W.fnOf "put_together" "Threads.put_together" (defArgs s_Threads_put_together) (defBody s_Threads_put_together) (defScope s_Threads_put_together) .none kV2 dc2 pm2 an2 cd2 ct2), sl2⟩)
    (cc2 : PySem.W.codeIn K cd2 "Threads.put_together" = true)
    (k2 : PySem.W.keepIn K (.ref f2) = true)
    (a3_2 : PySem.W.findIn K (.ref c2) "hang" = some (some (.ref f3)))
    (i3 : PySem.W.isFn K (.ref f3) = true)
    (l3 : K.lookup f3 = some ⟨oc3, od3, .func (PySem.W.fnOf "hang" "Threads.hang" (defArgs s_Threads_hang) (defBody s_Threads_hang) (defScope s_Threads_hang) .none kV3 dc3 pm3 an3 cd3 ct3), sl3⟩)
    (cc3 : PySem.W.codeIn K cd3 "Threads.hang" = true)
    (k3 : PySem.W.keepIn K (.ref f3) = true)
    (a4_2 : PySem.W.findIn K (.ref c2) "sure" = some (some (.ref f4)))
    (i4 : PySem.W.isFn K (.ref f4) = true)
    (l4 : K.lookup f4 = some ⟨oc4, od4, .func (PySem.W.fnOf "sure" "Threads.sure" (defArgs s_Threads_sure) (defBody s_Threads_sure) (defScope s_Threads_sure) .none kV4 dc4 pm4 an4 cd4 ct4), sl4⟩)
    (cc4 : PySem.W.codeIn K cd4 "Threads.sure" = true)
    (k4 : PySem.W.keepIn K (.ref f4) = true)
    (a5_2 : PySem.W.findIn K (.ref c2) "add" = some (some (.ref f5)))
    (i5 : PySem.W.isFn K (.ref f5) = true)
    (F5 : FunD K "add" "Threads.add" (defArgs s_Threads_add) (defBody s_Threads_add) (defScope s_Threads_add) [.str ("" : Str)] [] f5 fd5)
    (a6_2 : PySem.W.findIn K (.ref c2) "take_out" = some (some (.ref f6)))
    (i6 : PySem.W.isFn K (.ref f6) = true)
    (l6 : K.lookup f6 = some ⟨oc6, od6, .func (PySem.W.fnOf "take_out" "Threads.take_out" (defArgs s_Threads_take_out) (defBody s_Threads_take_out) (defScope s_Threads_take_out) .none kV6 dc6 pm6 an6 cd6 ct6), sl6⟩)
    (cc6 : PySem.W.codeIn K cd6 "Threads.take_out" = true)
    (k6 : PySem.W.keepIn K (.ref f6) = true)
    (a7_2 : PySem.W.findIn K (.ref c2) "names" = some (some (.ref f7)))
    (i7 : PySem.W.isFn K (.ref f7) = true)
    (l7 : K.lookup f7 = some ⟨oc7, od7, .func (PySem.W.fnOf "names" "Threads.names" (defArgs s_Threads_names) (defBody s_Threads_names) (defScope s_Threads_names) .none kV7 dc7 pm7 an7 cd7 ct7), sl7⟩)
    (cc7 : PySem.W.codeIn K cd7 "Threads.names" = true)
    (k7 : PySem.W.keepIn K (.ref f7) = true)
    (a8_2 : PySem.W.findIn K (.ref c2) "thread" = some (some (.ref f8)))
    (i8 : PySem.W.isFn K (.ref f8) = true)
    (l8 : K.lookup f8 = some ⟨oc8, od8, .func (PySem.W.fnOf "thread" "Threads.thread" (defArgs s_Threads_thread) (defBody s_Threads_thread) (defScope s_Threads_thread) .none kV8 dc8 pm8 an8 cd8 ct8), sl8⟩)
    (cc8 : PySem.W.codeIn K cd8 "Threads.thread" = true)
    (k8 : PySem.W.keepIn K (.ref f8) = true)
    (a9_2 : PySem.W.findIn K (.ref c2) "threads" = some (some (.ref f9)))
    (i9 : PySem.W.isFn K (.ref f9) = true)
    (l9 : K.lookup f9 = some ⟨oc9, od9, .func (PySem.W.fnOf "threads" "Threads.threads" (defArgs s_Threads_threads) (defBody s_Threads_threads) (defScope s_Threads_threads) .none kV9 dc9 pm9 an9 cd9 ct9), sl9⟩)
    (cc9 : PySem.W.codeIn K cd9 "Threads.threads" = true)
    (k9 : PySem.W.keepIn K (.ref f9) = true)
    (a10 : PySem.W.nsIn K mainGlobals "_law_draws" = some (some (.ref f10)))
    (l10 : K.lookup f10 = some ⟨oc10, od10, .func (PySem.W.fnOf "_law_draws" "_law_draws" (defArgs s_law_draws) (defBody s_law_draws) (defScope s_law_draws) .none kV10 dc10 pm10 an10 cd10 ct10), sl10⟩)
    (cc10 : PySem.W.codeIn K cd10 "_law_draws" = true)
    (k10 : PySem.W.keepIn K (.ref f10) = true)
    (a11 : PySem.W.nsIn K mainGlobals "_law_name_by" = some (some (.ref f11)))
    (l11 : K.lookup f11 = some ⟨oc11, od11, .func (PySem.W.fnOf "_law_name_by" "_law_name_by" (defArgs s_law_name_by) (defBody s_law_name_by) (defScope s_law_name_by) .none kV11 dc11 pm11 an11 cd11 ct11), sl11⟩)
    (cc11 : PySem.W.codeIn K cd11 "_law_name_by" = true)
    (k11 : PySem.W.keepIn K (.ref f11) = true)
    (a12 : PySem.W.nsIn K mainGlobals "_law_pool" = some (some (.ref f12)))
    (l12 : K.lookup f12 = some ⟨oc12, od12, .func (PySem.W.fnOf "_law_pool" "_law_pool" (defArgs s_law_pool) (defBody s_law_pool) (defScope s_law_pool) .none kV12 dc12 pm12 an12 cd12 ct12), sl12⟩)
    (cc12 : PySem.W.codeIn K cd12 "_law_pool" = true)
    (k12 : PySem.W.keepIn K (.ref f12) = true)
    (a13 : PySem.W.nsIn K mainGlobals "_law_hang" = some (some (.ref f13)))
    (l13 : K.lookup f13 = some ⟨oc13, od13, .func (PySem.W.fnOf "_law_hang" "_law_hang" (defArgs s_law_hang) (defBody s_law_hang) (defScope s_law_hang) .none kV13 dc13 pm13 an13 cd13 ct13), sl13⟩)
    (cc13 : PySem.W.codeIn K cd13 "_law_hang" = true)
    (k13 : PySem.W.keepIn K (.ref f13) = true)
    (a14 : PySem.W.nsIn K mainGlobals "_law_thread" = some (some (.ref f14)))
    (l14 : K.lookup f14 = some ⟨oc14, od14, .func (PySem.W.fnOf "_law_thread" "_law_thread" (defArgs s_law_thread) (defBody s_law_thread) (defScope s_law_thread) .none kV14 dc14 pm14 an14 cd14 ct14), sl14⟩)
    (cc14 : PySem.W.codeIn K cd14 "_law_thread" = true)
    (k14 : PySem.W.keepIn K (.ref f14) = true)
    (a15 : PySem.W.nsIn K mainGlobals "_law_threads" = some (some (.ref f15)))
    (l15 : K.lookup f15 = some ⟨oc15, od15, .func (PySem.W.fnOf "_law_threads" "_law_threads" (defArgs s_law_threads) (defBody s_law_threads) (defScope s_law_threads) .none kV15 dc15 pm15 an15 cd15 ct15), sl15⟩)
    (cc15 : PySem.W.codeIn K cd15 "_law_threads" = true)
    (k15 : PySem.W.keepIn K (.ref f15) = true)
    (a16 : PySem.W.nsIn K mainGlobals "_law_is_list" = some (some (.ref f16)))
    (l16 : K.lookup f16 = some ⟨oc16, od16, .func (PySem.W.fnOf "_law_is_list" "_law_is_list" (defArgs s_law_is_list) (defBody s_law_is_list) (defScope s_law_is_list) .none kV16 dc16 pm16 an16 cd16 ct16), sl16⟩)
    (cc16 : PySem.W.codeIn K cd16 "_law_is_list" = true)
    (k16 : PySem.W.keepIn K (.ref f16) = true)
    (a17 : PySem.W.nsIn K mainGlobals "_law_target" = some (some (.ref f17)))
    (l17 : K.lookup f17 = some ⟨oc17, od17, .func (PySem.W.fnOf "_law_target" "_law_target" (defArgs s_law_target) (defBody s_law_target) (defScope s_law_target) .none kV17 dc17 pm17 an17 cd17 ct17), sl17⟩)
    (cc17 : PySem.W.codeIn K cd17 "_law_target" = true)
    (k17 : PySem.W.keepIn K (.ref f17) = true)
    (a18 : PySem.W.nsIn K mainGlobals "_law_done" = some (some (.ref f18)))
    (l18 : K.lookup f18 = some ⟨oc18, od18, .func (PySem.W.fnOf "_law_done" "_law_done" (defArgs s_law_done) (defBody s_law_done) (defScope s_law_done) .none kV18 dc18 pm18 an18 cd18 ct18), sl18⟩)
    (cc18 : PySem.W.codeIn K cd18 "_law_done" = true)
    (k18 : PySem.W.keepIn K (.ref f18) = true)
    (a19 : PySem.W.nsIn K mainGlobals "_law_looked" = some (some (.ref f19)))
    (l19 : K.lookup f19 = some ⟨oc19, od19, .func (PySem.W.fnOf "_law_looked" "_law_looked" (defArgs s_law_looked) (defBody s_law_looked) (defScope s_law_looked) .none kV19 dc19 pm19 an19 cd19 ct19), sl19⟩)
    (cc19 : PySem.W.codeIn K cd19 "_law_looked" = true)
    (k19 : PySem.W.keepIn K (.ref f19) = true)
    (a20 : PySem.W.nsIn K mainGlobals "_law_stands" = some (some (.ref f20)))
    (l20 : K.lookup f20 = some ⟨oc20, od20, .func (PySem.W.fnOf "_law_stands" "_law_stands" (defArgs s_law_stands) (defBody s_law_stands) (defScope s_law_stands) .none kV20 dc20 pm20 an20 cd20 ct20), sl20⟩)
    (cc20 : PySem.W.codeIn K cd20 "_law_stands" = true)
    (k20 : PySem.W.keepIn K (.ref f20) = true)
    (a21 : PySem.W.nsIn K mainGlobals "law" = some (some (.ref f21)))
    (l21 : K.lookup f21 = some ⟨oc21, od21, .func (PySem.W.fnOf "law" "law" (defArgs s_law) (defBody s_law) (defScope s_law) .none kV21 dc21 pm21 an21 cd21 ct21), sl21⟩)
    (cc21 : PySem.W.codeIn K cd21 "law" = true)
    (k21 : PySem.W.keepIn K (.ref f21) = true)
    (xE1 : PySem.W.excIn K c1 [.type "ValueError", .type "Exception", .type "BaseException", .type "object"] "ValueError.__new__" = true)
    (kE1 : PySem.W.keepIn K (.ref c1) = true)
    (bE1 : PySem.W.subIn K (.ref c1) (.type "BaseException") = some true)
    (tE1 : PySem.W.typeIn K (.ref c1) = some (.type "type"))
    (pg2 : PySem.W.plainGet K c2 Str.empty = true)
    (hd2 : PySem.W.hasDictIn K c2 = true)
    (po2 : PySem.W.plainOver K c2 = true)
    (sa2 : PySem.W.findIn K (.ref c2) "__setattr__" = some (some (.builtin "object.__setattr__")))
    (nf2_0 : PySem.W.findIn K (.ref c2) "goes_to" = some none)
    (nf2_1 : PySem.W.findIn K (.ref c2) "pile_of" = some none)
    (nf2_2 : PySem.W.findIn K (.ref c2) "piles" = some none)
    (nf2_3 : PySem.W.findIn K (.ref c2) "comes_from" = some none)
    (nf2_4 : PySem.W.findIn K (.ref c2) "made" = some none)
    (z_all : PySem.W.nsIn K mainGlobals "all" = some none)
    (z_int : PySem.W.nsIn K mainGlobals "int" = some none)
    (z_isinstance : PySem.W.nsIn K mainGlobals "isinstance" = some none)
    (z_len : PySem.W.nsIn K mainGlobals "len" = some none)
    (z_list : PySem.W.nsIn K mainGlobals "list" = some none)
    (z_range : PySem.W.nsIn K mainGlobals "range" = some none)
    (z_repr : PySem.W.nsIn K mainGlobals "repr" = some none)
    (z_sorted : PySem.W.nsIn K mainGlobals "sorted" = some none)
    (z_str : PySem.W.nsIn K mainGlobals "str" = some none)
    : ∃ fd : FuncData, (∀ (s : Shared) (v : Value), BindsTo s fd ⟨[v], []⟩ [("_law_script", v)]) ∧ ∀ base : Heap, K.In base → base.Ns mainGlobals mg → FnG l.prog w K mg base CX0 6 fa fd ["_law_script"] (sp_top K) := by
  have e := hfa.symm.trans (PySem.W.mg_of X H a21)
  cases e
  have F0 := fun_mk (st := s_Threads___init__) l0 cc0 k0
  have b0 := F0.binds (ps := ["self"]) fun _ _ _ _ _ _ us hl => match us, hl with | [_], _ => rfl
  have F1 := fun_mk (st := s_Threads_pile) l1 cc1 k1
  have b1 := F1.binds (ps := ["self", "name"]) fun _ _ _ _ _ _ us hl => match us, hl with | [_, _], _ => rfl
  have F2 := fun_mk (st := s_Threads_put_together) l2 cc2 k2
  have b2 := F2.binds (ps := ["self", "one", "other"]) fun _ _ _ _ _ _ us hl => match us, hl with | [_, _, _], _ => rfl
  have F3 := fun_mk (st := s_Threads_hang) l3 cc3 k3
  have b3 := F3.binds (ps := ["self", "name"]) fun _ _ _ _ _ _ us hl => match us, hl with | [_, _], _ => rfl
  have F4 := fun_mk (st := s_Threads_sure) l4 cc4 k4
  have b4 := F4.binds (ps := ["self", "name"]) fun _ _ _ _ _ _ us hl => match us, hl with | [_, _], _ => rfl
  have k5 := F5.kp
  have b5 : Binds K fd5 ["self", "name", "answers"] [] := by
    obtain ⟨ds, hv, hb⟩ := F5.binds1 (ps := ["self", "name", "answers"]) 3 1 (by simp) rfl (fun _ _ _ _ _ _ _ us its hl hi => match us, its, hl, hi with | [_, _, _], [_], _, _ => ⟨_, rfl, rfl⟩)
    cases hv; exact hb
  obtain ⟨ds5_2, bd5_2⟩ := F5.binds1 (ps := ["self", "name", "answers"]) 2 0 (by simp) rfl (fun _ _ _ _ _ _ _ us its hl hi => match us, its, hl, hi with | [_, _], [_], _, _ => ⟨_, rfl, rfl⟩)
  have F6 := fun_mk (st := s_Threads_take_out) l6 cc6 k6
  have b6 := F6.binds (ps := ["self", "name"]) fun _ _ _ _ _ _ us hl => match us, hl with | [_, _], _ => rfl
  have F7 := fun_mk (st := s_Threads_names) l7 cc7 k7
  have b7 := F7.binds (ps := ["self"]) fun _ _ _ _ _ _ us hl => match us, hl with | [_], _ => rfl
  have F8 := fun_mk (st := s_Threads_thread) l8 cc8 k8
  have b8 := F8.binds (ps := ["self", "name"]) fun _ _ _ _ _ _ us hl => match us, hl with | [_, _], _ => rfl
  have F9 := fun_mk (st := s_Threads_threads) l9 cc9 k9
  have b9 := F9.binds (ps := ["self"]) fun _ _ _ _ _ _ us hl => match us, hl with | [_], _ => rfl
  have F10 := fun_mk (st := s_law_draws) l10 cc10 k10
  have b10 := F10.binds (ps := ["_law_script", "_law_many"]) fun _ _ _ _ _ _ us hl => match us, hl with | [_, _], _ => rfl
  have F11 := fun_mk (st := s_law_name_by) l11 cc11 k11
  have b11 := F11.binds (ps := ["_law_shape", "_law_k"]) fun _ _ _ _ _ _ us hl => match us, hl with | [_, _], _ => rfl
  have F12 := fun_mk (st := s_law_pool) l12 cc12 k12
  have b12 := F12.binds (ps := ["_law_draws_here"]) fun _ _ _ _ _ _ us hl => match us, hl with | [_], _ => rfl
  have F13 := fun_mk (st := s_law_hang) l13 cc13 k13
  have b13 := F13.binds (ps := ["_law_one", "_law_other"]) fun _ _ _ _ _ _ us hl => match us, hl with | [_, _], _ => rfl
  have F14 := fun_mk (st := s_law_thread) l14 cc14 k14
  have b14 := F14.binds (ps := ["_law_rows", "_law_name"]) fun _ _ _ _ _ _ us hl => match us, hl with | [_, _], _ => rfl
  have F15 := fun_mk (st := s_law_threads) l15 cc15 k15
  have b15 := F15.binds (ps := ["_law_rows"]) fun _ _ _ _ _ _ us hl => match us, hl with | [_], _ => rfl
  have F16 := fun_mk (st := s_law_is_list) l16 cc16 k16
  have b16 := F16.binds (ps := ["_law_found", "_law_due"]) fun _ _ _ _ _ _ us hl => match us, hl with | [_, _], _ => rfl
  have F17 := fun_mk (st := s_law_target) l17 cc17 k17
  have b17 := F17.binds (ps := ["_law_pool_here", "_law_name", "_law_draw"]) fun _ _ _ _ _ _ us hl => match us, hl with | [_, _, _], _ => rfl
  have F18 := fun_mk (st := s_law_done) l18 cc18 k18
  have b18 := F18.binds (ps := ["_law_threads_here", "_law_rows", "_law_pool_here", "_law_draws_here"]) fun _ _ _ _ _ _ us hl => match us, hl with | [_, _, _, _], _ => rfl
  have F19 := fun_mk (st := s_law_looked) l19 cc19 k19
  have b19 := F19.binds (ps := ["_law_threads_here", "_law_rows", "_law_look", "_law_name", "_law_held"]) fun _ _ _ _ _ _ us hl => match us, hl with | [_, _, _, _, _], _ => rfl
  have F20 := fun_mk (st := s_law_stands) l20 cc20 k20
  have b20 := F20.binds (ps := ["_law_threads_here", "_law_rows", "_law_draw", "_law_held"]) fun _ _ _ _ _ _ us hl => match us, hl with | [_, _, _, _], _ => rfl
  have F21 := fun_mk (st := s_law) l21 cc21 k21
  have b21 := F21.binds (ps := ["_law_script"]) fun _ _ _ _ _ _ us hl => match us, hl with | [_], _ => rfl
  let G : Gx := ⟨K, fun a => none, fun i => ([c0, c1, c2] : List Addr).getD i 0⟩
  have hfz2 : G.fz (G.cl 2) = none := by show (none) = none; rfl
  let T : Txt G mg := {
    a_Threads___init__ := f0,
    fd_Threads___init__ := _,
    F_Threads___init__ := F0,
    b_Threads___init__ := b0,
    kp_Threads___init__ := k0,
    k_Threads := ⟨mk2, a0_2, i0, kc2⟩,
    a_Threads_pile := f1,
    fd_Threads_pile := _,
    F_Threads_pile := F1,
    b_Threads_pile := b1,
    kp_Threads_pile := k1,
    m_Threads_pile := ⟨a1_2, i1, k1⟩,
    a_Threads_put_together := f2,
    fd_Threads_put_together := _,
    F_Threads_put_together := F2,
    b_Threads_put_together := b2,
    kp_Threads_put_together := k2,
    m_Threads_put_together := ⟨a2_2, i2, k2⟩,
    a_Threads_hang := f3,
    fd_Threads_hang := _,
    F_Threads_hang := F3,
    b_Threads_hang := b3,
    kp_Threads_hang := k3,
    m_Threads_hang := ⟨a3_2, i3, k3⟩,
    a_Threads_sure := f4,
    fd_Threads_sure := _,
    F_Threads_sure := F4,
    b_Threads_sure := b4,
    kp_Threads_sure := k4,
    m_Threads_sure := ⟨a4_2, i4, k4⟩,
    a_Threads_add := f5,
    fd_Threads_add := _,
    F_Threads_add := F5,
    b_Threads_add := b5,
    kp_Threads_add := k5,
    ds_Threads_add_2 := ds5_2,
    bd_Threads_add_2 := bd5_2,
    m_Threads_add := ⟨a5_2, i5, k5⟩,
    a_Threads_take_out := f6,
    fd_Threads_take_out := _,
    F_Threads_take_out := F6,
    b_Threads_take_out := b6,
    kp_Threads_take_out := k6,
    m_Threads_take_out := ⟨a6_2, i6, k6⟩,
    a_Threads_names := f7,
    fd_Threads_names := _,
    F_Threads_names := F7,
    b_Threads_names := b7,
    kp_Threads_names := k7,
    m_Threads_names := ⟨a7_2, i7, k7⟩,
    a_Threads_thread := f8,
    fd_Threads_thread := _,
    F_Threads_thread := F8,
    b_Threads_thread := b8,
    kp_Threads_thread := k8,
    m_Threads_thread := ⟨a8_2, i8, k8⟩,
    a_Threads_threads := f9,
    fd_Threads_threads := _,
    F_Threads_threads := F9,
    b_Threads_threads := b9,
    kp_Threads_threads := k9,
    m_Threads_threads := ⟨a9_2, i9, k9⟩,
    a_law_draws := f10,
    fd_law_draws := _,
    F_law_draws := F10,
    b_law_draws := b10,
    kp_law_draws := k10,
    g_law_draws := PySem.W.mg_of X H a10,
    a_law_name_by := f11,
    fd_law_name_by := _,
    F_law_name_by := F11,
    b_law_name_by := b11,
    kp_law_name_by := k11,
    g_law_name_by := PySem.W.mg_of X H a11,
    a_law_pool := f12,
    fd_law_pool := _,
    F_law_pool := F12,
    b_law_pool := b12,
    kp_law_pool := k12,
    g_law_pool := PySem.W.mg_of X H a12,
    a_law_hang := f13,
    fd_law_hang := _,
    F_law_hang := F13,
    b_law_hang := b13,
    kp_law_hang := k13,
    g_law_hang := PySem.W.mg_of X H a13,
    a_law_thread := f14,
    fd_law_thread := _,
    F_law_thread := F14,
    b_law_thread := b14,
    kp_law_thread := k14,
    g_law_thread := PySem.W.mg_of X H a14,
    a_law_threads := f15,
    fd_law_threads := _,
    F_law_threads := F15,
    b_law_threads := b15,
    kp_law_threads := k15,
    g_law_threads := PySem.W.mg_of X H a15,
    a_law_is_list := f16,
    fd_law_is_list := _,
    F_law_is_list := F16,
    b_law_is_list := b16,
    kp_law_is_list := k16,
    g_law_is_list := PySem.W.mg_of X H a16,
    a_law_target := f17,
    fd_law_target := _,
    F_law_target := F17,
    b_law_target := b17,
    kp_law_target := k17,
    g_law_target := PySem.W.mg_of X H a17,
    a_law_done := f18,
    fd_law_done := _,
    F_law_done := F18,
    b_law_done := b18,
    kp_law_done := k18,
    g_law_done := PySem.W.mg_of X H a18,
    a_law_looked := f19,
    fd_law_looked := _,
    F_law_looked := F19,
    b_law_looked := b19,
    kp_law_looked := k19,
    g_law_looked := PySem.W.mg_of X H a19,
    a_law_stands := f20,
    fd_law_stands := _,
    F_law_stands := F20,
    b_law_stands := b20,
    kp_law_stands := k20,
    g_law_stands := PySem.W.mg_of X H a20,
    a_law := fa,
    fd_law := _,
    F_law := F21,
    b_law := b21,
    kp_law := k21,
    g_law := PySem.W.mg_of X H a21,
    g_MailError := PySem.W.mg_of X H ac0,
    g_NoName := PySem.W.mg_of X H ac1,
    x_NoName := xE1,
    kp_NoName := kE1,
    r_NoName := fun {Y} hY => raises_own (by rw [hY]; exact bE1) (by rw [hY]; exact tE1),
    g_Threads := PySem.W.mg_of X H ac2,
    cl_Threads := ⟨pg2, hd2, po2, sa2⟩,
    n_Threads_goes_to := nf2_0,
    n_Threads_pile_of := nf2_1,
    n_Threads_piles := nf2_2,
    n_Threads_comes_from := nf2_3,
    n_Threads_made := nf2_4,
    fz_Threads := hfz2,
    z_all := PySem.W.mg_none_of X H z_all,
    z_int := PySem.W.mg_none_of X H z_int,
    z_isinstance := PySem.W.mg_none_of X H z_isinstance,
    z_len := PySem.W.mg_none_of X H z_len,
    z_list := PySem.W.mg_none_of X H z_list,
    z_range := PySem.W.mg_none_of X H z_range,
    z_repr := PySem.W.mg_none_of X H z_repr,
    z_sorted := PySem.W.mg_none_of X H z_sorted,
    z_str := PySem.W.mg_none_of X H z_str }
  refine ⟨T.fd_law, fun s v => .of_eq rfl, fun base _ _ => ((ok_law T : FnG l.prog w K mg base CX0 6 fa T.fd_law ["_law_script"] (sp_law G)).imp fun vs H Q E hh => ?_)⟩
  obtain ⟨a, ns, rfl, hs, ho, hl, hq⟩ := hh
  exact ⟨.ref a, ⟨ns⟩, star [], rfl, im_of_only (G := G) ho hs, Sep.unstar (M := []) (Sep.nil H), R.wp_of (law_ok ⟨ns⟩ hl) fun H' _ => hq H'⟩
theorem says_mk {l : PySem.W.OpenLaw} {w : World} {K : PySem.W.Frag} {h : Heap} {mg : Str → Option Value} {fa : Addr} (X : K.In h) (H : h.Ns mainGlobals mg) (hfa : mg "law" = some (.ref fa)) (c : obsK K = valK)
    : ∃ fd : FuncData, (∀ (s : Shared) (v : Value), BindsTo s fd ⟨[v], []⟩ [("_law_script", v)]) ∧ ∀ base : Heap, K.In base → base.Ns mainGlobals mg → FnG l.prog w K mg base CX0 6 fa fd ["_law_script"] (sp_top K) := by
  have hb : ((fb0 K).all id && (fb1 K).all id) = true := congrArg (fun z : ObT => z.1) c
  simp only [Bool.and_eq_true] at hb
  obtain ⟨g0, g1⟩ := hb
  have cD0 : obsD dfns0 K = valD dfns0 := congrArg (fun z : ObT => z.2) c
  have ac0 : PySem.W.nsIn K mainGlobals "MailError" = some (some (.ref 31)) := of_decide_eq_true (fxM g0 0 rfl)
  have ac1 : PySem.W.nsIn K mainGlobals "NoName" = some (some (.ref 44)) := of_decide_eq_true (fxM g0 1 rfl)
  have ac2 : PySem.W.nsIn K mainGlobals "Threads" = some (some (.ref 139)) := of_decide_eq_true (fxM g0 2 rfl)
  have a0_2 : PySem.W.findIn K (.ref 139) "__init__" = some (some (.ref 60)) := of_decide_eq_true (fxM g0 3 rfl)
  have i0 : PySem.W.isFn K (.ref 60) = true := of_decide_eq_true (fxM g0 4 rfl)
  have mk2 : PySem.W.makesIn K 139 = true := of_decide_eq_true (fxM g0 5 rfl)
  have kc2 : PySem.W.keepIn K (.ref 139) = true := of_decide_eq_true (fxM g0 6 rfl)
  have a1_2 : PySem.W.findIn K (.ref 139) "pile" = some (some (.ref 67)) := of_decide_eq_true (fxM g0 7 rfl)
  have i1 : PySem.W.isFn K (.ref 67) = true := of_decide_eq_true (fxM g0 8 rfl)
  have a2_2 : PySem.W.findIn K (.ref 139) "put_together" = some (some (.ref 74)) := of_decide_eq_true (fxM g0 9 rfl)
  have i2 : PySem.W.isFn K (.ref 74) = true := of_decide_eq_true (fxM g0 10 rfl)
  have a3_2 : PySem.W.findIn K (.ref 139) "hang" = some (some (.ref 81)) := of_decide_eq_true (fxM g0 11 rfl)
  have i3 : PySem.W.isFn K (.ref 81) = true := of_decide_eq_true (fxM g0 12 rfl)
  have a4_2 : PySem.W.findIn K (.ref 139) "sure" = some (some (.ref 88)) := of_decide_eq_true (fxM g0 13 rfl)
  have i4 : PySem.W.isFn K (.ref 88) = true := of_decide_eq_true (fxM g0 14 rfl)
  have a5_2 : PySem.W.findIn K (.ref 139) "add" = some (some (.ref 96)) := of_decide_eq_true (fxM g0 15 rfl)
  have i5 : PySem.W.isFn K (.ref 96) = true := of_decide_eq_true (fxM g0 16 rfl)
  have a6_2 : PySem.W.findIn K (.ref 139) "take_out" = some (some (.ref 103)) := of_decide_eq_true (fxM g0 17 rfl)
  have i6 : PySem.W.isFn K (.ref 103) = true := of_decide_eq_true (fxM g0 18 rfl)
  have a7_2 : PySem.W.findIn K (.ref 139) "names" = some (some (.ref 110)) := of_decide_eq_true (fxM g0 19 rfl)
  have i7 : PySem.W.isFn K (.ref 110) = true := of_decide_eq_true (fxM g0 20 rfl)
  have a8_2 : PySem.W.findIn K (.ref 139) "thread" = some (some (.ref 115)) := of_decide_eq_true (fxM g0 21 rfl)
  have i8 : PySem.W.isFn K (.ref 115) = true := of_decide_eq_true (fxM g0 22 rfl)
  have a9_2 : PySem.W.findIn K (.ref 139) "threads" = some (some (.ref 122)) := of_decide_eq_true (fxM g0 23 rfl)
  have i9 : PySem.W.isFn K (.ref 122) = true := of_decide_eq_true (fxM g0 24 rfl)
  have a10 : PySem.W.nsIn K mainGlobals "_law_draws" = some (some (.ref 150)) := of_decide_eq_true (fxM g0 25 rfl)
  have a11 : PySem.W.nsIn K mainGlobals "_law_name_by" = some (some (.ref 157)) := of_decide_eq_true (fxM g0 26 rfl)
  have a12 : PySem.W.nsIn K mainGlobals "_law_pool" = some (some (.ref 162)) := of_decide_eq_true (fxM g0 27 rfl)
  have a13 : PySem.W.nsIn K mainGlobals "_law_hang" = some (some (.ref 169)) := of_decide_eq_true (fxM g0 28 rfl)
  have a14 : PySem.W.nsIn K mainGlobals "_law_thread" = some (some (.ref 174)) := of_decide_eq_true (fxM g0 29 rfl)
  have a15 : PySem.W.nsIn K mainGlobals "_law_threads" = some (some (.ref 179)) := of_decide_eq_true (fxM g0 30 rfl)
  have a16 : PySem.W.nsIn K mainGlobals "_law_is_list" = some (some (.ref 184)) := of_decide_eq_true (fxM g0 31 rfl)
  have a17 : PySem.W.nsIn K mainGlobals "_law_target" = some (some (.ref 191)) := of_decide_eq_true (fxM g0 32 rfl)
  have a18 : PySem.W.nsIn K mainGlobals "_law_done" = some (some (.ref 196)) := of_decide_eq_true (fxM g0 33 rfl)
  have a19 : PySem.W.nsIn K mainGlobals "_law_looked" = some (some (.ref 201)) := of_decide_eq_true (fxM g0 34 rfl)
  have a20 : PySem.W.nsIn K mainGlobals "_law_stands" = some (some (.ref 208)) := of_decide_eq_true (fxM g0 35 rfl)
  have a21 : PySem.W.nsIn K mainGlobals "law" = some (some (.ref 213)) := of_decide_eq_true (fxM g0 36 rfl)
  have xE1 : PySem.W.excIn K 44 [.type "ValueError", .type "Exception", .type "BaseException", .type "object"] "ValueError.__new__" = true := of_decide_eq_true (fxM g0 37 rfl)
  have kE1 : PySem.W.keepIn K (.ref 44) = true := of_decide_eq_true (fxM g0 38 rfl)
  have bE1 : PySem.W.subIn K (.ref 44) (.type "BaseException") = some true := of_decide_eq_true (fxM g0 39 rfl)
  have tE1 : PySem.W.typeIn K (.ref 44) = some (.type "type") := of_decide_eq_true (fxM g1 0 rfl)
  have pg2 : PySem.W.plainGet K 139 Str.empty = true := of_decide_eq_true (fxM g1 1 rfl)
  have hd2 : PySem.W.hasDictIn K 139 = true := of_decide_eq_true (fxM g1 2 rfl)
  have po2 : PySem.W.plainOver K 139 = true := of_decide_eq_true (fxM g1 3 rfl)
  have sa2 : PySem.W.findIn K (.ref 139) "__setattr__" = some (some (.builtin "object.__setattr__")) := of_decide_eq_true (fxM g1 4 rfl)
  have nf2_0 : PySem.W.findIn K (.ref 139) "goes_to" = some none := of_decide_eq_true (fxM g1 5 rfl)
  have nf2_1 : PySem.W.findIn K (.ref 139) "pile_of" = some none := of_decide_eq_true (fxM g1 6 rfl)
  have nf2_2 : PySem.W.findIn K (.ref 139) "piles" = some none := of_decide_eq_true (fxM g1 7 rfl)
  have nf2_3 : PySem.W.findIn K (.ref 139) "comes_from" = some none := of_decide_eq_true (fxM g1 8 rfl)
  have nf2_4 : PySem.W.findIn K (.ref 139) "made" = some none := of_decide_eq_true (fxM g1 9 rfl)
  have z_all : PySem.W.nsIn K mainGlobals "all" = some none := of_decide_eq_true (fxM g1 10 rfl)
  have z_int : PySem.W.nsIn K mainGlobals "int" = some none := of_decide_eq_true (fxM g1 11 rfl)
  have z_isinstance : PySem.W.nsIn K mainGlobals "isinstance" = some none := of_decide_eq_true (fxM g1 12 rfl)
  have z_len : PySem.W.nsIn K mainGlobals "len" = some none := of_decide_eq_true (fxM g1 13 rfl)
  have z_list : PySem.W.nsIn K mainGlobals "list" = some none := of_decide_eq_true (fxM g1 14 rfl)
  have z_range : PySem.W.nsIn K mainGlobals "range" = some none := of_decide_eq_true (fxM g1 15 rfl)
  have z_repr : PySem.W.nsIn K mainGlobals "repr" = some none := of_decide_eq_true (fxM g1 16 rfl)
  have z_sorted : PySem.W.nsIn K mainGlobals "sorted" = some none := of_decide_eq_true (fxM g1 17 rfl)
  have z_str : PySem.W.nsIn K mainGlobals "str" = some none := of_decide_eq_true (fxM g1 18 rfl)
  obtain ⟨fd0, F0⟩ : ∃ fd, FunD K "__init__" "Threads.__init__" (defArgs s_Threads___init__) (defBody s_Threads___init__) (defScope s_Threads___init__) [] [] 60 fd := defM cD0 0 (d := dfn0) rfl
  obtain ⟨⟨oc0, od0, kV0, dc0, pm0, an0, cd0, ct0, sl0, rfl, l0, cc0⟩, k0⟩ := He5.fun_of F0
  obtain ⟨fd1, F1⟩ : ∃ fd, FunD K "pile" "Threads.pile" (defArgs s_Threads_pile) (defBody s_Threads_pile) (defScope s_Threads_pile) [] [] 67 fd := defM cD0 1 (d := dfn1) rfl
  obtain ⟨⟨oc1, od1, kV1, dc1, pm1, an1, cd1, ct1, sl1, rfl, l1, cc1⟩, k1⟩ := He5.fun_of F1
  obtain ⟨fd2, F2⟩ : ∃ fd, FunD K "put_together" "Threads.put_together" (defArgs s_Threads_put_together) (defBody s_Threads_put_together) (defScope s_Threads_put_together) [] [] 74 fd := defM cD0 2 (d := dfn2) rfl
  obtain ⟨⟨oc2, od2, kV2, dc2, pm2, an2, cd2, ct2, sl2, rfl, l2, cc2⟩, k2⟩ := He5.fun_of F2
  obtain ⟨fd3, F3⟩ : ∃ fd, FunD K "hang" "Threads.hang" (defArgs s_Threads_hang) (defBody s_Threads_hang) (defScope s_Threads_hang) [] [] 81 fd := defM cD0 3 (d := dfn3) rfl
  obtain ⟨⟨oc3, od3, kV3, dc3, pm3, an3, cd3, ct3, sl3, rfl, l3, cc3⟩, k3⟩ := He5.fun_of F3
  obtain ⟨fd4, F4⟩ : ∃ fd, FunD K "sure" "Threads.sure" (defArgs s_Threads_sure) (defBody s_Threads_sure) (defScope s_Threads_sure) [] [] 88 fd := defM cD0 4 (d := dfn4) rfl
  obtain ⟨⟨oc4, od4, kV4, dc4, pm4, an4, cd4, ct4, sl4, rfl, l4, cc4⟩, k4⟩ := He5.fun_of F4
  obtain ⟨fd5, F5⟩ : ∃ fd, FunD K "add" "Threads.add" (defArgs s_Threads_add) (defBody s_Threads_add) (defScope s_Threads_add) [.str ("" : Str)] [] 96 fd := defM cD0 5 (d := dfn5) rfl
  obtain ⟨fd6, F6⟩ : ∃ fd, FunD K "take_out" "Threads.take_out" (defArgs s_Threads_take_out) (defBody s_Threads_take_out) (defScope s_Threads_take_out) [] [] 103 fd := defM cD0 6 (d := dfn6) rfl
  obtain ⟨⟨oc6, od6, kV6, dc6, pm6, an6, cd6, ct6, sl6, rfl, l6, cc6⟩, k6⟩ := He5.fun_of F6
  obtain ⟨fd7, F7⟩ : ∃ fd, FunD K "names" "Threads.names" (defArgs s_Threads_names) (defBody s_Threads_names) (defScope s_Threads_names) [] [] 110 fd := defM cD0 7 (d := dfn7) rfl
  obtain ⟨⟨oc7, od7, kV7, dc7, pm7, an7, cd7, ct7, sl7, rfl, l7, cc7⟩, k7⟩ := He5.fun_of F7
  obtain ⟨fd8, F8⟩ : ∃ fd, FunD K "thread" "Threads.thread" (defArgs s_Threads_thread) (defBody s_Threads_thread) (defScope s_Threads_thread) [] [] 115 fd := defM cD0 8 (d := dfn8) rfl
  obtain ⟨⟨oc8, od8, kV8, dc8, pm8, an8, cd8, ct8, sl8, rfl, l8, cc8⟩, k8⟩ := He5.fun_of F8
  obtain ⟨fd9, F9⟩ : ∃ fd, FunD K "threads" "Threads.threads" (defArgs s_Threads_threads) (defBody s_Threads_threads) (defScope s_Threads_threads) [] [] 122 fd := defM cD0 9 (d := dfn9) rfl
  obtain ⟨⟨oc9, od9, kV9, dc9, pm9, an9, cd9, ct9, sl9, rfl, l9, cc9⟩, k9⟩ := He5.fun_of F9
  obtain ⟨fd10, F10⟩ : ∃ fd, FunD K "_law_draws" "_law_draws" (defArgs s_law_draws) (defBody s_law_draws) (defScope s_law_draws) [] [] 150 fd := defM cD0 10 (d := dfn10) rfl
  obtain ⟨⟨oc10, od10, kV10, dc10, pm10, an10, cd10, ct10, sl10, rfl, l10, cc10⟩, k10⟩ := He5.fun_of F10
  obtain ⟨fd11, F11⟩ : ∃ fd, FunD K "_law_name_by" "_law_name_by" (defArgs s_law_name_by) (defBody s_law_name_by) (defScope s_law_name_by) [] [] 157 fd := defM cD0 11 (d := dfn11) rfl
  obtain ⟨⟨oc11, od11, kV11, dc11, pm11, an11, cd11, ct11, sl11, rfl, l11, cc11⟩, k11⟩ := He5.fun_of F11
  obtain ⟨fd12, F12⟩ : ∃ fd, FunD K "_law_pool" "_law_pool" (defArgs s_law_pool) (defBody s_law_pool) (defScope s_law_pool) [] [] 162 fd := defM cD0 12 (d := dfn12) rfl
  obtain ⟨⟨oc12, od12, kV12, dc12, pm12, an12, cd12, ct12, sl12, rfl, l12, cc12⟩, k12⟩ := He5.fun_of F12
  obtain ⟨fd13, F13⟩ : ∃ fd, FunD K "_law_hang" "_law_hang" (defArgs s_law_hang) (defBody s_law_hang) (defScope s_law_hang) [] [] 169 fd := defM cD0 13 (d := dfn13) rfl
  obtain ⟨⟨oc13, od13, kV13, dc13, pm13, an13, cd13, ct13, sl13, rfl, l13, cc13⟩, k13⟩ := He5.fun_of F13
  obtain ⟨fd14, F14⟩ : ∃ fd, FunD K "_law_thread" "_law_thread" (defArgs s_law_thread) (defBody s_law_thread) (defScope s_law_thread) [] [] 174 fd := defM cD0 14 (d := dfn14) rfl
  obtain ⟨⟨oc14, od14, kV14, dc14, pm14, an14, cd14, ct14, sl14, rfl, l14, cc14⟩, k14⟩ := He5.fun_of F14
  obtain ⟨fd15, F15⟩ : ∃ fd, FunD K "_law_threads" "_law_threads" (defArgs s_law_threads) (defBody s_law_threads) (defScope s_law_threads) [] [] 179 fd := defM cD0 15 (d := dfn15) rfl
  obtain ⟨⟨oc15, od15, kV15, dc15, pm15, an15, cd15, ct15, sl15, rfl, l15, cc15⟩, k15⟩ := He5.fun_of F15
  obtain ⟨fd16, F16⟩ : ∃ fd, FunD K "_law_is_list" "_law_is_list" (defArgs s_law_is_list) (defBody s_law_is_list) (defScope s_law_is_list) [] [] 184 fd := defM cD0 16 (d := dfn16) rfl
  obtain ⟨⟨oc16, od16, kV16, dc16, pm16, an16, cd16, ct16, sl16, rfl, l16, cc16⟩, k16⟩ := He5.fun_of F16
  obtain ⟨fd17, F17⟩ : ∃ fd, FunD K "_law_target" "_law_target" (defArgs s_law_target) (defBody s_law_target) (defScope s_law_target) [] [] 191 fd := defM cD0 17 (d := dfn17) rfl
  obtain ⟨⟨oc17, od17, kV17, dc17, pm17, an17, cd17, ct17, sl17, rfl, l17, cc17⟩, k17⟩ := He5.fun_of F17
  obtain ⟨fd18, F18⟩ : ∃ fd, FunD K "_law_done" "_law_done" (defArgs s_law_done) (defBody s_law_done) (defScope s_law_done) [] [] 196 fd := defM cD0 18 (d := dfn18) rfl
  obtain ⟨⟨oc18, od18, kV18, dc18, pm18, an18, cd18, ct18, sl18, rfl, l18, cc18⟩, k18⟩ := He5.fun_of F18
  obtain ⟨fd19, F19⟩ : ∃ fd, FunD K "_law_looked" "_law_looked" (defArgs s_law_looked) (defBody s_law_looked) (defScope s_law_looked) [] [] 201 fd := defM cD0 19 (d := dfn19) rfl
  obtain ⟨⟨oc19, od19, kV19, dc19, pm19, an19, cd19, ct19, sl19, rfl, l19, cc19⟩, k19⟩ := He5.fun_of F19
  obtain ⟨fd20, F20⟩ : ∃ fd, FunD K "_law_stands" "_law_stands" (defArgs s_law_stands) (defBody s_law_stands) (defScope s_law_stands) [] [] 208 fd := defM cD0 20 (d := dfn20) rfl
  obtain ⟨⟨oc20, od20, kV20, dc20, pm20, an20, cd20, ct20, sl20, rfl, l20, cc20⟩, k20⟩ := He5.fun_of F20
  obtain ⟨fd21, F21⟩ : ∃ fd, FunD K "law" "law" (defArgs s_law) (defBody s_law) (defScope s_law) [] [] 213 fd := defM cD0 21 (d := dfn21) rfl
  obtain ⟨⟨oc21, od21, kV21, dc21, pm21, an21, cd21, ct21, sl21, rfl, l21, cc21⟩, k21⟩ := He5.fun_of F21
  exact all_mk X H hfa ac0 ac1 ac2 a0_2 i0 l0 cc0 k0 mk2 kc2 a1_2 i1 l1 cc1 k1 a2_2 i2 l2 cc2 k2 a3_2 i3 l3 cc3 k3 a4_2 i4 l4 cc4 k4 a5_2 i5 F5 a6_2 i6 l6 cc6 k6 a7_2 i7 l7 cc7 k7 a8_2 i8 l8 cc8 k8 a9_2 i9 l9 cc9 k9 a10 l10 cc10 k10 a11 l11 cc11 k11 a12 l12 cc12 k12 a13 l13 cc13 k13 a14 l14 cc14 k14 a15 l15 cc15 k15 a16 l16 cc16 k16 a17 l17 cc17 k17 a18 l18 cc18 k18 a19 l19 cc19 k19 a20 l20 cc20 k20 a21 l21 cc21 k21 xE1 kE1 bE1 tE1 pg2 hd2 po2 sa2 nf2_0 nf2_1 nf2_2 nf2_3 nf2_4 z_all z_int z_isinstance z_len z_list z_range z_repr z_sorted z_str
end Lw
open PySem PySem.W PyProof.Rows
set_option maxRecDepth 100000 in
set_option maxHeartbeats 0 in
theorem PySem.Challenge.cw_mailroom_k21_threads_looked_at_holds : PySem.Challenge.rw_mailroom_k21_threads_looked_at.Holds := by
  w_on; o_law
  refine HandSHeadRun.head_any (r := OpenLaw.row PySem.Challenge.rw_mailroom_k21_threads_looked_at) (q := view (OpenLaw.row PySem.Challenge.rw_mailroom_k21_threads_looked_at).prog [18]) (H := Lw.hookM) (ob := Lw.obM) (M := 40000) (loose := Lw.namesM) (d := HandSHeadRun.topDef (OpenLaw.row PySem.Challenge.rw_mailroom_k21_threads_looked_at).prog 18) (kwd := []) Lw.obM_eq
    (by kernel_rfl) (fun s => by kernel_rfl) Lw.runM (by kernel_rfl) (by kernel_rfl) (by kernel_rfl) (by rfl) (by first | assumption | decide +kernel) (by decide +kernel) ⟨rfl, rfl, rfl, rfl, rfl, by decide +kernel⟩ ?hw ?hc
  case hw => w_witness2
  case hc =>
    refine L2.walk_ofG (l := PySem.Challenge.rw_mailroom_k21_threads_looked_at) (n := 63) (k := 6) (x := "_law_script") (CX := L2.CX0) rfl (by decide) (by kernel_rfl) ⟨rfl, by decide, by decide⟩ ?F (fun _ _ _ _ z => z)
    intro w mg fa h Y G hmg0
    obtain ⟨K, KX, c⟩ := Y
    have hmg : mg ("law" : PySem.Str) = some (.ref fa) := by
      have e : (HandSHeadRun.topDef (OpenLaw.row PySem.Challenge.rw_mailroom_k21_threads_looked_at).prog 18).name = ("law" : PySem.Str) := by kernel_rfl
      rw [← e]
      exact hmg0
    obtain ⟨fd, hb, hF⟩ := Lw.says_mk (l := PySem.Challenge.rw_mailroom_k21_threads_looked_at) (w := w) KX G hmg c
    exact ⟨K, fd, Lw.sp_top K, KX, hb, fun H a ns hl hO hS => ⟨a, ns, rfl, hS, hO, hl, fun _ => rfl⟩, hF⟩
