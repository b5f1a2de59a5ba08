import PyProof.Rows.All
import Wide.All
import OpenK.AllK
import Wide.FinOn
import HandS.ForMost
import HandS.ForExc
import HandS.SetKeys
import HandS.IsInst
import HandS.Flow
import HandS.Style
import HandS.CallSlots
import HandS.TryMany
import HandS.StrMore
import HandS.Strs
import HandS.TupLe
import HandS.TupAny
import HandS.More
import HandS.Conv
import HandS.Replace
import HandS.FStr
import HandS.ExcIs
import HandS.RaiseMore
import HandS.Defaults
import HandS.DictTup
import HandS.TupSets
import HandS.SortOrd
import HandS.SortKw
import HandS.Lambda
import PyProof.Rows.StrCase
import HandS.TryOnly
import KE.DataFind
import HandS.HotCalls
import HandS.Small
import HandS.WordsDict
import KE.KEqDict
import PyProof.NeKinds
import PyProof.FactsAll.dict_1
import PyProof.FactsAll.dict_2
import PyProof.FactsAll.str
import PyProof.FactsAll.int
import PyProof.FactsAll.subtypes
import HandS.SetTxt0
import HandS.SetFor
import KE.SortData
import KE.DataCmp
import HandS.Iter
import KE.DataMinMax
import HandS.ExcInit
import HandS.ClsMeth
import HandS.ExcField
import KE.KExcIs
import HandS.ExcInitHot
import HandS.SuiteRaise
import KE.GoesEnumKw
import HandS.NoneIn
import HandS.Head0
import HandS.Head1
import HandS.Head2
import HandS.HeadEnd
import HandS.HeadHook1
import HandS.HeadHook2
import HandS.HeadNt
import PySem.Challenge.RW_mailroom_k32_folders_refused
set_option Elab.async false
set_option linter.all false
set_option maxRecDepth 100000
set_option maxHeartbeats 4000000
namespace Ml
open PySem L2
structure Gx where
  K : PySem.W.Frag
  fz : Addr → Option Nat
  cl : Nat → Addr
/-- what never changes once it stands -/
def per (G : Gx) : HO → Bool
  | .tup _ => true
  | .frz _ (.lst _) => true
  | .ins C _ fs => decide (G.fz C = some fs.length)
  | _ => false
/-- what sort of thing it is -/
def kindOf : HO → Nat
  | .lst _ => 0
  | .frz _ (.lst _) => 0
  | .dK _ => 1
  | .frz _ (.dK _) => 1
  | .dT _ => 6
  | .frz _ (.dT _) => 6
  | .tup _ => 2
  | .set _ _ => 3
  | .ins _ _ _ => 4
  | _ => 5
/-- all that never changes stands on, and nothing becomes another sort of thing -/
def Stab (G : Gx) (H H' : Hp) : Prop := (∀ a o, H a = some o → per G o = true → H' a = some o) ∧ ∀ a o, H a = some o → ∃ o', H' a = some o' ∧ kindOf o' = kindOf o
theorem Stab.refl {G : Gx} (H : Hp) : Stab G H H := ⟨fun _ _ h _ => h, fun _ o h => ⟨o, h, rfl⟩⟩
theorem Stab.trans {G : Gx} {H H1 H2 : Hp} (a : Stab G H H1) (b : Stab G H1 H2) : Stab G H H2 := ⟨fun x o h p => b.1 x o (a.1 x o h p) p, fun x o h => by
  obtain ⟨o1, h1, k1⟩ := a.2 x o h
  obtain ⟨o2, h2, k2⟩ := b.2 x o1 h1
  exact ⟨o2, h2, k2.trans k1⟩⟩
theorem Stab.of_same {G : Gx} {H H' : Hp} (s : Same H H') : Stab G H H' := ⟨fun a o h _ => s a o h, fun a o h => ⟨o, s a o h, rfl⟩⟩
theorem stab_put {G : Gx} {H : Hp} {a : Addr} {o o' : HO} (e : H a = some o) (n : per G o = false) (kd : kindOf o' = kindOf o) : Stab G H (upd H a o') := ⟨fun b x hb pb => by
  by_cases z : b = a
  · subst z; rw [e] at hb; cases hb; rw [n] at pb; cases pb
  · rw [upd_ne z]; exact hb, fun b x hb => by
  by_cases z : b = a
  · subst z; rw [e] at hb; cases hb; exact ⟨o', upd_same, kd⟩
  · exact ⟨x, by rw [upd_ne z]; exact hb, rfl⟩⟩
structure Asn (G : Gx) where
  sat : Hp → List Addr → Prop
  loc : ∀ H H' fp, sat H fp → (∀ a, a ∈ fp → H' a = H a) → Stab G H H' → sat H' fp
variable {G : Gx}
def satL (H : Hp) : List (Asn G) → List Addr → Prop
  | [], fp => fp = []
  | A :: L, fp => ∃ f1 f2, fp = f1 ++ f2 ∧ A.sat H f1 ∧ satL H L f2
theorem satL.loc {H H' : Hp} : ∀ {L : List (Asn G)} {fp : List Addr}, satL H L fp → (∀ a, a ∈ fp → H' a = H a) → Stab G H H' → satL H' L fp
  | [], fp, h, _, _ => h
  | A :: L, fp, ⟨f1, f2, e, h1, h2⟩, k, s => ⟨f1, f2, e, A.loc H H' f1 h1 (fun a m => k a (by rw [e]; exact List.mem_append_left _ m)) s,
      satL.loc h2 (fun a m => k a (by rw [e]; exact List.mem_append_right _ m)) s⟩
theorem satL.perm {H : Hp} {L L' : List (Asn G)} (p : L.Perm L') : ∀ {fp : List Addr}, satL H L fp → ∃ fp', fp'.Perm fp ∧ satL H L' fp' := by
  induction p with
  | nil => intro fp h; exact ⟨fp, .refl _, h⟩
  | cons x _ ih =>
    rintro fp ⟨f1, f2, e, h1, h2⟩
    obtain ⟨g, pg, hg⟩ := ih h2
    exact ⟨f1 ++ g, by rw [e]; exact List.Perm.append_left f1 pg, f1, g, rfl, h1, hg⟩
  | swap x y l =>
    rintro fp ⟨f1, f2, e, h1, g1, g2, e2, k1, k2⟩
    refine ⟨g1 ++ (f1 ++ g2), ?_, g1, f1 ++ g2, rfl, k1, f1, g2, rfl, h1, k2⟩
    rw [e, e2, ← List.append_assoc, ← List.append_assoc]
    exact List.Perm.append_right g2 List.perm_append_comm
  | trans _ _ ih1 ih2 =>
    intro fp h
    obtain ⟨g, pg, hg⟩ := ih1 h
    obtain ⟨k, pk, hk⟩ := ih2 hg
    exact ⟨k, pk.trans pg, hk⟩
theorem satL.append {H : Hp} : ∀ {L L' : List (Asn G)} {fp : List Addr}, satL H (L ++ L') fp ↔ ∃ f1 f2, fp = f1 ++ f2 ∧ satL H L f1 ∧ satL H L' f2
  | [], L', fp => ⟨fun h => ⟨[], fp, rfl, rfl, h⟩, fun ⟨f1, f2, e, h1, h2⟩ => by
      have h1' : f1 = [] := h1
      subst h1'; subst e; exact h2⟩
  | A :: L, L', fp => by
    constructor
    · rintro ⟨f1, f2, e, h1, h2⟩
      obtain ⟨g1, g2, e2, k1, k2⟩ := satL.append.mp h2
      exact ⟨f1 ++ g1, g2, by rw [e, e2, List.append_assoc], ⟨f1, g1, rfl, h1, k1⟩, k2⟩
    · rintro ⟨f1, f2, e, ⟨g1, g2, e2, h1, h2⟩, h3⟩
      exact ⟨g1, g2 ++ f2, by rw [e, e2, List.append_assoc], h1, satL.append.mpr ⟨g2, f2, rfl, h2, h3⟩⟩
/-- the assertions hold, each of its own part of the heap -/
def Sep (H : Hp) (L : List (Asn G)) : Prop := ∃ fp, satL H L fp ∧ fp.Nodup ∧ ∀ a, a ∈ fp → ∃ o, H a = some o ∧ per G o = false
theorem Sep.perm {H : Hp} {L L' : List (Asn G)} (h : Sep H L) (p : L.Perm L') : Sep H L' := by
  obtain ⟨fp, h1, h2, h3⟩ := h
  obtain ⟨g, pg, hg⟩ := satL.perm p h1
  exact ⟨g, hg, pg.nodup_iff.mpr h2, fun a m => h3 a (pg.mem_iff.mp m)⟩
theorem Sep.nil (H : Hp) : Sep H ([] : List (Asn G)) := ⟨[], rfl, List.nodup_nil, fun a m => absurd m (by simp)⟩
theorem Sep.left {H : Hp} {L L' : List (Asn G)} (h : Sep H (L ++ L')) : Sep H L := by
  obtain ⟨fp, h1, h2, h3⟩ := h
  obtain ⟨f1, f2, e, k1, k2⟩ := satL.append.mp h1
  subst e
  exact ⟨f1, k1, (List.nodup_append.mp h2).1, fun a m => h3 a (List.mem_append_left _ m)⟩
theorem Sep.tail {H : Hp} {A : Asn G} {L : List (Asn G)} (h : Sep H (A :: L)) : Sep H L := by
  have p : (A :: L).Perm (L ++ [A]) := (List.perm_append_singleton A L).symm
  exact (h.perm p).left
/-- old things stand, new ones may come -/
theorem Sep.more {H H' : Hp} {L : List (Asn G)} (h : Sep H L) (s : Same H H') : Sep H' L := by
  obtain ⟨fp, h1, h2, h3⟩ := h
  exact ⟨fp, h1.loc (fun a m => by obtain ⟨o, e, _⟩ := h3 a m; rw [e]; exact s a o e) (.of_same s), h2, fun a m => by
    obtain ⟨o, e, n⟩ := h3 a m; exact ⟨o, s a o e, n⟩⟩
theorem satL.at {H : Hp} {A : Asn G} : ∀ {L : List (Asn G)} {fp : List Addr} {i : Nat}, satL H L fp → L[i]? = some A → ∃ fp, A.sat H fp
  | [], _, _, _, e => by simp at e
  | B :: L, _, 0, ⟨f1, _, _, k1, _⟩, e => ⟨f1, by
      have : B = A := Option.some.inj e
      subst this; exact k1⟩
  | B :: L, _, i + 1, ⟨_, f2, _, _, k2⟩, e => satL.at (L := L) (i := i) k2 (by simpa using e)
theorem Sep.at {H : Hp} {L : List (Asn G)} (h : Sep H L) {i : Nat} {A : Asn G} (e : L[i]? = some A) : ∃ fp, A.sat H fp := by
  obtain ⟨fp, h1, _, _⟩ := h
  exact satL.at h1 e
/-- the i-th one ahead -/
theorem pull_perm {α : Type} : ∀ {L : List α} {i : Nat} {A : α}, L[i]? = some A → L.Perm (A :: L.eraseIdx i)
  | [], _, _, e => by simp at e
  | B :: L, 0, A, e => by
    have : B = A := Option.some.inj e
    subst this
    exact .refl _
  | B :: L, i + 1, A, e => by
    have ih := pull_perm (L := L) (i := i) (A := A) (by simpa using e)
    exact (List.Perm.cons B ih).trans (List.Perm.swap A B _)
theorem set_perm {α : Type} : ∀ {L : List α} {i : Nat} {A B : α}, L[i]? = some A → (B :: L.eraseIdx i).Perm (L.set i B)
  | [], _, _, _, e => by simp at e
  | C :: L, 0, A, B, e => .refl _
  | C :: L, i + 1, A, B, e => by
    have ih := set_perm (L := L) (i := i) (A := A) (B := B) (by simpa using e)
    exact (List.Perm.swap C B _).trans (List.Perm.cons C ih)
/-- chosen ones, in a chosen order -/
def pick {α : Type} (L : List α) (is : List Nat) : List α := is.filterMap fun i => L[i]?
theorem pick_perm {α : Type} : ∀ (is : List Nat) (L : List α), is.Nodup → ∃ R, L.Perm (pick L is ++ R)
  | [], L, _ => ⟨L, .refl _⟩
  | i :: is, L, nd => by
    obtain ⟨n1, n2⟩ := List.nodup_cons.mp nd
    cases e : L[i]? with
    | none =>
      obtain ⟨R, p⟩ := pick_perm is L n2
      refine ⟨R, ?_⟩
      have : pick L (i :: is) = pick L is := by unfold pick; rw [List.filterMap_cons, e]
      rw [this]; exact p
    | some A =>
      -- the others by their places without i
      have key : ∀ (js : List Nat), i ∉ js → pick L js = pick (L.eraseIdx i) (js.map fun j => if j < i then j else j - 1) := by
        intro js hj
        unfold pick
        rw [List.filterMap_map]
        have gen : ∀ js : List Nat, i ∉ js → js.filterMap (fun i => L[i]?) = js.filterMap ((fun j => (L.eraseIdx i)[j]?) ∘ fun j => if j < i then j else j - 1) := by
          intro js
          induction js with
          | nil => intro _; rfl
          | cons j js ih =>
            intro hm
            have hji : j ≠ i := fun z => hm (by rw [z]; exact List.mem_cons_self)
            have ih' := ih fun z => hm (List.mem_cons_of_mem _ z)
            have ej : L[j]? = ((fun j => (L.eraseIdx i)[j]?) ∘ fun j => if j < i then j else j - 1) j := by
              show L[j]? = (L.eraseIdx i)[if j < i then j else j - 1]?
              rw [List.getElem?_eraseIdx]
              by_cases c : j < i
              · rw [if_pos c, if_pos c]
              · rw [if_neg c, if_neg (by omega)]
                congr 1; omega
            rw [List.filterMap_cons, List.filterMap_cons, ih', ej]
        exact gen js hj
      have nd2 : (is.map fun j => if j < i then j else j - 1).Nodup := by
        refine List.pairwise_map.mpr (List.Pairwise.imp_of_mem ?_ n2)
        intro a b ha hb hab z
        have ha' : a ≠ i := fun q => n1 (q ▸ ha)
        have hb' : b ≠ i := fun q => n1 (q ▸ hb)
        split at z <;> split at z <;> omega
      obtain ⟨R, p⟩ := pick_perm (is.map fun j => if j < i then j else j - 1) (L.eraseIdx i) nd2
      refine ⟨R, ?_⟩
      have e2 : pick L (i :: is) = A :: pick L is := by unfold pick; rw [List.filterMap_cons, e]
      rw [e2, key is n1]
      exact (pull_perm e).trans (List.Perm.cons A p)
termination_by is => is.length
theorem Sep.sel {H : Hp} {L L' : List (Asn G)} (h : Sep H L) (is : List Nat) (nd : is.Nodup) (e : pick L is = L') : Sep H L' := by
  obtain ⟨R, p⟩ := pick_perm is L nd
  rw [e] at p
  exact (h.perm p).left
/-- at a stands o, owned -/
def cell (a : Addr) (o : HO) : Asn G := ⟨fun H fp => fp = [a] ∧ H a = some o, fun H H' fp h k _ => ⟨h.1, by rw [k a (by rw [h.1]; simp)]; exact h.2⟩⟩
/-- a fact that stays -/
def fact (p : Hp → Prop) (st : ∀ H H', p H → Stab G H H' → p H') : Asn G := ⟨fun H fp => fp = [] ∧ p H, fun H H' fp h _ s => ⟨h.1, st H H' h.2 s⟩⟩
/-- several as one -/
def star (L : List (Asn G)) : Asn G := ⟨fun H fp => satL H L fp, fun H H' fp h k s => h.loc k s⟩
/-- some one of them -/
def exA {α : Type} (f : α → Asn G) : Asn G := ⟨fun H fp => ∃ x, (f x).sat H fp, fun H H' fp ⟨x, h⟩ k s => ⟨x, (f x).loc H H' fp h k s⟩⟩
/-- and a plain truth -/
def andA (p : Prop) (A : Asn G) : Asn G := ⟨fun H fp => p ∧ A.sat H fp, fun H H' fp ⟨x, h⟩ k s => ⟨x, A.loc H H' fp h k s⟩⟩
theorem Sep.star {H : Hp} {L M : List (Asn G)} (h : Sep H (M ++ [Ml.star L])) : Sep H (M ++ L) := by
  obtain ⟨fp, h1, h2, h3⟩ := h
  obtain ⟨f1, f2, e, k1, g1, g2, e2, k2, k3⟩ := satL.append.mp h1
  have k3' : g2 = [] := k3
  subst k3'
  rw [List.append_nil] at e2
  subst e2
  exact ⟨fp, satL.append.mpr ⟨f1, f2, e, k1, k2⟩, h2, h3⟩
theorem Sep.unstar {H : Hp} {L M : List (Asn G)} (h : Sep H (M ++ L)) : Sep H (M ++ [Ml.star L]) := by
  obtain ⟨fp, h1, h2, h3⟩ := h
  obtain ⟨f1, f2, e, k1, k2⟩ := satL.append.mp h1
  exact ⟨fp, satL.append.mpr ⟨f1, f2, e, k1, f2, [], by simp, k2, rfl⟩, h2, h3⟩
theorem Sep.star1 {H : Hp} {L M : List (Asn G)} (h : Sep H (Ml.star L :: M)) : Sep H (L ++ M) := by
  obtain ⟨fp, ⟨f1, f2, e, h1, k⟩, h2, h3⟩ := h
  exact ⟨fp, satL.append.mpr ⟨f1, f2, e, h1, k⟩, h2, h3⟩
theorem Sep.unstar1 {H : Hp} {L M : List (Asn G)} (h : Sep H (L ++ M)) : Sep H (Ml.star L :: M) := by
  obtain ⟨fp, h1, h2, h3⟩ := h
  obtain ⟨f1, f2, e, k1, k2⟩ := satL.append.mp h1
  exact ⟨fp, ⟨f1, f2, e, k1, k2⟩, h2, h3⟩
theorem Sep.ex {α : Type} {f : α → Asn G} {H : Hp} {M : List (Asn G)} (h : Sep H (exA f :: M)) : ∃ x, Sep H (f x :: M) := by
  obtain ⟨fp, ⟨f1, f2, e, ⟨x, h1⟩, k⟩, h2, h3⟩ := h
  exact ⟨x, fp, ⟨f1, f2, e, h1, k⟩, h2, h3⟩
theorem Sep.exI {α : Type} {f : α → Asn G} {H : Hp} {M : List (Asn G)} (x : α) (h : Sep H (f x :: M)) : Sep H (exA f :: M) := by
  obtain ⟨fp, ⟨f1, f2, e, h1, k⟩, h2, h3⟩ := h
  exact ⟨fp, ⟨f1, f2, e, ⟨x, h1⟩, k⟩, h2, h3⟩
theorem Sep.and {p : Prop} {A : Asn G} {H : Hp} {M : List (Asn G)} (h : Sep H (andA p A :: M)) : p ∧ Sep H (A :: M) := by
  obtain ⟨fp, ⟨f1, f2, e, ⟨x, h1⟩, k⟩, h2, h3⟩ := h
  exact ⟨x, fp, ⟨f1, f2, e, h1, k⟩, h2, h3⟩
theorem Sep.andI {p : Prop} {A : Asn G} {H : Hp} {M : List (Asn G)} (x : p) (h : Sep H (A :: M)) : Sep H (andA p A :: M) := by
  obtain ⟨fp, ⟨f1, f2, e, h1, k⟩, h2, h3⟩ := h
  exact ⟨fp, ⟨f1, f2, e, ⟨x, h1⟩, k⟩, h2, h3⟩
/-- another view of the first one, over the same part -/
theorem Sep.view {A B : Asn G} {H : Hp} {M : List (Asn G)} (h : Sep H (A :: M)) (v : ∀ fp, A.sat H fp → B.sat H fp) : Sep H (B :: M) := by
  obtain ⟨fp, ⟨f1, f2, e, h1, k⟩, h2, h3⟩ := h
  exact ⟨fp, ⟨f1, f2, e, v f1 h1, k⟩, h2, h3⟩
theorem Sep.addFact {p : Hp → Prop} {st : ∀ H H', p H → Stab G H H' → p H'} {H : Hp} {M : List (Asn G)} (h : Sep H M) (x : p H) : Sep H (fact p st :: M) := by
  obtain ⟨fp, h1, h2, h3⟩ := h
  exact ⟨fp, ⟨[], fp, rfl, ⟨rfl, x⟩, h1⟩, h2, h3⟩
theorem Sep.getFact {p : Hp → Prop} {st : ∀ H H', p H → Stab G H H' → p H'} {H : Hp} {M : List (Asn G)} (h : Sep H M) {i : Nat} (e : M[i]? = some (fact p st)) : p H := by
  obtain ⟨fp, _, x⟩ := h.at e
  exact x
theorem Sep.getCell {H : Hp} {M : List (Asn G)} (h : Sep H M) {i : Nat} {a : Addr} {o : HO} (e : M[i]? = some (cell a o)) : H a = some o := by
  obtain ⟨fp, _, x⟩ := h.at e
  exact x
theorem same_new {H : Hp} {p : Addr} {o : HO} (h : H p = none) : Same H (upd H p o) := fun b u e => by
  rw [upd_ne (ne_of_none e h)]; exact e
/-- a new thing -/
theorem Sep.new {H : Hp} {M : List (Asn G)} (h : Sep H M) {p : Addr} {o : HO} (hp : H p = none) (n : per G o = false) : Sep (upd H p o) (cell p o :: M) := by
  have h' := h.more (same_new (o := o) hp)
  obtain ⟨fp, h1, h2, h3⟩ := h
  obtain ⟨_, k1, _, _⟩ := (⟨fp, h1, h2, h3⟩ : Sep H M)
  have q : satL (upd H p o) M fp := h1.loc (fun a m => by obtain ⟨u, e, _⟩ := h3 a m; exact upd_ne (ne_of_none e hp)) (.of_same (same_new hp))
  refine ⟨p :: fp, ⟨[p], fp, rfl, ⟨rfl, upd_same⟩, q⟩, List.nodup_cons.mpr ⟨fun m => ?_, h2⟩, fun a m => ?_⟩
  · obtain ⟨u, e, _⟩ := h3 p m
    rw [hp] at e; cases e
  · rcases List.mem_cons.mp m with rfl | m
    · exact ⟨o, upd_same, n⟩
    · obtain ⟨u, e, z⟩ := h3 a m
      exact ⟨u, by rw [upd_ne (ne_of_none e hp)]; exact e, z⟩
/-- a store at the first one's place -/
theorem Sep.put1 {H : Hp} {M : List (Asn G)} {a : Addr} {o o' : HO} (h : Sep H (cell a o :: M)) (n : per G o' = false) (kd : kindOf o' = kindOf o) : Sep (upd H a o') (cell a o' :: M) := by
  obtain ⟨fp, ⟨f1, f2, e, ⟨e1, ho⟩, k⟩, h2, h3⟩ := h
  subst e1; subst e
  have nd : ¬ a ∈ f2 := (List.nodup_cons.mp h2).1
  obtain ⟨u, hu, nu⟩ := h3 a (by simp)
  have st : Stab G H (upd H a o') := stab_put ho (by rw [hu] at ho; cases ho; exact nu) kd
  refine ⟨a :: f2, ⟨[a], f2, rfl, ⟨rfl, upd_same⟩, k.loc (fun b m => upd_ne fun z => nd (z ▸ m)) st⟩, h2, fun b m => ?_⟩
  rcases List.mem_cons.mp m with rfl | m
  · exact ⟨o', upd_same, n⟩
  · obtain ⟨x, hx, nx⟩ := h3 b (by simp [m])
    exact ⟨x, by rw [upd_ne (fun z => nd (by rw [← z]; exact m))]; exact hx, nx⟩
theorem Sep.put {H : Hp} {M : List (Asn G)} {i : Nat} {a : Addr} {o o' : HO} (h : Sep H M) (e : M[i]? = some (cell a o)) (n : per G o' = false) (kd : kindOf o' = kindOf o) : Sep (upd H a o') (M.set i (cell a o')) :=
  ((h.perm (pull_perm e)).put1 n kd).perm (set_perm e)
/-- another view of the i-th one -/
theorem Sep.viewAt {A B : Asn G} {H : Hp} {M : List (Asn G)} {i : Nat} (h : Sep H M) (e : M[i]? = some A) (v : ∀ fp, A.sat H fp → B.sat H fp) : Sep H (M.set i B) :=
  ((h.perm (pull_perm e)).view v).perm (set_perm e)
end Ml
namespace Ml
open PySem L2
structure Exc where
  cls : Nat
  row : Int
  deriving DecidableEq, Repr
inductive R (α : Type) where
  | ok (a : α) | exc (x : Exc) | bad
  deriving DecidableEq, Repr
namespace R
variable {α β σ ρ : Type}
def bind : R α → (α → R β) → R β
  | .ok a, f => f a
  | .exc x, _ => .exc x
  | .bad, _ => .bad
@[simp] theorem bind_ok (a : α) (f : α → R β) : (R.ok a).bind f = f a := rfl
@[simp] theorem bind_exc (x : Exc) (f : α → R β) : (R.exc x : R α).bind f = .exc x := rfl
@[simp] theorem bind_bad (f : α → R β) : (R.bad : R α).bind f = .bad := rfl
def need (p : Prop) [Decidable p] (k : R α) : R α := if p then k else .bad
@[simp] theorem need_pos {p : Prop} [Decidable p] (h : p) (k : R α) : need p k = k := if_pos h
/-- what holds of the answer, or of the error -/
def wp : R α → (α → Prop) → (Exc → Prop) → Prop
  | .ok a, q, _ => q a
  | .exc x, _, e => e x
  | .bad, _, _ => False
theorem wp_bind {m : R α} {f : α → R β} {q : β → Prop} {e : Exc → Prop} (h : wp (m.bind f) q e) : wp m (fun a => wp (f a) q e) e := by
  cases m <;> exact h
theorem wp_need {p : Prop} [Decidable p] {k : R α} {q : α → Prop} {e : Exc → Prop} (h : wp (need p k) q e) : p ∧ wp k q e := by
  unfold need at h
  by_cases c : p
  · rw [if_pos c] at h; exact ⟨c, h⟩
  · rw [if_neg c] at h; exact h.elim
theorem wp_mono {m : R α} {q q' : α → Prop} {e e' : Exc → Prop} (h : wp m q e) (hq : ∀ a, q a → q' a) (he : ∀ x, e x → e' x) : wp m q' e' := by
  cases m with
  | ok a => exact hq a h
  | exc x => exact he x h
  | bad => exact h
theorem wp_of {m : R α} {a : α} {q : α → Prop} {e : Exc → Prop} (h : m = .ok a) (k : q a) : wp m q e := by rw [h]; exact k
theorem wp_if {c : Prop} [Decidable c] {a b : R α} {q : α → Prop} {e : Exc → Prop} (h : wp (if c then a else b) q e) : (c → wp a q e) ∧ (¬ c → wp b q e) := by
  by_cases x : c
  · rw [if_pos x] at h; exact ⟨fun _ => h, fun n => absurd x n⟩
  · rw [if_neg x] at h; exact ⟨fun y => absurd y x, fun _ => h⟩
end R
/-- a turn's end: on with s, out of the loop with s, out of the def with r -/
inductive Fl (σ ρ : Type) where
  | go (s : σ) | brk (s : σ) | out (r : ρ)
  deriving DecidableEq, Repr
section
variable {α β σ ρ : Type}
def forR (f : σ → α → R σ) : List α → σ → R σ
  | [], s => .ok s
  | x :: xs, s => (f s x).bind fun s => forR f xs s
def forF (f : σ → α → R (Fl σ ρ)) : List α → σ → R (Fl σ ρ)
  | [], s => .ok (.go s)
  | x :: xs, s => (f s x).bind fun r => match r with
    | .go s => forF f xs s
    | .brk s => .ok (.go s)
    | .out r => .ok (.out r)
/-- a comprehension: what each item gives, the state carried -/
def compR (f : σ → α → R (σ × Option β)) : List α → σ → R (σ × List β)
  | [], s => .ok (s, [])
  | x :: xs, s => (f s x).bind fun r => (compR f xs r.1).bind fun t => .ok (t.1, match r.2 with
    | some y => y :: t.2
    | none => t.2)
end
class Im (G : Gx) (α : Type) where
  im : Hp → V → α → Prop
  st : ∀ {H H' : Hp} {v : V} {x : α}, im H v x → Stab G H H' → im H' v x
class Fv (G : Gx) (α : Type) extends Im G α where
  enc : α → V
  im_iff : ∀ {H : Hp} {v : V} {x : α}, im H v x ↔ v = enc x
variable {G : Gx}
instance imInt : Im G Int := ⟨fun _ v x => v = .int x, fun h _ => h⟩
instance imBool : Im G Bool := ⟨fun _ v x => v = .bl x, fun h _ => h⟩
instance imStr : Im G Str := ⟨fun _ v x => v = .str x, fun h _ => h⟩
instance imUnit : Im G Unit := ⟨fun _ v _ => v = .non, fun h _ => h⟩
instance fInt : Fv G Int := { enc := .int, im_iff := .rfl }
instance fBool : Fv G Bool := { enc := .bl, im_iff := .rfl }
instance fStr : Fv G Str := { enc := .str, im_iff := .rfl }
instance fUnit : Fv G Unit := { enc := fun _ => .non, im_iff := .rfl }
/-- the script -/
structure Script where
  ns : List Int
instance : Im G Script := ⟨fun H v x => ∃ a, v = .ref a ∧ ((∃ o, H a = some (.frz o (.lst (x.ns.map V.int)))) ∨ ∃ o its n, List.lookup a G.K = some o ∧ o.cls = Value.type "list" ∧ o.dict = none ∧ o.data = Data.seq its n ∧ its.size ≤ sizeLine ∧ Vals (x.ns.map V.int) its.toList),
  fun ⟨a, e, h⟩ s => ⟨a, e, h.imp (fun ⟨o, h⟩ => ⟨o, s.1 a _ h rfl⟩) id⟩⟩
theorem im_script {H : Hp} {v : V} {x : Script} (h : Im.im G H v x) : ∃ a, v = .ref a ∧ SqL G.K H a (x.ns.map V.int) := by
  obtain ⟨a, e, h⟩ := h
  refine ⟨a, e, ?_⟩
  rcases h with ⟨o, h⟩ | h
  · exact .inl (.inr ⟨o, h⟩)
  · exact .inr h
theorem sq_script {H : Hp} {a : Addr} {x : Script} (h : Im.im G H (.ref a) x) : SqL G.K H a (x.ns.map V.int) := by
  obtain ⟨b, e, h⟩ := im_script h
  cases e; exact h
def imL {α : Type} [Im G α] (H : Hp) : List V → List α → Prop
  | [], [] => True
  | v :: vs, x :: xs => Im.im G H v x ∧ imL H vs xs
  | _, _ => False
section
variable {α : Type} [Im G α] {H H' : Hp}
theorem imL.st : ∀ {vs : List V} {xs : List α}, imL (G := G) H vs xs → Stab G H H' → imL (G := G) H' vs xs
  | [], [], _, _ => True.intro
  | v :: vs, x :: xs, h, s => ⟨Im.st h.1 s, imL.st h.2 s⟩
  | [], _ :: _, h, _ => h
  | _ :: _, [], h, _ => h
theorem imL.len : ∀ {vs : List V} {xs : List α}, imL (G := G) H vs xs → vs.length = xs.length
  | [], [], _ => rfl
  | v :: vs, x :: xs, h => by rw [List.length_cons, List.length_cons, imL.len h.2]
  | [], _ :: _, h => h.elim
  | _ :: _, [], h => h.elim
theorem imL.app : ∀ {vs ws : List V} {xs ys : List α}, imL (G := G) H vs xs → imL (G := G) H ws ys → imL (G := G) H (vs ++ ws) (xs ++ ys)
  | [], _, [], _, _, h => h
  | v :: vs, _, x :: xs, _, h, k => ⟨h.1, imL.app h.2 k⟩
  | [], _, _ :: _, _, h, _ => h.elim
  | _ :: _, _, [], _, h, _ => h.elim
theorem imL.get : ∀ {vs : List V} {xs : List α} {i : Nat} {x : α}, imL (G := G) H vs xs → xs[i]? = some x → ∃ v, vs[i]? = some v ∧ Im.im G H v x
  | [], [], _, _, _, e => by simp at e
  | v :: vs, x :: xs, 0, y, h, e => by
    have : x = y := Option.some.inj e
    subst this
    exact ⟨v, rfl, h.1⟩
  | v :: vs, x :: xs, i + 1, y, h, e => by
    obtain ⟨u, h1, h2⟩ := imL.get (i := i) (x := y) h.2 (by simpa using e)
    exact ⟨u, by simpa using h1, h2⟩
  | [], _ :: _, _, _, h, _ => h.elim
  | _ :: _, [], _, _, h, _ => h.elim
theorem imL.set : ∀ {vs : List V} {xs : List α} {i : Nat} {x : α} {v : V}, imL (G := G) H vs xs → Im.im G H v x → imL (G := G) H (vs.set i v) (xs.set i x)
  | [], [], _, _, _, _, _ => True.intro
  | v :: vs, x :: xs, 0, y, u, h, k => ⟨k, h.2⟩
  | v :: vs, x :: xs, i + 1, y, u, h, k => ⟨h.1, imL.set h.2 k⟩
  | [], _ :: _, _, _, _, h, _ => h.elim
  | _ :: _, [], _, _, _, h, _ => h.elim
theorem imL.take : ∀ {vs : List V} {xs : List α} (n : Nat), imL (G := G) H vs xs → imL (G := G) H (vs.take n) (xs.take n)
  | [], [], n, _ => by simp [imL]
  | v :: vs, x :: xs, 0, h => True.intro
  | v :: vs, x :: xs, n + 1, h => ⟨h.1, imL.take n h.2⟩
  | [], _ :: _, _, h => h.elim
  | _ :: _, [], _, h => h.elim
theorem imL.drop : ∀ {vs : List V} {xs : List α} (n : Nat), imL (G := G) H vs xs → imL (G := G) H (vs.drop n) (xs.drop n)
  | [], [], n, _ => by simp [imL]
  | v :: vs, x :: xs, 0, h => h
  | v :: vs, x :: xs, n + 1, h => imL.drop n h.2
  | [], _ :: _, _, h => h.elim
  | _ :: _, [], _, h => h.elim
end
section
variable {α : Type} [Fv G α] {H H' : Hp}
theorem imL.flat : ∀ {vs : List V} {xs : List α}, imL (G := G) H vs xs ↔ vs = xs.map (Fv.enc G)
  | [], [] => ⟨fun _ => rfl, fun _ => True.intro⟩
  | v :: vs, x :: xs => by
    show (Im.im G H v x ∧ imL (G := G) H vs xs) ↔ _
    rw [Fv.im_iff, imL.flat]
    simp
  | [], _ :: _ => by simp [imL]
  | _ :: _, [] => by simp [imL]
end
section
variable {α : Type} [Im G α]
def lstA (a : Addr) (xs : List α) : Asn G := ⟨fun H fp => fp = [a] ∧ ∃ vs, H a = some (.lst vs) ∧ imL (G := G) H vs xs,
  fun H H' fp ⟨e, vs, h, m⟩ k s => ⟨e, vs, by rw [k a (by rw [e]; simp)]; exact h, m.st s⟩⟩
/-- a value's fact -/
def imA (v : V) (x : α) : Asn G := fact (fun H => Im.im G H v x) fun H H' h s => Im.st h s
variable {H : Hp} {L : List (Asn G)}
theorem Sep.lst (h : Sep H L) {i : Nat} {a : Addr} {xs : List α} (e : L[i]? = some (lstA a xs)) : ∃ vs, H a = some (.lst vs) ∧ imL (G := G) H vs xs := by
  obtain ⟨fp, _, x⟩ := h.at e
  exact x
theorem Sep.im (h : Sep H L) {i : Nat} {v : V} {x : α} (e : L[i]? = some (imA v x)) : Im.im G H v x := h.getFact e
theorem Sep.addIm (h : Sep H L) {v : V} {x : α} (e : Im.im G H v x) : Sep H (imA v x :: L) := h.addFact e
/-- the list's own cell, and back -/
theorem Sep.openL (h : Sep H L) {i : Nat} {a : Addr} {xs : List α} (e : L[i]? = some (lstA a xs)) : ∃ vs, imL (G := G) H vs xs ∧ Sep H (L.set i (cell a (.lst vs))) := by
  obtain ⟨vs, e1, m⟩ := h.lst e
  exact ⟨vs, m, h.viewAt e fun fp ⟨q, _⟩ => ⟨q, e1⟩⟩
theorem Sep.closeL {i : Nat} {a : Addr} {vs : List V} {xs : List α} (h : Sep H L) (e : L[i]? = some (cell a (.lst vs))) (m : imL (G := G) H vs xs) : Sep H (L.set i (lstA a xs)) :=
  h.viewAt e fun fp ⟨q, r⟩ => ⟨q, vs, r, m⟩
theorem Sep.newL (h : Sep H L) {p : Addr} {vs : List V} {xs : List α} (hp : H p = none) (m : imL (G := G) H vs xs) : Sep (upd H p (.lst vs)) (lstA p xs :: L) :=
  (h.new (o := .lst vs) hp rfl).view fun fp ⟨q, r⟩ => ⟨q, vs, r, m.st (.of_same (same_new hp))⟩
theorem set_set {β : Type} {l : List β} {i : Nat} {x y : β} : (l.set i x).set i y = l.set i y := by simp
theorem get_set {β : Type} {l : List β} {i : Nat} {x y : β} (h : l[i]? = some x) : (l.set i y)[i]? = some y := by
  have : i < l.length := by
    have := List.getElem?_eq_some_iff.mp h
    exact this.1
  simp [this]
theorem Sep.putL (h : Sep H L) {i : Nat} {a : Addr} {xs ys : List α} {vs : List V} (e : L[i]? = some (lstA a xs)) (m : imL (G := G) H vs ys) : Sep (upd H a (.lst vs)) (L.set i (lstA a ys)) := by
  obtain ⟨us, mu, h1⟩ := h.openL e
  have e1 := get_set (y := cell (G := G) a (.lst us)) e
  have h2 := h1.put (o' := .lst vs) e1 rfl rfl
  rw [set_set] at h2
  have st : Stab G H (upd H a (.lst vs)) := stab_put (h1.getCell e1) rfl rfl
  have h3 := h2.closeL (get_set e) (m.st st)
  rw [set_set] at h3
  exact h3
end
end Ml
namespace Ml
open PySem L2
variable {G : Gx}
def Ev (te : TE) (σ : St) (H : Hp) (v : V) : Prop := ∀ Q : VK, Q v H → te σ H Q
def Et (t : TT) (σ : St) (H : Hp) (b : Bool) : Prop := ∀ Q : Bool → Hp → Prop, Q b H → t σ H Q
def Ea (t : TA) (σ : St) (H : Hp) (vs : List V) : Prop := ∀ Q : List V → Hp → Prop, Q vs H → t σ H Q
def Eo (t : TO) (σ : St) (H : Hp) (o : Option Int) : Prop := ∀ Q : Option Int → Hp → Prop, Q o H → t σ H Q
section
variable {σ : St} {H : Hp} {ta tb tc te : TE} {t u : TT} {x y v : V} {i j : Int} {a b : Bool} {s z : Str} {vs : List V}
theorem ev_var {k : Nat} (h : σ[k]? = some (some v)) : Ev (tVar k) σ H v := fun _ q => ⟨v, h, q⟩
theorem ev_c : Ev (tC v) σ H v := fun _ q => q
theorem ev_op {r : R2} (ha : Ev ta σ H x) (hb : Ev tb σ H y) (hr : ∀ Q : VK, Q v H → r x y H Q) : Ev (tOp r ta tb) σ H v := fun Q q => ha _ (hb _ (hr _ q))
theorem ev_un {r : V → Hp → VK → Prop} (ha : Ev ta σ H x) (hr : ∀ Q : VK, Q v H → r x H Q) : Ev (tUn r ta) σ H v := fun Q q => ha _ (hr _ q)
theorem r_I0 {g : Int → Int → V} (Q : VK) (q : Q (g i j) H) : rI0 g (.int i) (.int j) H Q := ⟨i, j, rfl, rfl, q⟩
theorem r_I {C : Int → Int → Prop} {g : Int → Int → V} (c : C i j) (Q : VK) (q : Q (g i j) H) : rI C g (.int i) (.int j) H Q := ⟨i, j, rfl, rfl, c, q⟩
theorem ev_i0 {g : Int → Int → V} (ha : Ev ta σ H (.int i)) (hb : Ev tb σ H (.int j)) : Ev (tOp (rI0 g) ta tb) σ H (g i j) := ev_op ha hb fun Q q => r_I0 Q q
theorem ev_i {C : Int → Int → Prop} {g : Int → Int → V} (ha : Ev ta σ H (.int i)) (hb : Ev tb σ H (.int j)) (c : C i j) : Ev (tOp (rI C g) ta tb) σ H (g i j) := ev_op ha hb fun Q q => r_I c Q q
theorem ev_mul (ha : Ev ta σ H (.int i)) (hb : Ev tb σ H (.int j)) (c : CMul i j) : Ev (tOp (rI CMul fun i j => .int (i * j)) ta tb) σ H (.int (i * j)) := ev_i ha hb c
theorem ev_fdiv (ha : Ev ta σ H (.int i)) (hb : Ev tb σ H (.int j)) (c : 0 < j ∧ j < 1073741824) : Ev (tOp (rI CDiv fun i j => .int (i / j)) ta tb) σ H (.int (i / j)) := ev_i ha hb c
theorem ev_mod (ha : Ev ta σ H (.int i)) (hb : Ev tb σ H (.int j)) (c : 0 < j) : Ev (tOp (rI (fun _ j => 0 < j) fun i j => .int (i % j)) ta tb) σ H (.int (i % j)) := ev_i ha hb c
theorem ev_add (ha : Ev ta σ H (.int i)) (hb : Ev tb σ H (.int j)) : Ev (tOp (rI0 fun i j => .int (i + j)) ta tb) σ H (.int (i + j)) := ev_i0 ha hb
theorem r_eqI (Q : VK) (q : Q (.bl (decide (i = j))) H) : rEq (.int i) (.int j) H Q := ⟨rfl, by
  have : decide (V.int i = V.int j) = decide (i = j) := by simp
  rw [this]; exact q⟩
theorem r_neI (Q : VK) (q : Q (.bl (!decide (i = j))) H) : rNe (.int i) (.int j) H Q := ⟨rfl, by
  have : decide (V.int i = V.int j) = decide (i = j) := by simp
  rw [this]; exact q⟩
theorem r_eqS (Q : VK) (q : Q (.bl (decide (s = z))) H) : rEq (.str s) (.str z) H Q := ⟨rfl, by
  have : decide (V.str s = V.str z) = decide (s = z) := by simp
  rw [this]; exact q⟩
theorem r_neB (Q : VK) (q : Q (.bl (!decide (a = b))) H) : rNe (.bl a) (.bl b) H Q := ⟨rfl, by
  have : decide (V.bl a = V.bl b) = decide (a = b) := by simp
  rw [this]; exact q⟩
theorem ev_eqI (ha : Ev ta σ H (.int i)) (hb : Ev tb σ H (.int j)) : Ev (tOp rEq ta tb) σ H (.bl (decide (i = j))) := ev_op ha hb fun Q q => r_eqI Q q
theorem ev_neI (ha : Ev ta σ H (.int i)) (hb : Ev tb σ H (.int j)) : Ev (tOp rNe ta tb) σ H (.bl (!decide (i = j))) := ev_op ha hb fun Q q => r_neI Q q
theorem ev_eqS (ha : Ev ta σ H (.str s)) (hb : Ev tb σ H (.str z)) : Ev (tOp rEq ta tb) σ H (.bl (decide (s = z))) := ev_op ha hb fun Q q => r_eqS Q q
theorem ev_neB (ha : Ev ta σ H (.bl a)) (hb : Ev tb σ H (.bl b)) : Ev (tOp rNe ta tb) σ H (.bl (!decide (a = b))) := ev_op ha hb fun Q q => r_neB Q q
def rCatS : R2 := fun x y H Q => ∃ i j, x = .str i ∧ y = .str j ∧ i.length + j.length ≤ sizeLine ∧ Q (.str (i ++ j)) H
theorem op_catS {X : Cx} : OpR X (binaryOp .Add) rCatS := op_add_str
theorem r_catS (c : s.length + z.length ≤ sizeLine) (Q : VK) (q : Q (.str (s ++ z)) H) : rCatS (.str s) (.str z) H Q := ⟨s, z, rfl, rfl, c, q⟩
theorem et_test (h : Ev te σ H (.bl b)) : Et (tTest te) σ H b := fun _ q => h _ ⟨b, rfl, q⟩
theorem et_B (h : Ev te σ H (.bl b)) : Et (tB te) σ H b := fun _ q => h _ ⟨b, rfl, q⟩
theorem et_not (h : Et t σ H a) : Et (tNot t) σ H (!a) := fun _ q => h _ q
theorem et_and (h1 : Et t σ H a) (h2 : a = true → Et u σ H b) : Et (tAnd t u) σ H (a && b) := fun Q q => h1 _ (by
  cases a with
  | true => exact h2 rfl _ q
  | false => exact q)
theorem et_or (h1 : Et t σ H a) (h2 : a = false → Et u σ H b) : Et (tOr t u) σ H (a || b) := fun Q q => h1 _ (by
  cases a with
  | true => exact q
  | false => exact h2 rfl _ q)
theorem ea_nil : Ea tNil σ H [] := fun _ q => q
theorem ea_cons {tr : TA} (h : Ev ta σ H x) (hr : Ea tr σ H vs) : Ea (tCons ta tr) σ H (x :: vs) := fun _ q => h _ (hr _ q)
theorem eo_no : Eo tNoPart σ H none := fun _ q => q
theorem eo_some (h : Ev te σ H (.int i)) : Eo (tPart te) σ H (some i) := fun _ q => h _ ⟨i, rfl, q⟩
theorem ev_cb {r : List V → Hp → VK → Prop} {tr : TA} (h : Ea tr σ H vs) (hr : ∀ Q : VK, Q v H → r vs H Q) : Ev (tCB r tr) σ H v := fun Q q => h _ (hr _ q)
variable {K : PySem.W.Frag} {α : Type}
theorem ev_ixSq {p : Addr} {ws : List V} (ha : Ev ta σ H (.ref p)) (hb : Ev tb σ H (.int i)) (hs : SqL K H p ws) (e : atI ws i = some v) : Ev (tOp (rIxL K) ta tb) σ H v := ev_op ha hb fun _ q => ⟨p, ws, i, v, rfl, rfl, hs, e, q⟩
theorem ev_ixS {c : Nat} (ha : Ev ta σ H (.str z)) (hb : Ev tb σ H (.int i)) (hl : z.length ≤ sizeLine) (e : atI z.cps.toList i = some c) : Ev (tOp rIxS ta tb) σ H (.str ⟨#[c]⟩) := ev_op ha hb fun _ q => ⟨z, i, c, rfl, rfl, hl, e, q⟩
def rLenSq (K : PySem.W.Frag) : List V → Hp → VK → Prop := fun xs H Q => ∃ p ys, xs = [.ref p] ∧ (SqL K H p ys ∨ SqT K H p ys) ∧ Q (.int ys.length) H
theorem call_lenSq {X : Cx} : CallR X (.builtin "len") (rLenSq X.K) := call_len_seq
theorem ev_lenL {p : Addr} {ws : List V} (ha : Ev ta σ H (.ref p)) (hs : SqL K H p ws) : Ev (tCB (rLenSq K) (tCons ta tNil)) σ H (.int ws.length) := ev_cb (ea_cons ha ea_nil) fun _ q => ⟨p, ws, rfl, .inl hs, q⟩
end
section
variable {σ σ' : St} {H : Hp} {te : TE} {t : TT} {D : Ends} {t1 t2 tb : TS} {v : V} {b : Bool}
theorem ev_to (h : Ev te σ H v) {Q : VK} (q : Q v H) : te σ H Q := h Q q
theorem ea_to {t : TA} {vs : List V} (h : Ea t σ H vs) {Q : List V → Hp → Prop} (q : Q vs H) : t σ H Q := h Q q
theorem eo_to {t : TO} {o : Option Int} (h : Eo t σ H o) {Q : Option Int → Hp → Prop} (q : Q o H) : t σ H Q := h Q q
theorem et_to (h : Et t σ H b) {Q : Bool → Hp → Prop} (q : Q b H) : t σ H Q := h Q q
end
section
variable {α β τ ρ : Type} {H : Hp} {σ : St} {D : Ends} {tb : TS} {g : TG} {K : PySem.W.Frag}
/-- a walk J over the items xs: at turn i it yields a v of which the i-th item holds -/
structure Wk (J : It) (I : St → Hp → Prop) (im : Hp → V → α → Prop) (xs : List α) : Prop where
  go : ∀ i σ H, I σ H → i < xs.length → J.go i H
  yl : ∀ i σ H v H' x, I σ H → xs[i]? = some x → J.yld i H v H' → I σ H' ∧ im H' v x
  sp : ∀ σ H, I σ H → J.stop xs.length H
/-- for .. in ..: the state s : τ, I s its place in slots and heap; each turn reckons f -/
theorem for_walk {J : It} {I : τ → St → Hp → Prop} {im : Hp → V → α → Prop} {xs : List α} {f : τ → α → R τ} {k : τ → Prop} {e : Exc → Prop} {s : τ}
    (w : ∀ s, Wk J (I s) im xs) (h0 : I s σ H) (hm : R.wp (forR f xs s) k e)
    (turn : ∀ (s : τ) (x : α) (v : V) (σ : St) (H : Hp) (q : τ → Prop) (N : St → Hp → Prop), I s σ H → im H v x → R.wp (f s x) q e → (∀ s' σ' H', q s' → I s' σ' H' → N σ' H') → g v σ H fun σ2 H2 => tb { D with nx := N, ct := N, bk := D.nx } σ2 H2)
    (done : ∀ s σ H, k s → I s σ H → D.nx σ H) :
    ∃ W : Nat → Nat → St → Hp → Prop, (∃ m, W 0 m σ H) ∧ ∀ i m σ H, W i m σ H →
      (J.stop i H ∧ D.nx σ H) ∨ (J.go i H ∧ ∃ N : St → Hp → Prop, (∀ σ' H', N σ' H' → ∃ m', m' < m ∧ W (i + 1) m' σ' H') ∧ ∀ x H', J.yld i H x H' → g x σ H' fun σ2 H2 => tb { D with nx := N, ct := N, bk := D.nx } σ2 H2) := by
  refine ⟨fun i m σ H => m = xs.length - i ∧ i ≤ xs.length ∧ ∃ s, I s σ H ∧ R.wp (forR f (xs.drop i) s) k e, ⟨xs.length, by simp, Nat.zero_le _, s, h0, by simpa using hm⟩, ?_⟩
  rintro i m σ H ⟨rfl, hi, s, hI, hw⟩
  by_cases c : i < xs.length
  · have ed : xs.drop i = xs[i] :: xs.drop (i + 1) := List.drop_eq_getElem_cons c
    rw [ed] at hw
    refine .inr ⟨(w s).go i σ H hI c, fun σ' H' => ∃ s', I s' σ' H' ∧ R.wp (forR f (xs.drop (i + 1)) s') k e, fun σ' H' ⟨s', h1, h2⟩ => ⟨xs.length - (i + 1), by omega, rfl, c, s', h1, h2⟩, fun v H' y => ?_⟩
    obtain ⟨hI', hv⟩ := (w s).yl i σ H v H' xs[i] hI (List.getElem?_eq_getElem c) y
    exact turn s xs[i] v σ H' _ _ hI' hv (R.wp_bind hw) fun s' σ' H'' q hI'' => ⟨s', hI'', q⟩
  · have ei : i = xs.length := by omega
    subst ei
    rw [List.drop_length] at hw
    exact .inl ⟨(w s).sp σ H hI, done s σ H hw hI⟩
/-- .. whose turns may leave it -/
theorem for_walkF {J : It} {I : τ → St → Hp → Prop} {im : Hp → V → α → Prop} {xs : List α} {f : τ → α → R (Fl τ ρ)} {k : Fl τ ρ → Prop} {e : Exc → Prop} {s : τ}
    (w : ∀ s, Wk J (I s) im xs) (h0 : I s σ H) (hm : R.wp (forF f xs s) k e)
    (turn : ∀ (s : τ) (x : α) (v : V) (σ : St) (H : Hp) (q : Fl τ ρ → Prop) (N B : St → Hp → Prop), I s σ H → im H v x → R.wp (f s x) q e → (∀ s' σ' H', q (.go s') → I s' σ' H' → N σ' H') → (∀ s' σ' H', q (.brk s') → I s' σ' H' → B σ' H') → (∀ r, q (.out r) → k (.out r)) →
      g v σ H fun σ2 H2 => tb { D with nx := N, ct := N, bk := B } σ2 H2)
    (done : ∀ s σ H, k (.go s) → I s σ H → D.nx σ H) :
    ∃ W : Nat → Nat → St → Hp → Prop, (∃ m, W 0 m σ H) ∧ ∀ i m σ H, W i m σ H →
      (J.stop i H ∧ D.nx σ H) ∨ (J.go i H ∧ ∃ N : St → Hp → Prop, (∀ σ' H', N σ' H' → ∃ m', m' < m ∧ W (i + 1) m' σ' H') ∧ ∀ x H', J.yld i H x H' → g x σ H' fun σ2 H2 => tb { D with nx := N, ct := N, bk := D.nx } σ2 H2) := by
  refine ⟨fun i m σ H => m = xs.length - i ∧ i ≤ xs.length ∧ ∃ s, I s σ H ∧ R.wp (forF f (xs.drop i) s) k e, ⟨xs.length, by simp, Nat.zero_le _, s, h0, by simpa using hm⟩, ?_⟩
  rintro i m σ H ⟨rfl, hi, s, hI, hw⟩
  by_cases c : i < xs.length
  · have ed : xs.drop i = xs[i] :: xs.drop (i + 1) := List.drop_eq_getElem_cons c
    rw [ed] at hw
    refine .inr ⟨(w s).go i σ H hI c, fun σ' H' => ∃ s', I s' σ' H' ∧ R.wp (forF f (xs.drop (i + 1)) s') k e, fun σ' H' ⟨s', h1, h2⟩ => ⟨xs.length - (i + 1), by omega, rfl, c, s', h1, h2⟩, fun v H' y => ?_⟩
    obtain ⟨hI', hv⟩ := (w s).yl i σ H v H' xs[i] hI (List.getElem?_eq_getElem c) y
    have hw' := R.wp_bind hw
    exact turn s xs[i] v σ H' _ _ _ hI' hv hw' (fun s' σ' H'' q hI'' => ⟨s', hI'', q⟩) (fun s' σ' H'' q hI'' => done s' σ' H'' q hI'') fun r q => q
  · have ei : i = xs.length := by omega
    subst ei
    rw [List.drop_length] at hw
    exact .inl ⟨(w s).sp σ H hI, done s σ H hw hI⟩
/-- a comprehension -/
theorem lc_walk {J : It} {I : Addr → τ → List β → Hp → Prop} {im : Hp → V → α → Prop} [Im G β] {xs : List α} {f : τ → α → R (τ × Option β)} {k : τ × List β → Prop} {e : Exc → Prop} {s : τ} {tt : TT} {te : TE} {vs : List Nat} {Q : VK} {Dr : Addr}
    (w : ∀ s ys, Wk J (fun _ H => I Dr s ys H) im xs) (h0 : I Dr s [] (upd H Dr (.lst []))) (hm : R.wp (compR f xs s) k e) (hl : xs.length ≤ sizeLine)
    (turn : ∀ (s : τ) (ys : List β) (x : α) (v : V) (H : Hp) (q : τ × Option β → Prop) (Nx : Hp → Prop), I Dr s ys H → im H v x → R.wp (f s x) q e → ys.length < sizeLine →
      (∀ s' y u H', q (s', some y) → Im.im G H' u y → I Dr s' ys H' → ∃ acc, H' Dr = some (.lst acc) ∧ acc.length < sizeLine ∧ Nx (upd H' Dr (.lst (acc ++ [u])))) → (∀ s' H', q (s', none) → I Dr s' ys H' → Nx H') →
      g v (wipe σ vs) H fun σ2 H2 => wipe σ2 vs = wipe σ vs ∧ tt σ2 H2 fun b H3 => if b = true then te σ2 H3 fun y H4 => ∃ acc, H4 Dr = some (.lst acc) ∧ acc.length < sizeLine ∧ Nx (upd H4 Dr (.lst (acc ++ [y]))) else Nx H3)
    (app : ∀ s ys y u H, I Dr s ys H → Im.im G H u y → ∃ acc, H Dr = some (.lst acc) ∧ acc.length = ys.length ∧ I Dr s (ys ++ [y]) (upd H Dr (.lst (acc ++ [u]))))
    (done : ∀ s ys H, k (s, ys) → I Dr s ys H → Q (.ref Dr) H) :
    ∃ W : Nat → Nat → Hp → Prop, (∃ m, W 0 m (upd H Dr (.lst []))) ∧ ∀ i m H, W i m H →
      (J.stop i H ∧ Q (.ref Dr) H) ∨ (J.go i H ∧ ∃ Nx : Hp → Prop, (∀ H', Nx H' → ∃ m', m' < m ∧ W (i + 1) m' H') ∧ ∀ x H', J.yld i H x H' → g x (wipe σ vs) H' fun σ2 H2 => wipe σ2 vs = wipe σ vs ∧ tt σ2 H2 fun b H3 =>
        if b = true then te σ2 H3 fun y H4 => ∃ acc, H4 Dr = some (.lst acc) ∧ acc.length < sizeLine ∧ Nx (upd H4 Dr (.lst (acc ++ [y]))) else Nx H3) := by
  refine ⟨fun i m H => m = xs.length - i ∧ i ≤ xs.length ∧ ∃ s ys, ys.length ≤ i ∧ I Dr s ys H ∧ R.wp (compR f (xs.drop i) s) (fun t => k (t.1, ys ++ t.2)) e, ⟨xs.length, by simp, Nat.zero_le _, s, [], Nat.le_refl _, h0, by simpa using hm⟩, ?_⟩
  rintro i m H ⟨rfl, hi, s, ys, hy, hI, hw⟩
  by_cases c : i < xs.length
  · have ed : xs.drop i = xs[i] :: xs.drop (i + 1) := List.drop_eq_getElem_cons c
    rw [ed] at hw
    refine .inr ⟨(w s ys).go i [] H hI c, fun H' => ∃ s' ys', ys'.length ≤ i + 1 ∧ I Dr s' ys' H' ∧ R.wp (compR f (xs.drop (i + 1)) s') (fun t => k (t.1, ys' ++ t.2)) e,
      fun H' ⟨s', ys', h0, h1, h2⟩ => ⟨xs.length - (i + 1), by omega, rfl, c, s', ys', h0, h1, h2⟩, fun v H' y => ?_⟩
    obtain ⟨hI', hv⟩ := (w s ys).yl i [] H v H' xs[i] hI (List.getElem?_eq_getElem c) y
    have hw' := R.wp_bind hw
    refine turn s ys xs[i] v H' _ _ hI' hv hw' (by omega) (fun s' y u H'' q hu hI'' => ?_) (fun s' H'' q hI'' => ?_)
    · have q' := R.wp_bind q
      obtain ⟨acc, ea, la, hI3⟩ := app s' ys y u H'' hI'' hu
      refine ⟨acc, ea, by omega, s', ys ++ [y], by simp; omega, hI3, ?_⟩
      refine R.wp_mono q' (fun t ht => ?_) fun _ z => z
      have ht' : k (t.1, ys ++ y :: t.2) := ht
      rw [List.append_assoc]; exact ht'
    · have q' := R.wp_bind q
      exact ⟨s', ys, by omega, hI'', R.wp_mono q' (fun t ht => ht) fun _ z => z⟩
  · have ei : i = xs.length := by omega
    subst ei
    rw [List.drop_length] at hw
    have hw : k (s, ys ++ []) := hw
    rw [List.append_nil] at hw
    exact .inl ⟨(w s ys).sp [] H hI, done s ys H hw hI⟩
end
end Ml
namespace Ml
open PySem L2
variable {G : Gx}
def idxR {α : Type} (xs : List α) (i : Int) : R α := match atI xs i with
  | some x => .ok x
  | none => .bad
theorem wp_idx {α ρ : Type} {xs : List α} {i : Int} {f : α → R ρ} {q : ρ → Prop} {e : Exc → Prop} (h : R.wp ((idxR xs i).bind f) q e) : ∃ x, atI xs i = some x ∧ R.wp (f x) q e := by
  unfold idxR at h
  cases c : atI xs i with
  | some x => rw [c] at h; exact ⟨x, rfl, h⟩
  | none => rw [c] at h; exact h.elim
theorem atI_map {α β : Type} {xs : List α} {f : α → β} {i : Int} {x : α} (h : atI xs i = some x) : atI (xs.map f) i = some (f x) := by
  unfold atI at h ⊢
  rw [List.length_map]
  cases e : ixN xs.length i with
  | none => rw [e] at h; cases h
  | some j =>
    rw [e] at h
    show (xs.map f)[j]? = some (f x)
    have h : xs[j]? = some x := h
    rw [List.getElem?_map, h]; rfl
theorem atI_im {α : Type} [Im G α] {H : Hp} {vs : List V} {xs : List α} {i : Int} {x : α} (m : imL (G := G) H vs xs) (h : atI xs i = some x) : ∃ v, atI vs i = some v ∧ Im.im G H v x := by
  unfold atI at h ⊢
  rw [m.len]
  cases e : ixN xs.length i with
  | none => rw [e] at h; cases h
  | some j =>
    rw [e] at h
    exact m.get h
theorem atI_ok {α : Type} {xs : List α} {i : Int} (h0 : 0 ≤ i) (h1 : i < xs.length) : ∃ x, xs[i.toNat]? = some x ∧ atI xs i = some x := by
  have hj : i.toNat < xs.length := by omega
  refine ⟨xs[i.toNat], List.getElem?_eq_getElem hj, ?_⟩
  unfold atI ixN
  rw [if_pos h0, if_pos h1]
  exact List.getElem?_eq_getElem hj
theorem idxR_ok {α : Type} {xs : List α} {i : Int} {x : α} (h0 : 0 ≤ i) (h1 : xs[i.toNat]? = some x) : idxR xs i = .ok x := by
  have hl : i.toNat < xs.length := (List.getElem?_eq_some_iff.mp h1).1
  obtain ⟨y, hy, h⟩ := atI_ok (xs := xs) h0 (by omega)
  rw [h1] at hy; cases hy
  unfold idxR; rw [h]
/-- one sign as a text -/
abbrev sg (c : Nat) : Str := ⟨#[c]⟩
def mulOk (i j : Int) : Prop := (-(2 ^ 64) < i ∧ i < 2 ^ 64) ∨ (-(2 ^ 64) < j ∧ j < 2 ^ 64)
instance (i j : Int) : Decidable (mulOk i j) := by unfold mulOk; infer_instance
def rngL (lo : Int) (n : Nat) : List Int := (List.range n).map fun (i : Nat) => lo + (i : Int)
theorem rngL_len (lo : Int) (n : Nat) : (rngL lo n).length = n := by simp [rngL]
theorem rngL_get {lo : Int} {n i : Nat} {x : Int} (h : (rngL lo n)[i]? = some x) : x = lo + (i : Int) ∧ i < n := by
  have hl : i < (rngL lo n).length := (List.getElem?_eq_some_iff.mp h).1
  rw [rngL_len] at hl
  unfold rngL at h
  rw [List.getElem?_map, List.getElem?_range hl] at h
  exact ⟨(Option.some.inj h).symm, hl⟩
section
variable {α τ : Type} {I : St → Hp → Prop} {K : PySem.W.Frag} {a : Addr}
theorem wk_list [Im G α] {xs : List α} (h : ∀ σ H, I σ H → ∃ vs, SqL K H a vs ∧ imL (G := G) H vs xs) : Wk (Itl K a) I (Im.im G) xs where
  go := fun i σ H hI hi => by
    obtain ⟨vs, s, m⟩ := h σ H hI
    have hl : i < vs.length := by rw [m.len]; exact hi
    exact ⟨vs, vs[i], s, List.getElem?_eq_getElem hl⟩
  yl := fun i σ H v H' x hI hx y => by
    obtain ⟨vs, s, m⟩ := h σ H hI
    obtain ⟨rfl, y⟩ := y
    obtain ⟨u, hu, im⟩ := m.get hx
    have e := y vs s
    rw [hu] at e; cases e
    exact ⟨hI, im⟩
  sp := fun σ H hI => by
    obtain ⟨vs, s, m⟩ := h σ H hI
    exact ⟨vs, s, by rw [m.len]; exact Nat.le_refl _⟩
theorem wk_range {lo : Int} {n : Nat} : Wk (Itr lo n) I (fun _ v (x : Int) => v = .int x) (rngL lo n) where
  go := fun i σ H _ hi => by rw [rngL_len] at hi; exact hi
  yl := fun i σ H v H' x hI hx y => by
    obtain ⟨rfl, y⟩ := y
    obtain ⟨e, _⟩ := rngL_get hx
    exact ⟨hI, by rw [y, e]⟩
  sp := fun σ H _ => by rw [rngL_len]; exact Nat.le_refl _
end
theorem Sep.sq {α : Type} [Im G α] {H : Hp} {L : List (Asn G)} (h : Sep H L) {i : Nat} {a : Addr} {xs : List α} (e : L[i]? = some (lstA a xs)) : ∃ vs, SqL G.K H a vs ∧ imL (G := G) H vs xs := by
  obtain ⟨vs, e, m⟩ := h.lst e
  exact ⟨vs, .inl (.inl e), m⟩
theorem Sep.sqF {α : Type} [Fv G α] {H : Hp} {L : List (Asn G)} (h : Sep H L) {i : Nat} {a : Addr} {xs : List α} (e : L[i]? = some (lstA a xs)) : SqL G.K H a (xs.map (Fv.enc G)) := by
  obtain ⟨vs, e, m⟩ := h.sq e
  rw [imL.flat.mp m] at e
  exact e
section
variable {σ σ' : St} {H : Hp} {L L' : List (Asn G)} {D : Ends} {Q : VK} {te ta tb : TE} {α β : Type}
theorem c_op {r : R2} (h : ta σ H fun x H1 => tb σ H1 fun y H2 => r x y H2 Q) : tOp r ta tb σ H Q := h
theorem c_cons {tr : TA} {P : List V → Hp → Prop} (h : ta σ H fun x H1 => tr σ H1 fun xs H2 => P (x :: xs) H2) : tCons ta tr σ H P := h
theorem c_nil {P : List V → Hp → Prop} (h : P [] H) : tNil σ H P := h
theorem c_call {sp : Sp} {dvs : List V} {E : XK} {t : TA} (h : t σ H fun vs H1 => sp (vs ++ dvs) H1 Q E) : tCall sp dvs E t σ H Q := h
theorem c_cb {r : List V → Hp → VK → Prop} {t : TA} (h : t σ H fun vs H1 => r vs H1 Q) : tCB r t σ H Q := h
theorem c_asg {i : Nat} (h : te σ H fun v H1 => D.nx (σ.set i (some v)) H1) : tAsg te (gName i) D σ H := h
theorem c_ret (h : te σ H D.rt) : tRet te D σ H := h
theorem c_drop (h : te σ H fun _ H1 => D.nx σ H1) : tDrop te D σ H := h
theorem c_set {i : Nat} {v : V} (e : σ.set i (some v) = σ') (h : D.nx σ' H) : D.nx (σ.set i (some v)) H := by rw [e]; exact h
/-- a new list of written items -/
def lstK (Q : VK) : List V → Hp → Prop := fun xs H1 => xs.length ≤ sizeLine ∧ ∀ p, H1 p = none → Q (.ref p) (upd H1 p (.lst xs))
def tupK (Q : VK) : List V → Hp → Prop := fun xs H1 => xs.length ≤ sizeLine ∧ ∀ p, H1 p = none → Q (.ref p) (upd H1 p (.tup xs))
theorem k_lst [Im G α] {vs : List V} {xs : List α} (hS : Sep H L) (m : imL (G := G) H vs xs) (z : vs.length ≤ sizeLine) (k : ∀ p H', Sep H' (lstA p xs :: L) → Q (.ref p) H') :
    lstK Q vs H := ⟨z, fun p hp => k p _ (hS.newL hp m)⟩
theorem c_lst {t : TA} (h : t σ H (lstK Q)) : tLst t σ H Q := h
theorem c_tup {t : TA} (h : t σ H (tupK Q)) : tTup t σ H Q := h
theorem c_bm {K : PySem.W.Frag} {T : String} {r : V → List V → Hp → VK → Prop} {to : TE} {t : TA} (h : to σ H fun x H1 => tyV K T x H1 ∧ t σ H1 fun xs H2 => r x xs H2 Q) : tBM K T r to t σ H Q := h
theorem tyL [Im G α] {i : Nat} {a : Addr} {xs : List α} (hS : Sep H L) (e : L[i]? = some (lstA a xs)) : tyV G.K "list" (.ref a) H := by
  obtain ⟨vs, h, _⟩ := hS.sq e
  exact .inl ⟨rfl, vs, h⟩
theorem k_append [Im G α] {i : Nat} {a : Addr} {xs : List α} {x : α} {v : V} (hS : Sep H L) (e : L[i]? = some (lstA a xs)) (hv : Im.im G H v x) (z : xs.length < sizeLine) (e2 : L.set i (lstA a (xs ++ [x])) = L')
    (k : ∀ H', Sep H' L' → Q .non H') : rAppend (.ref a) [v] H Q := by
  obtain ⟨vs, h, m⟩ := hS.lst e
  refine ⟨a, vs, v, rfl, rfl, h, by rw [m.len]; exact z, k _ ?_⟩
  subst e2
  exact hS.putL e (m.app (vs := vs) (ws := [v]) ⟨hv, True.intro⟩)
/-- xs[i] = v -/
theorem k_setL [Im G α] {n : Nat} {a : Addr} {xs : List α} {x : α} {v : V} {i : Int} {P : Hp → Prop} (hS : Sep H L) (e : L[n]? = some (lstA a xs)) (hv : Im.im G H v x) (j : Nat) (hj : ixN xs.length i = some j) (e2 : L.set n (lstA a (xs.set j x)) = L')
    (k : ∀ H', Sep H' L' → P H') : rSetL (.ref a) (.int i) v H P := by
  obtain ⟨vs, h, m⟩ := hS.lst e
  refine ⟨a, vs, i, j, rfl, rfl, h, by rw [m.len]; exact hj, k _ ?_⟩
  subst e2
  exact hS.putL e (m.set hv)
def cutL (xs : List α) (lo hi : Option Int) : List α := (xs.drop (HT.sIx xs.length 0 lo)).take (HT.sIx xs.length xs.length hi - HT.sIx xs.length 0 lo)
theorem cutL_im [Im G α] {vs : List V} {xs : List α} {lo hi : Option Int} (m : imL (G := G) H vs xs) : imL (G := G) H (cutV vs lo hi) (cutL xs lo hi) := by
  unfold cutV cutL
  rw [m.len]
  exact (m.drop _).take _
theorem c_sl {r : V → Option Int → Option Int → Hp → VK → Prop} {tl th : TO} (h : te σ H fun x H1 => tl σ H1 fun l H2 => th σ H2 fun u H3 => r x l u H3 Q) : tSl r te tl th σ H Q := h
def rListSq (K : PySem.W.Frag) : List V → Hp → VK → Prop := fun xs H Q => ∃ p ys, xs = [.ref p] ∧ (SqL K H p ys ∨ SqT K H p ys) ∧ ∀ l, H l = none → Q (.ref l) (upd H l (.lst ys))
theorem call_listSq {X : Cx} : CallR X (.type "list") (rListSq X.K) := call_list_of
/-- sep.join(xs) -/
def rJoin (K : PySem.W.Frag) : V → List V → Hp → VK → Prop := fun x xs H Q => ∃ a p, ∃ ys : List Str, x = .str a ∧ xs = [.ref p] ∧ (SqL K H p (ys.map V.str) ∨ SqT K H p (ys.map V.str)) ∧ (ys.map (·.length)).sum + ys.length * a.length ≤ 16777216 ∧ Q (.str (Txt.join a ys)) H
theorem c_m1 {r : V → List V → Hp → VK → Prop} {to : TE} {a : Str} (h1 : Ev to σ H (.str a)) (h : te σ H fun y H2 => r (.str a) [y] H2 Q) : tM1 r to te σ H Q := h1 _ ⟨⟨a, rfl⟩, h⟩
end
end Ml
namespace Ml
open PySem L2
variable {G : Gx}
section
variable {κ β : Type} [DecidableEq κ]
def dget (kvs : List (κ × β)) (k : κ) : Option β := (kvs.find? fun kv => decide (kv.1 = k)).map (·.2)
def dput (kvs : List (κ × β)) (k : κ) (v : β) : List (κ × β) :=
  if (kvs.any fun kv => decide (kv.1 = k)) = true then kvs.map (fun kv => if kv.1 = k then (kv.1, v) else kv) else kvs ++ [(k, v)]
def ddrop (kvs : List (κ × β)) (k : κ) : List (κ × β) := kvs.filter fun kv => decide (kv.1 ≠ k)
def dhas (kvs : List (κ × β)) (k : κ) : Bool := (dget kvs k).isSome
end
class Kx (κ : Type) where
  key : κ → Key
  inj : ∀ {a b : κ}, key a = key b → a = b
instance : Kx Int := ⟨Sum.inl, fun h => Sum.inl.inj h⟩
instance : Kx Str := ⟨Sum.inr, fun h => Sum.inr.inj h⟩
section
variable {κ β : Type} [DecidableEq κ] [Kx κ] [Im G β]
def imD (H : Hp) : List (Key × V) → List (κ × β) → Prop
  | [], [] => True
  | p :: ps, q :: qs => (p.1 = Kx.key q.1 ∧ Im.im G H p.2 q.2) ∧ imD H ps qs
  | _, _ => False
variable {H H' : Hp}
theorem imD.st : ∀ {ps : List (Key × V)} {qs : List (κ × β)}, imD (G := G) H ps qs → Stab G H H' → imD (G := G) H' ps qs
  | [], [], _, _ => True.intro
  | p :: ps, q :: qs, h, s => ⟨⟨h.1.1, Im.st h.1.2 s⟩, imD.st h.2 s⟩
  | [], _ :: _, h, _ => h
  | _ :: _, [], h, _ => h
theorem imD.len : ∀ {ps : List (Key × V)} {qs : List (κ × β)}, imD (G := G) H ps qs → ps.length = qs.length
  | [], [], _ => rfl
  | p :: ps, q :: qs, h => by rw [List.length_cons, List.length_cons, imD.len h.2]
  | [], _ :: _, h => h.elim
  | _ :: _, [], h => h.elim
theorem key_dec (a b : κ) : decide (Kx.key a = Kx.key b) = decide (a = b) := by
  by_cases h : a = b
  · subst h; simp
  · have : ¬ Kx.key a = Kx.key b := fun e => h (Kx.inj e)
    simp [h, this]
theorem imD.val : ∀ {ps : List (Key × V)} {qs : List (κ × β)} (k : κ), imD (G := G) H ps qs → (∀ y, dget qs k = some y → ∃ v, valV ps (Kx.key k) = some v ∧ Im.im G H v y) ∧ (dget qs k = none → valV ps (Kx.key k) = none)
  | [], [], _, _ => ⟨fun y e => (by cases (show (none : Option β) = some y from e)), fun _ => rfl⟩
  | p :: ps, q :: qs, k, ⟨⟨e1, e2⟩, h⟩ => by
    have ih := imD.val k h
    by_cases c : q.1 = k
    · have c1 : p.1 = Kx.key k := by rw [e1, c]
      have d : dget (q :: qs) k = some q.2 := by simp [dget, List.find?_cons, c]
      rw [d, valV_pos c1]
      exact ⟨fun y e => ⟨p.2, rfl, by cases e; exact e2⟩, fun e => by cases e⟩
    · have c1 : ¬ p.1 = Kx.key k := fun z => c (Kx.inj (e1.symm.trans z))
      have d : dget (q :: qs) k = dget qs k := by simp [dget, List.find?_cons, c]
      rw [d, valV_neg c1]
      exact ih
  | [], _ :: _, _, h => h.elim
  | _ :: _, [], _, h => h.elim
theorem imD.any : ∀ {ps : List (Key × V)} {qs : List (κ × β)} (k : κ), imD (G := G) H ps qs → (ps.any fun kv => decide (kv.1 = Kx.key k)) = qs.any fun kv => decide (kv.1 = k)
  | [], [], _, _ => rfl
  | p :: ps, q :: qs, k, ⟨⟨e1, e2⟩, h⟩ => by
    rw [List.any_cons, List.any_cons, imD.any k h, e1, key_dec]
  | [], _ :: _, _, h => h.elim
  | _ :: _, [], _, h => h.elim
theorem imD.app : ∀ {ps rs : List (Key × V)} {qs ts : List (κ × β)}, imD (G := G) H ps qs → imD (G := G) H rs ts → imD (G := G) H (ps ++ rs) (qs ++ ts)
  | [], _, [], _, _, h => h
  | _ :: _, _, _ :: _, _, h, k => ⟨h.1, imD.app h.2 k⟩
  | [], _, _ :: _, _, h, _ => h.elim
  | _ :: _, _, [], _, h, _ => h.elim
theorem imD.rep : ∀ {ps : List (Key × V)} {qs : List (κ × β)} {k : κ} {v : V} {y : β}, imD (G := G) H ps qs → Im.im G H v y →
    imD (G := G) H (ps.map fun kv => if kv.1 = Kx.key k then (kv.1, v) else kv) (qs.map fun kv => if kv.1 = k then (kv.1, y) else kv)
  | [], [], _, _, _, _, _ => True.intro
  | p :: ps, q :: qs, k, v, y, ⟨⟨e1, e2⟩, h⟩, hv => by
    refine ⟨?_, imD.rep h hv⟩
    show (if p.1 = Kx.key k then (p.1, v) else p).1 = Kx.key (if q.1 = k then (q.1, y) else q).1 ∧ Im.im G H (if p.1 = Kx.key k then (p.1, v) else p).2 (if q.1 = k then (q.1, y) else q).2
    by_cases c : q.1 = k
    · have c1 : p.1 = Kx.key k := by rw [e1, c]
      rw [if_pos c, if_pos c1]; exact ⟨e1, hv⟩
    · have c1 : ¬ p.1 = Kx.key k := fun z => c (Kx.inj (e1.symm.trans z))
      rw [if_neg c, if_neg c1]; exact ⟨e1, e2⟩
  | [], _ :: _, _, _, _, h, _ => h.elim
  | _ :: _, [], _, _, _, h, _ => h.elim
theorem imD.put {ps : List (Key × V)} {qs : List (κ × β)} {k : κ} {v : V} {y : β} (h : imD (G := G) H ps qs) (hv : Im.im G H v y) : imD (G := G) H (putK ps (Kx.key k) v) (dput qs k y) := by
  unfold putK dput
  rw [h.any k]
  split
  · exact h.rep hv
  · exact h.app (rs := [(Kx.key k, v)]) (ts := [(k, y)]) ⟨⟨rfl, hv⟩, True.intro⟩
theorem imD.drop : ∀ {ps : List (Key × V)} {qs : List (κ × β)} (k : κ), imD (G := G) H ps qs → imD (G := G) H (dropK ps (Kx.key k)) (ddrop qs k)
  | [], [], _, _ => True.intro
  | p :: ps, q :: qs, k, ⟨⟨e1, e2⟩, h⟩ => by
    have ih := imD.drop k h
    unfold dropK ddrop at ih ⊢
    rw [List.filter_cons, List.filter_cons]
    by_cases c : q.1 = k
    · have c1 : p.1 = Kx.key k := by rw [e1, c]
      simp only [c, c1, ne_eq, not_true_eq_false, decide_false, Bool.false_eq_true, if_false]
      exact ih
    · have c1 : ¬ p.1 = Kx.key k := fun z => c (Kx.inj (e1.symm.trans z))
      simp only [c, c1, ne_eq, not_false_eq_true, decide_true, if_true]
      exact ⟨⟨e1, e2⟩, ih⟩
  | [], _ :: _, _, h => h.elim
  | _ :: _, [], _, h => h.elim
theorem imD.keys : ∀ {ps : List (Key × V)} {qs : List (κ × β)}, imD (G := G) H ps qs → ps.map (·.1) = qs.map fun q => Kx.key q.1
  | [], [], _ => rfl
  | p :: ps, q :: qs, h => by rw [List.map_cons, List.map_cons, imD.keys h.2, h.1.1]
  | [], _ :: _, h => h.elim
  | _ :: _, [], h => h.elim
def dictA (a : Addr) (kvs : List (κ × β)) : Asn G := ⟨fun H fp => fp = [a] ∧ ∃ ps, H a = some (.dK ps) ∧ imD (G := G) H ps kvs,
  fun H H' fp ⟨e, ps, h, m⟩ k s => ⟨e, ps, by rw [k a (by rw [e]; simp)]; exact h, m.st s⟩⟩
variable {L L' : List (Asn G)}
theorem Sep.dict (h : Sep H L) {i : Nat} {a : Addr} {kvs : List (κ × β)} (e : L[i]? = some (dictA a kvs)) : ∃ ps, H a = some (.dK ps) ∧ imD (G := G) H ps kvs := by
  obtain ⟨fp, _, x⟩ := h.at e
  exact x
theorem Sep.newD (h : Sep H L) {p : Addr} (hp : H p = none) : Sep (upd H p (.dK [])) (dictA p ([] : List (κ × β)) :: L) :=
  (h.new (o := .dK []) hp rfl).view fun fp ⟨q, r⟩ => ⟨q, [], r, True.intro⟩
theorem Sep.putD (h : Sep H L) {i : Nat} {a : Addr} {xs ys : List (κ × β)} {ps : List (Key × V)} (e : L[i]? = some (dictA a xs)) (m : imD (G := G) H ps ys) : Sep (upd H a (.dK ps)) (L.set i (dictA a ys)) := by
  obtain ⟨us, e0, mu⟩ := h.dict e
  have h1 : Sep H (L.set i (cell a (.dK us))) := h.viewAt e fun fp ⟨q, _⟩ => ⟨q, e0⟩
  have e1 := get_set (y := cell (G := G) a (.dK us)) e
  have h2 := h1.put (o' := .dK ps) e1 rfl rfl
  rw [set_set] at h2
  have st : Stab G H (upd H a (.dK ps)) := stab_put (h1.getCell e1) rfl rfl
  have h3 := h2.viewAt (B := dictA a ys) (get_set e) fun fp ⟨q, r⟩ => ⟨q, ps, r, m.st st⟩
  rw [set_set] at h3
  exact h3
variable {σ : St} {Q : VK} {td ty tx : TE} {k : κ} {a : Addr} {xs : List (κ × β)} {i : Nat}
theorem k_dnew (hS : Sep H L) (q : ∀ p H', Sep H' (dictA p ([] : List (κ × β)) :: L) → Q (.ref p) H') : tDNewK σ H Q := fun p hp => q p _ (hS.newD hp)
theorem dget_at (hS : Sep H L) (e : L[i]? = some (dictA a xs)) {o : Option β} (ho : dget xs k = o) : ∃ r, DGet H a (kV (Kx.key k)) r ∧ (∀ y, o = some y → ∃ v, r = some v ∧ Im.im G H v y) ∧ (o = none → r = none) := by
  obtain ⟨ps, h, m⟩ := hS.dict e
  obtain ⟨v1, v2⟩ := m.val k
  exact ⟨_, DGet.k h, fun y q => v1 y (ho.trans q), fun q => v2 (ho.trans q)⟩
theorem ev_din (hS : Sep H L) (e : L[i]? = some (dictA a xs)) (hy : Ev ty σ H (kV (Kx.key k))) (hd : Ev td σ H (.ref a)) : Ev (tDIn ty td) σ H (.bl (dhas xs k)) := fun Q q => hy _ (hd _ (by
  obtain ⟨r, g, h1, h2⟩ := dget_at hS e (k := k) rfl
  refine ⟨a, r, rfl, g, ?_⟩
  have : r.isSome = dhas xs k := by
    unfold dhas
    cases c : dget xs k with
    | none => rw [h2 c]; rfl
    | some y => obtain ⟨v, e, _⟩ := h1 y c; rw [e]; rfl
  rw [this]; exact q))
theorem ev_dnotin (hS : Sep H L) (e : L[i]? = some (dictA a xs)) (hy : Ev ty σ H (kV (Kx.key k))) (hd : Ev td σ H (.ref a)) : Ev (tDNotIn ty td) σ H (.bl (!dhas xs k)) := fun Q q => hy _ (hd _ (by
  obtain ⟨r, g, h1, h2⟩ := dget_at hS e (k := k) rfl
  refine ⟨a, r, rfl, g, ?_⟩
  have : r.isSome = dhas xs k := by
    unfold dhas
    cases c : dget xs k with
    | none => rw [h2 c]; rfl
    | some y => obtain ⟨v, e, _⟩ := h1 y c; rw [e]; rfl
  rw [this]; exact q))
theorem isD_of (hS : Sep H L) (e : L[i]? = some (dictA a xs)) : IsD H a := by
  obtain ⟨ps, h, _⟩ := hS.dict e
  exact .inl ⟨ps, .inl h⟩
end
class Lay (α : Type) where
  lay : α → Bool
instance : Lay Int := ⟨fun _ => true⟩
instance : Lay Bool := ⟨fun _ => true⟩
instance : Lay Str := ⟨fun x => PyData.strOk x⟩
def layAllB {α : Type} [Lay α] (xs : List α) : Bool := xs.all Lay.lay
class Pd (G : Gx) (α : Type) [Im G α] [DecidableEq α] [Lay α] where
  pd : α → PyData
  dep : Nat
  dp : ∀ {H : Hp} {v : V} {x : α}, Im.im G H v x → Dp G.K H v (pd x)
  lay_ok : ∀ x, Lay.lay x = true → (pd x).canLay0 = true
  dep_ok : ∀ x, (pd x).depth ≤ dep
  eqv : ∀ x y, PyData.eqv (pd x) (pd y) = decide (x = y)
instance pInt : Pd G Int where
  pd := .int
  dep := 0
  dp := fun {H v x} h => by
    have h : v = .int x := h
    subst h; exact .int x
  lay_ok := fun _ _ => rfl
  dep_ok := fun _ => Nat.le_refl _
  eqv := fun x y => by
    show (x == y) = decide (x = y)
    rfl
instance pBool : Pd G Bool where
  pd := .bool
  dep := 0
  dp := fun {H v x} h => by
    have h : v = .bl x := h
    subst h; exact .bl x
  lay_ok := fun _ _ => rfl
  dep_ok := fun _ => Nat.le_refl _
  eqv := fun x y => by cases x <;> cases y <;> rfl
theorem str_beq (x y : Str) : (x == y) = decide (x = y) := by
  by_cases h : x = y
  · subst h; simp
  · simp [h]
instance pStr : Pd G Str where
  pd := .str
  dep := 0
  dp := fun {H v x} h => by
    have h : v = .str x := h
    subst h; exact .str x
  lay_ok := fun _ h => h
  dep_ok := fun _ => Nat.le_refl _
  eqv := fun x y => str_beq x y
section
variable {α : Type} [Im G α] [DecidableEq α] [Lay α] [Pd G α] {H : Hp} {L : List (Asn G)}
theorem dpAll : ∀ {vs : List V} {xs : List α}, imL (G := G) H vs xs → DpAll G.K H vs (xs.map (Pd.pd G))
  | [], [], _ => .nil
  | v :: vs, x :: xs, h => .cons (Pd.dp h.1) (dpAll h.2)
  | [], _ :: _, h => h.elim
  | _ :: _, [], h => h.elim
theorem layAll : ∀ {xs : List α}, layAllB xs = true → PyData.canLayAll0 (xs.map (Pd.pd G)) = true
  | [], _ => rfl
  | x :: xs, h => by
    unfold layAllB at h
    rw [List.all_cons, Bool.and_eq_true] at h
    show ((Pd.pd G x).canLay0 && PyData.canLayAll0 (xs.map (Pd.pd G))) = true
    rw [Pd.lay_ok x h.1, layAll h.2]; rfl
theorem depAll : ∀ (xs : List α), PyData.depthAll (xs.map (Pd.pd G)) ≤ Pd.dep G α
  | [] => Nat.zero_le _
  | x :: xs => by
    show max (Pd.pd G x).depth (PyData.depthAll (xs.map (Pd.pd G))) ≤ _
    exact Nat.max_le.mpr ⟨Pd.dep_ok x, depAll xs⟩
theorem eqvAll_is : ∀ (xs ys : List α), PyData.eqvAll (xs.map (Pd.pd G)) (ys.map (Pd.pd G)) = decide (xs = ys)
  | [], [] => rfl
  | x :: xs, y :: ys => by
    show (PyData.eqv (Pd.pd G x) (Pd.pd G y) && PyData.eqvAll (xs.map (Pd.pd G)) (ys.map (Pd.pd G))) = _
    rw [Pd.eqv, eqvAll_is xs ys]
    simp
  | [], _ :: _ => rfl
  | _ :: _, [] => rfl
variable {a b : Addr} {xs ys : List α} {i j : Nat} {σ : St} {ta tb : TE}
end
end Ml
namespace Ml
open PySem L2
variable {G : Gx}
section
variable {σ σ' : St} {H : Hp} {L L' M : List (Asn G)} {D : Ends} {Q : VK} {te : TE} {tt : TT} {tb : TS} {α β τ ρ : Type} {i : Nat} {v : V} {vs : List Nat}
theorem c_gN {P : St → Hp → Prop} (e : σ.set i (some v) = σ') (h : P σ' H) : gName i v σ H P := by
  show P (σ.set i (some v)) H
  rw [e]; exact h
theorem c_gLc {P : Bool → Hp → Prop} (e : (wipe σ vs).set i (some v) = σ') (hw : wipe σ' vs = wipe σ vs) (h : tt σ' H P) : gName i v (wipe σ vs) H fun σ2 H2 => wipe σ2 vs = wipe σ vs ∧ tt σ2 H2 P := by
  show wipe ((wipe σ vs).set i (some v)) vs = wipe σ vs ∧ tt ((wipe σ vs).set i (some v)) H P
  rw [e]; exact ⟨hw, h⟩
theorem c_yes {A B : Hp → Prop} (h : A H) : tYes σ H fun b H3 => if b = true then A H3 else B H3 := h
theorem lc_app [Im G β] {Dr : Addr} {ys : List β} {y : β} {u : V} (hS : Sep H (lstA Dr ys :: M)) (hu : Im.im G H u y) : ∃ acc, H Dr = some (.lst acc) ∧ acc.length = ys.length ∧ Sep (upd H Dr (.lst (acc ++ [u]))) (lstA Dr (ys ++ [y]) :: M) := by
  obtain ⟨acc, h, m⟩ := hS.lst (i := 0) rfl
  exact ⟨acc, h, m.len, hS.putL (i := 0) rfl (m.app (vs := acc) (ws := [u]) ⟨hu, True.intro⟩)⟩
theorem st_nx (h : D.nx σ H) : tNext D σ H := h
def sq (t : TS) (D : Ends) : Ends := { D with nx := t D }
theorem f_seq {t1 t2 : TS} (h : t1 (sq t2 D) σ H) : tSeq t1 t2 D σ H := h
theorem sq_nx {t2 : TS} (h : t2 D σ H) : (sq t2 D).nx σ H := h
def forK (g : TG) (tb : TS) (D : Ends) (σ : L2.St) : It → Hp → Prop := fun J H1 => ∃ W : Nat → Nat → L2.St → Hp → Prop, (∃ m, W 0 m σ H1) ∧ ∀ i m σ H, W i m σ H →
  (J.stop i H ∧ D.nx σ H) ∨ (J.go i H ∧ ∃ N : L2.St → Hp → Prop, (∀ σ' H', N σ' H' → ∃ m', m' < m ∧ W (i + 1) m' σ' H') ∧ ∀ x H', J.yld i H x H' → g x σ H' fun σ2 H2 => tb { D with nx := N, ct := N, bk := D.nx } σ2 H2)
def loopD (D : Ends) (N B : L2.St → Hp → Prop) : Ends := { D with nx := N, ct := N, bk := B }
theorem c_for {wi : TI} {g : TG} (h : wi σ H (forK g tb D σ)) : tFor wi g tb D σ H := h
def lcK (g : TG) (tt : TT) (te : TE) (vs : List Nat) (σ : L2.St) (Q : VK) : It → Hp → Prop := fun J H1 => ∀ D, H1 D = none → ∃ W : Nat → Nat → Hp → Prop, (∃ m, W 0 m (upd H1 D (.lst []))) ∧ ∀ i m H, W i m H →
  (J.stop i H ∧ Q (.ref D) H) ∨ (J.go i H ∧ ∃ Nx : Hp → Prop, (∀ H', Nx H' → ∃ m', m' < m ∧ W (i + 1) m' H') ∧ ∀ x H', J.yld i H x H' → g x (wipe σ vs) H' fun σ2 H2 => wipe σ2 vs = wipe σ vs ∧ tt σ2 H2 fun b H3 =>
    if b = true then te σ2 H3 fun y H4 => ∃ acc, H4 D = some (.lst acc) ∧ acc.length < sizeLine ∧ Nx (upd H4 D (.lst (acc ++ [y]))) else Nx H3)
theorem c_lc {wi : TI} {g : TG} (h : wi σ H (lcK g tt te vs σ Q)) : tLc wi g tt te vs σ H Q := h
def rng1K (R : It → Hp → Prop) : List V → Hp → Prop := fun vs H1 => ∃ j : Int, vs = [.int j] ∧ -(2 ^ 62) ≤ j ∧ j < 2 ^ 62 ∧ R (Itr 0 j.toNat) H1
def ilK (K : PySem.W.Frag) (R : It → Hp → Prop) : VK := fun x H1 => ∃ a, x = .ref a ∧ (∃ xs, SqL K H1 a xs) ∧ R (Itl K a) H1
theorem c_rng1 {ta : TA} {R : It → Hp → Prop} (h : ta σ H (rng1K R)) : iRng1 ta σ H R := h
theorem c_il {K : PySem.W.Frag} {R : It → Hp → Prop} (h : te σ H (ilK K R)) : iList K te σ H R := h
theorem k_rng1 {R : It → Hp → Prop} {j : Int} (h1 : -(2 ^ 62) ≤ j) (h2 : j < 2 ^ 62) (h : R (Itr 0 j.toNat) H) : rng1K R [.int j] H := ⟨j, rfl, h1, h2, h⟩
theorem k_il [Im G α] {a : Addr} {xs : List α} {R : It → Hp → Prop} (hS : Sep H L) (e : L[i]? = some (lstA a xs)) (h : R (Itl G.K a) H) : ilK G.K R (.ref a) H := by
  obtain ⟨vs, s, _⟩ := hS.sq e
  exact ⟨a, rfl, ⟨vs, s⟩, h⟩
/-- for .. in .. -/
theorem k_for {J : It} {g : TG} {im : Hp → V → α → Prop} {xs : List α} {f : τ → α → R τ} {rest : τ → R ρ} {q : ρ → Prop} {e : Exc → Prop} {s : τ} (I : τ → L2.St → Hp → Prop)
    (w : ∀ s, Wk J (I s) im xs) (h0 : I s σ H) (hm : R.wp ((forR f xs s).bind rest) q e)
    (turn : ∀ (s : τ) (x : α) (v : V) (σ : L2.St) (H : Hp) (q : τ → Prop) (N : L2.St → Hp → Prop), I s σ H → im H v x → R.wp (f s x) q e → (∀ s' σ' H', q s' → I s' σ' H' → N σ' H') → g v σ H fun σ2 H2 => tb (loopD D N D.nx) σ2 H2)
    (done : ∀ s σ H, R.wp (rest s) q e → I s σ H → D.nx σ H) : forK g tb D σ J H :=
  for_walk (I := I) w h0 (R.wp_bind hm) turn done
/-- a comprehension over owned things -/
theorem lc_sep [Im G β] {J : It} {im : Hp → V → α → Prop} {xs : List α} {f : τ → α → R (τ × Option β)} {rest : τ × List β → R ρ} {q : ρ → Prop} {e : Exc → Prop} {s : τ} (M : τ → List (Asn G))
    (hS : Sep H (M s)) (w : ∀ (Dr : Addr) (s : τ) (ys : List β), Wk J (fun (_ : St) H => Sep H (lstA Dr ys :: M s)) im xs) (hl : xs.length ≤ sizeLine) (hm : R.wp ((compR f xs s).bind rest) q e)
    (turn : ∀ (Dr : Addr) (s : τ) (ys : List β) (x : α) (v : V) (H : Hp) (q : τ × Option β → Prop) (Nx : Hp → Prop), Sep H (lstA Dr ys :: M s) → im H v x → R.wp (f s x) q e →
      (∀ s' y u H', q (s', some y) → Im.im G H' u y → Sep H' (lstA Dr ys :: M s') → ∃ acc, H' Dr = some (.lst acc) ∧ acc.length < sizeLine ∧ Nx (upd H' Dr (.lst (acc ++ [u])))) → (∀ s' H', q (s', none) → Sep H' (lstA Dr ys :: M s') → Nx H') →
      gName i v (wipe σ vs) H fun σ2 H2 => wipe σ2 vs = wipe σ vs ∧ tt σ2 H2 fun b H3 => if b = true then te σ2 H3 fun y H4 => ∃ acc, H4 Dr = some (.lst acc) ∧ acc.length < sizeLine ∧ Nx (upd H4 Dr (.lst (acc ++ [y]))) else Nx H3)
    (done : ∀ (Dr : Addr) (t : τ × List β) H, R.wp (rest t) q e → Sep H (lstA Dr t.2 :: M t.1) → Q (.ref Dr) H) :
    lcK (gName i) tt te vs σ Q J H := fun Dr hD =>
  lc_walk (G := G) (I := fun Dr s ys H => Sep H (lstA Dr ys :: M s)) (im := im) (xs := xs) (f := f) (k := fun t => R.wp (rest t) q e) (e := e) (s := s) (w Dr)
    (hS.newL (vs := []) (xs := ([] : List β)) hD True.intro) (R.wp_bind hm) hl
    (fun s ys x v H q Nx hI hv hw _ k1 k2 => turn Dr s ys x v H q Nx hI hv hw k1 k2)
    (fun s ys y u H hI hu => lc_app hI hu)
    (fun s ys H hk hI => done Dr (s, ys) H hk hI)
theorem c_asgS {to ti : TE} {t : TSet} (h : te σ H fun v H1 => to σ H1 fun o H2 => ti σ H2 fun j H3 => t o j v H3 fun H4 => D.nx σ H4) : tAsg te (gSub to ti t) D σ H := h
theorem mt_joinS {X : Cx} : MtR X "str.join" (rJoin X.K) := mt_join
theorem m2 {X : Cx} {o : Expr} {m : Str} {apos : Pos} {e f : Expr} {cpos : Pos} (base : attributeBase o m X.env (eval o X.env) = eval o X.env := by rfl)
  (few : ((backTo cpos (starEach [e, f] X.env)).all (fun x => !x.1) && (backToKw cpos (keywordEach [] X.env)).all (fun x => x.1.isSome)
    && decide (([e, f] : List Expr).length + ([] : List Keyword).length + (if ([] : List Keyword).isEmpty then 0 else 1) < 30)) = true := by rfl)
  (line : (apos.endLine == cpos.line) = true := by rfl) (trees : backTo cpos (starEach [e, f] X.env) = [(false, eval e X.env), (false, eval f X.env)] := by rfl) : M2 X o m apos e f cpos := ⟨base, few, line, trees⟩
def ixR {α : Type} (xs : List α) (i : Int) : R Nat := match ixN xs.length i with
  | some j => .ok j
  | none => .bad
theorem wp_ix {xs : List α} {i : Int} {f : Nat → R ρ} {q : ρ → Prop} {e : Exc → Prop} (h : R.wp ((ixR xs i).bind f) q e) : ∃ j, ixN xs.length i = some j ∧ R.wp (f j) q e := by
  unfold ixR at h
  cases c : ixN xs.length i with
  | some x => rw [c] at h; exact ⟨x, rfl, h⟩
  | none => rw [c] at h; exact h.elim
theorem r_ixSq {K : PySem.W.Frag} {p : Addr} {ws : List V} {i : Int} (hs : SqL K H p ws) (e : atI ws i = some v) (Q : VK) (q : Q v H) : rIxL K (.ref p) (.int i) H Q := ⟨p, ws, i, v, rfl, rfl, hs, e, q⟩
theorem ev_lenLm {K : PySem.W.Frag} {ta : TE} {p : Addr} {xs : List α} {f : α → V} (ha : Ev ta σ H (.ref p)) (hs : SqL K H p (xs.map f)) : Ev (tCB (rLenSq K) (tCons ta tNil)) σ H (.int xs.length) := by
  have := ev_lenL ha hs
  rw [List.length_map] at this
  exact this
end
end Ml
namespace Ml
open PySem L2
variable {G : Gx}
def andK (u : TT) (σ : St) (P : Bool → Hp → Prop) : Bool → Hp → Prop := fun c H => if c = true then u σ H P else P false H
def orK (u : TT) (σ : St) (P : Bool → Hp → Prop) : Bool → Hp → Prop := fun c H => if c = true then P true H else u σ H P
def notK (P : Bool → Hp → Prop) : Bool → Hp → Prop := fun c H => P (!c) H
def ifK (t1 t2 : TS) (D : Ends) (σ : St) : Bool → Hp → Prop := fun c H => if c = true then t1 D σ H else t2 D σ H
/-- a value that is a Bool -/
def blK (P : Bool → Hp → Prop) : VK := fun x H => ∃ k, x = .bl k ∧ P k H
def andVK (tb : TE) (σ : St) (Q : VK) : VK := fun x H => ∃ c, x = .bl c ∧ if c = true then tb σ H Q else Q (.bl false) H
section
variable {σ : St} {H : Hp} {L : List (Asn G)} {D : Ends} {Q : VK} {P : Bool → Hp → Prop} {t u : TT} {t1 t2 : TS} {ta tb te : TE} {ρ τ : Type} {a b : Bool} {v w : V}
theorem f_and (h : t σ H (andK u σ P)) : tAnd t u σ H P := h
theorem f_or (h : t σ H (orK u σ P)) : tOr t u σ H P := h
theorem f_not (h : t σ H (notK P)) : tNot t σ H P := h
theorem f_if (h : t σ H (ifK t1 t2 D σ)) : tIfS t t1 t2 D σ H := h
theorem f_test (h : te σ H (blK P)) : tTest te σ H P := h
theorem f_B (h : te σ H (blK P)) : tB te σ H P := h
theorem f_bl (h : P b H) : blK P (.bl b) H := ⟨b, rfl, h⟩
theorem f_andV (h : ta σ H (andVK tb σ Q)) : tAndV ta tb σ H Q := h
theorem f_nK (h : P (!b) H) : notK P b H := h
theorem ifK_t (h : t1 D σ H) : ifK t1 t2 D σ true H := h
variable {A B : R Bool} {rest : Bool → R ρ} {q : ρ → Prop} {e : Exc → Prop}
theorem andK_J (hm : R.wp ((if a = true then A else .ok false).bind rest) q e) (hS : Sep H L)
    (h1 : a = true → ∀ q' : Bool → Prop, R.wp A q' e → (∀ b H', q' b → Sep H' L → P b H') → u σ H P) (k : ∀ b H', R.wp (rest b) q e → Sep H' L → P b H') : andK u σ P a H := by
  have hm' := R.wp_bind hm
  cases a with
  | true => exact h1 rfl _ hm' k
  | false => exact k false H hm' hS
theorem orK_J (hm : R.wp ((if a = true then .ok true else A).bind rest) q e) (hS : Sep H L)
    (h1 : a = false → ∀ q' : Bool → Prop, R.wp A q' e → (∀ b H', q' b → Sep H' L → P b H') → u σ H P) (k : ∀ b H', R.wp (rest b) q e → Sep H' L → P b H') : orK u σ P a H := by
  have hm' := R.wp_bind hm
  cases a with
  | true => exact k true H hm' hS
  | false => exact h1 rfl _ hm' k
theorem andVK_J (hm : R.wp ((if a = true then A else .ok false).bind rest) q e) (hS : Sep H L)
    (h1 : a = true → ∀ q' : Bool → Prop, R.wp A q' e → (∀ b H', q' b → Sep H' L → Q (.bl b) H') → tb σ H Q) (k : ∀ b H', R.wp (rest b) q e → Sep H' L → Q (.bl b) H') : andVK tb σ Q (.bl a) H := by
  have hm' := R.wp_bind hm
  refine ⟨a, rfl, ?_⟩
  cases a with
  | true => exact h1 rfl _ hm' k
  | false => exact k false H hm' hS
theorem ifK_2 (h1 : a = true → t1 D σ H) (h2 : a = false → t2 D σ H) : ifK t1 t2 D σ a H := by
  cases a with
  | true => exact h1 rfl
  | false => exact h2 rfl
theorem ifK_J {A B : R τ} {rest : τ → R ρ} (J : τ → St → Hp → Prop) (hm : R.wp ((if a = true then A else B).bind rest) q e)
    (h1 : a = true → ∀ q' : τ → Prop, R.wp A q' e → (∀ s σ' H', q' s → J s σ' H' → D.nx σ' H') → t1 D σ H)
    (h2 : a = false → ∀ q' : τ → Prop, R.wp B q' e → (∀ s σ' H', q' s → J s σ' H' → D.nx σ' H') → t2 D σ H)
    (k : ∀ s σ' H', R.wp (rest s) q e → J s σ' H' → D.nx σ' H') : ifK t1 t2 D σ a H := by
  have hm' := R.wp_bind hm
  cases a with
  | true => exact h1 rfl _ hm' k
  | false => exact h2 rfl _ hm' k
theorem wp_let {α : Type} {x : α} {f : α → R ρ} (hm : R.wp ((R.ok x).bind f) q e) : ∃ y, x = y ∧ R.wp (f y) q e := ⟨x, rfl, hm⟩
theorem ev_is (h : Ev te σ H v) (e : v = w) : Ev te σ H w := by rw [← e]; exact h
theorem n_is {i : Nat} (e : v = w) (h : D.nx (σ.set i (some w)) H) : D.nx (σ.set i (some v)) H := by rw [e]; exact h
/-- [elt ..] with a test: the two ways -/
theorem lc_if {A B : Prop} (h1 : a = true → A) (h2 : a = false → B) : if a = true then A else B := by
  cases a with
  | true => exact h1 rfl
  | false => exact h2 rfl
end
end Ml
namespace Ml
open PySem L2
section
variable {X : Cx} (K : PySem.W.Frag) (hK : X.K = K := by rfl)
include hK
theorem ix_listK : IxR X (rIxL K) := by subst hK; exact ix_list
theorem ix_tupK : IxR X (rIxT K) := by subst hK; exact ix_tup
theorem sl_listK : SlR X (rSlL K) := by subst hK; exact sl_list
theorem lenSqK : CallR X (.builtin "len") (rLenSq K) := by subst hK; exact call_lenSq
theorem listSqK : CallR X (.type "list") (rListSq K) := by subst hK; exact call_listSq
theorem joinK : MtR X "str.join" (rJoin K) := by subst hK; exact mt_joinS
end
theorem eqDK {X : Cx} (K : PySem.W.Frag) (hu : X.A.units + 64 < cLine) (hK : X.K = K := by rfl) : OpR X (compareOp .Eq) (rEqD K) := by subst hK; exact op_eqD hu
theorem neDK {X : Cx} (K : PySem.W.Frag) (hu : X.A.units + 64 < cLine) (hK : X.K = K := by rfl) : OpR X (compareOp .NotEq) (rNeD K) := by subst hK; exact op_neD hu
theorem pi_listK {X : Cx} {tg e : Expr} {tl : TE} (K : PySem.W.Frag) (h : PE X e tl) (hK : X.K = K := by rfl) : PI X tg e (iList K tl) := by subst hK; exact pi_list h
section
variable {X : Cx} {T : String} {name : Str} {id : String} {r : V → List V → Hp → VK → Prop} {o e : Expr} {es : List Expr} {to : TE} {t : TA} {apos cpos : Pos}
theorem pe_bmK (K : PySem.W.Frag) (pa : PlainAttrs T) (slot : Slot T name id) (hty : typeOf (.builtin id) = pure (.type "method_descriptor")) (hm : MtR X id r) (ho : PE X o to) (ha : PA X (e :: es) t) (hK : X.K = K := by rfl)
    (hbase : attributeBase o name X.env (eval o X.env) = eval o X.env := by rfl)
    (hfew : ((backTo cpos (starEach (e :: es) X.env)).all (fun x => !x.1) && (backToKw cpos (keywordEach [] X.env)).all (fun x => x.1.isSome)
      && decide ((e :: es).length + ([] : List Keyword).length + (if ([] : List Keyword).isEmpty then 0 else 1) < 30)) = true := by rfl)
    (hline : (apos.endLine == cpos.line) = true := by rfl) (hs : starEach (e :: es) X.env = (false, eval e X.env) :: starEach es X.env := by rfl) (hplain : (backTo cpos (starEach es X.env)).any (·.1) = false := by rfl) :
    PE X (.Call (.Attribute o name apos) (e :: es) [] cpos) (tBM K T r to t) := by subst hK; exact pe_bm pa slot hty hm ho ha hbase hfew hline hs hplain
end
end Ml
namespace Ml
open PySem L2
theorem im_of_only {G : Gx} {H : Hp} {a : Addr} {ns : List Int} (hO : Only H) (hS : SqL G.K H a (ns.map V.int)) : Im.im G H (.ref a) (⟨ns⟩ : Script) := by
  refine ⟨a, rfl, ?_⟩
  rcases hS with (h | ⟨o, h⟩) | h
  · rcases hO a with z | ⟨o, xs, z⟩
    · rw [h] at z; cases z
    · rw [h] at z; cases z
  · exact .inl ⟨o, h⟩
  · exact .inr h
end Ml
namespace Ml
open PySem L2
variable {G : Gx} {σ : St} {H : Hp} {L : List (Asn G)} {D : Ends} {Q : VK} {α ρ : Type} {v : V}
theorem r_mul {i j : Int} (c : CMul i j) (q : Q (.int (i * j)) H) : rI CMul (fun i j => V.int (i * j)) (.int i) (.int j) H Q := ⟨i, j, rfl, rfl, c, q⟩
end Ml
namespace Ml
open PySem L2
def fzK (Q : VK) : VK := fun v H => Q v H ∨ ∃ a u, v = .ref a ∧ H a = some u ∧ Mut (some u) ∧ ∀ o, Q v (upd H a (.frz o u))
def tFz (t : TE) : TE := fun σ H Q => t σ H (fzK Q)
theorem pe_fz {X : Cx} {e : Expr} {t : TE} (h : PE X e t) : PE X e (tFz t) := by
  refine ⟨fun pins s σ H Q I hw => ?_⟩
  refine thn (h.run pins s σ H _ I hw) fun v s1 ⟨x, H1, I1, r, q⟩ => ?_
  rcases q with q | ⟨a, u, e, ha, mu, q⟩
  · exact ⟨x, H1, I1, r, q⟩
  · obtain ⟨od, I2⟩ := I1.lock ha mu
    exact ⟨x, _, I2, r, q od⟩
variable {G : Gx}
section
variable {σ : St} {H : Hp} {L : List (Asn G)} {te : TE} {Q : VK} {v : V} {α : Type}
theorem c_fz (h : te σ H (fzK Q)) : tFz te σ H Q := h
theorem fz_no (h : Q v H) : fzK Q v H := .inl h
theorem ev_fz (h : Ev te σ H v) : Ev (tFz te) σ H v := fun Q q => h _ (.inl q)
/-- a locked list: a value -/
instance imList [Im G α] : Im G (List α) := ⟨fun H v xs => ∃ a vs, v = .ref a ∧ (∃ o, H a = some (.frz o (.lst vs))) ∧ imL (G := G) H vs xs,
  fun ⟨a, vs, e, ⟨o, h⟩, m⟩ s => ⟨a, vs, e, ⟨o, s.1 a _ h rfl⟩, m.st s⟩⟩
theorem imPl [Im G α] {a : Addr} {xs : List α} (h : Im.im G H (.ref a) xs) : ∃ vs, SqL G.K H a vs ∧ imL (G := G) H vs xs := by
  obtain ⟨b, vs, e, ⟨o, h⟩, m⟩ := h
  cases e
  exact ⟨vs, .inl (.inr ⟨o, h⟩), m⟩
theorem imPlF [Fv G α] {a : Addr} {xs : List α} (h : Im.im G H (.ref a) xs) : SqL G.K H a (xs.map (Fv.enc G)) := by
  obtain ⟨vs, e, m⟩ := imPl h
  rw [imL.flat.mp m] at e
  exact e
/-- the i-th thing is dropped, the rest stays while its cell changes -/
theorem Sep.drop1 {a : Addr} {o o' : HO} {M : List (Asn G)} (h : Sep H (cell a o :: M)) (kd : kindOf o' = kindOf o) : Sep (upd H a o') M := by
  obtain ⟨fp, ⟨f1, f2, e, ⟨e1, ho⟩, k⟩, h2, h3⟩ := h
  subst e1; subst e
  have nd : ¬ a ∈ f2 := (List.nodup_cons.mp h2).1
  obtain ⟨u, hu, nu⟩ := h3 a (by simp)
  have eu : u = o := by rw [ho] at hu; cases hu; rfl
  have st : Stab G H (upd H a o') := stab_put hu nu (by rw [eu]; exact kd)
  refine ⟨f2, k.loc (fun b m => upd_ne fun z => nd (z ▸ m)) st, (List.nodup_cons.mp h2).2, fun b m => ?_⟩
  obtain ⟨x, hx, nx⟩ := h3 b (by simp [m])
  exact ⟨x, by rw [upd_ne (fun z => nd (by rw [← z]; exact m))]; exact hx, nx⟩
theorem fz_yes [Im G α] {i : Nat} {a : Addr} {xs : List α} (hS : Sep H L) (e : L[i]? = some (lstA a xs)) (k : ∀ H', Sep H' (imA (.ref a) xs :: L.eraseIdx i) → Q (.ref a) H') : fzK Q (.ref a) H := by
  obtain ⟨vs, m, h1⟩ := hS.openL e
  have h0 := h1.getCell (get_set e)
  refine .inr ⟨a, .lst vs, rfl, h0, True.intro, fun o => k _ ?_⟩
  have h2 := h1.perm (pull_perm (get_set (y := cell (G := G) a (.lst vs)) e))
  have e3 : (L.set i (cell a (.lst vs))).eraseIdx i = L.eraseIdx i := by simp [List.eraseIdx_set_eq]
  rw [e3] at h2
  obtain ⟨fp, ⟨f1, f2, _, ⟨ef, _⟩, _⟩, nd0, nper⟩ := id h2
  have nu : per G (.lst vs) = false := rfl
  have st : Stab G H (upd H a (.frz o (.lst vs))) := stab_put h0 nu rfl
  have h4 := h2.drop1 (o' := .frz o (.lst vs)) rfl
  exact h4.addIm ⟨a, vs, rfl, ⟨o, upd_same⟩, m.st st⟩
end
structure T3 (α β γ : Type) where
  a : α
  b : β
  c : γ
  deriving DecidableEq, Repr
structure T4 (α β γ δ : Type) where
  a : α
  b : β
  c : γ
  d : δ
  deriving DecidableEq, Repr
structure T5 (α β γ δ ε : Type) where
  a : α
  b : β
  c : γ
  d : δ
  e : ε
  deriving DecidableEq, Repr
structure T1 (α : Type) where
  a : α
  deriving DecidableEq, Repr
section
variable {α β γ δ ε : Type} [Im G α] [Im G β] [Im G γ] [Im G δ] [Im G ε] {H H' : Hp} {a : Addr} {u1 u2 u3 u4 u5 : V}
instance imT1 : Im G (T1 α) := ⟨fun H v x => ∃ a u1, v = .ref a ∧ H a = some (.tup [u1]) ∧ Im.im G H u1 x.a,
  fun ⟨a, u1, e, h, i1⟩ s => ⟨a, u1, e, s.1 a _ h rfl, Im.st i1 s⟩⟩
instance imT2 : Im G (α × β) := ⟨fun H v x => ∃ a u1 u2, v = .ref a ∧ H a = some (.tup [u1, u2]) ∧ Im.im G H u1 x.1 ∧ Im.im G H u2 x.2,
  fun ⟨a, u1, u2, e, h, i1, i2⟩ s => ⟨a, u1, u2, e, s.1 a _ h rfl, Im.st i1 s, Im.st i2 s⟩⟩
instance imT3 : Im G (T3 α β γ) := ⟨fun H v x => ∃ a u1 u2 u3, v = .ref a ∧ H a = some (.tup [u1, u2, u3]) ∧ Im.im G H u1 x.a ∧ Im.im G H u2 x.b ∧ Im.im G H u3 x.c,
  fun ⟨a, u1, u2, u3, e, h, i1, i2, i3⟩ s => ⟨a, u1, u2, u3, e, s.1 a _ h rfl, Im.st i1 s, Im.st i2 s, Im.st i3 s⟩⟩
instance imT4 : Im G (T4 α β γ δ) := ⟨fun H v x => ∃ a u1 u2 u3 u4, v = .ref a ∧ H a = some (.tup [u1, u2, u3, u4]) ∧ Im.im G H u1 x.a ∧ Im.im G H u2 x.b ∧ Im.im G H u3 x.c ∧ Im.im G H u4 x.d,
  fun ⟨a, u1, u2, u3, u4, e, h, i1, i2, i3, i4⟩ s => ⟨a, u1, u2, u3, u4, e, s.1 a _ h rfl, Im.st i1 s, Im.st i2 s, Im.st i3 s, Im.st i4 s⟩⟩
instance imT5 : Im G (T5 α β γ δ ε) := ⟨fun H v x => ∃ a u1 u2 u3 u4 u5, v = .ref a ∧ H a = some (.tup [u1, u2, u3, u4, u5]) ∧ Im.im G H u1 x.a ∧ Im.im G H u2 x.b ∧ Im.im G H u3 x.c ∧ Im.im G H u4 x.d ∧ Im.im G H u5 x.e,
  fun ⟨a, u1, u2, u3, u4, u5, e, h, i1, i2, i3, i4, i5⟩ s => ⟨a, u1, u2, u3, u4, u5, e, s.1 a _ h rfl, Im.st i1 s, Im.st i2 s, Im.st i3 s, Im.st i4 s, Im.st i5 s⟩⟩
theorem im2 {x : α × β} (h : Im.im G H (.ref a) x) : ∃ u1 u2, H a = some (.tup [u1, u2]) ∧ Im.im G H u1 x.1 ∧ Im.im G H u2 x.2 := by
  obtain ⟨b, u1, u2, e, h⟩ := h; cases e; exact ⟨u1, u2, h⟩
theorem im3 {x : T3 α β γ} (h : Im.im G H (.ref a) x) : ∃ u1 u2 u3, H a = some (.tup [u1, u2, u3]) ∧ Im.im G H u1 x.a ∧ Im.im G H u2 x.b ∧ Im.im G H u3 x.c := by
  obtain ⟨b, u1, u2, u3, e, h⟩ := h; cases e; exact ⟨u1, u2, u3, h⟩
theorem im4 {x : T4 α β γ δ} (h : Im.im G H (.ref a) x) : ∃ u1 u2 u3 u4, H a = some (.tup [u1, u2, u3, u4]) ∧ Im.im G H u1 x.a ∧ Im.im G H u2 x.b ∧ Im.im G H u3 x.c ∧ Im.im G H u4 x.d := by
  obtain ⟨b, u1, u2, u3, u4, e, h⟩ := h; cases e; exact ⟨u1, u2, u3, u4, h⟩
theorem mk2 {x : α × β} (i1 : Im.im G H u1 x.1) (i2 : Im.im G H u2 x.2) (h : H' a = some (.tup [u1, u2])) (s : Stab G H H') : Im.im G H' (.ref a) x := ⟨a, u1, u2, rfl, h, Im.st i1 s, Im.st i2 s⟩
theorem mk3 {x : T3 α β γ} (i1 : Im.im G H u1 x.a) (i2 : Im.im G H u2 x.b) (i3 : Im.im G H u3 x.c) (h : H' a = some (.tup [u1, u2, u3])) (s : Stab G H H') : Im.im G H' (.ref a) x := ⟨a, u1, u2, u3, rfl, h, Im.st i1 s, Im.st i2 s, Im.st i3 s⟩
theorem mk4 {x : T4 α β γ δ} (i1 : Im.im G H u1 x.a) (i2 : Im.im G H u2 x.b) (i3 : Im.im G H u3 x.c) (i4 : Im.im G H u4 x.d) (h : H' a = some (.tup [u1, u2, u3, u4])) (s : Stab G H H') : Im.im G H' (.ref a) x := ⟨a, u1, u2, u3, u4, rfl, h, Im.st i1 s, Im.st i2 s, Im.st i3 s, Im.st i4 s⟩
end
class IsRef (G : Gx) (α : Type) [Im G α] : Prop where
  isref : ∀ {H : Hp} {v : V} {x : α}, Im.im G H v x → ∃ a, v = .ref a
theorem isref {α : Type} [Im G α] [IsRef G α] {H : Hp} {v : V} {x : α} (h : Im.im G H v x) : ∃ a, v = .ref a := IsRef.isref h
section
variable {α β γ δ ε : Type} [Im G α] [Im G β] [Im G γ] [Im G δ] [Im G ε]
instance : IsRef G (List α) := ⟨fun h => by obtain ⟨a, _, e, _⟩ := h; exact ⟨a, e⟩⟩
instance : IsRef G (T1 α) := ⟨fun h => by obtain ⟨a, _, e, _⟩ := h; exact ⟨a, e⟩⟩
instance : IsRef G (α × β) := ⟨fun h => by obtain ⟨a, _, _, e, _⟩ := h; exact ⟨a, e⟩⟩
instance : IsRef G (T3 α β γ) := ⟨fun h => by obtain ⟨a, _, _, _, e, _⟩ := h; exact ⟨a, e⟩⟩
instance : IsRef G (T4 α β γ δ) := ⟨fun h => by obtain ⟨a, _, _, _, _, e, _⟩ := h; exact ⟨a, e⟩⟩
instance : IsRef G (T5 α β γ δ ε) := ⟨fun h => by obtain ⟨a, _, _, _, _, _, e, _⟩ := h; exact ⟨a, e⟩⟩
end
section
variable {σ σ' : St} {H : Hp} {L : List (Asn G)} {D : Ends} {Q : VK} {te ta tb : TE} {α : Type} {K : PySem.W.Frag} {v : V}
/-- a tuple is laid -/
theorem k_tupP [Im G α] {vs : List V} {x : α} (hS : Sep H L) (mk : ∀ (H' : Hp) (p : Addr), H' p = some (.tup vs) → Stab G H H' → Im.im G H' (.ref p) x) (hl : vs.length ≤ sizeLine)
    (k : ∀ p H', Sep H' (imA (.ref p) x :: L) → Q (.ref p) H') : tupK Q vs H :=
  ⟨hl, fun p hp => k p _ ((hS.more (same_new hp)).addIm (mk _ p upd_same (.of_same (same_new hp))))⟩
theorem ev_ixT {a : Addr} {i : Int} {us : List V} (ha : Ev ta σ H (.ref a)) (hb : Ev tb σ H (.int i)) (h : H a = some (.tup us)) (e : atI us i = some v) : Ev (tOp (rIxT K) ta tb) σ H v :=
  ev_op ha hb fun _ q => ⟨a, us, i, v, rfl, rfl, SqT.of h, e, q⟩
/-- a field -/
theorem ev_fld {a C dx : Addr} {fs : List (Str × V)} {f : Str} (ha : Ev ta σ H (.ref a)) (h : H a = some (.ins C dx fs)) (c : Cls K C) (n : NoAttr K C f) (l : fs.lookup f = some v) : Ev (tFld K ta f) σ H v :=
  fun _ q => ha _ ⟨a, C, dx, fs, v, rfl, h, c, n, l, q⟩
end
end Ml
namespace Ml
open PySem L2
inductive Any where
  | str (s : Str) | int (i : Int) | bl (b : Bool) | non | tup (xs : List Any) | lst (xs : List Any) | oth (k : Nat)
section
variable (G : Gx)
mutual
def imAny (H : Hp) : V → Any → Prop
  | v, .str s => v = .str s
  | v, .int i => v = .int i
  | v, .bl b => v = .bl b
  | v, .non => v = .non
  | v, .tup xs => ∃ a vs, v = .ref a ∧ H a = some (.tup vs) ∧ imAnyL H vs xs
  | v, .lst xs => ∃ a vs, v = .ref a ∧ (∃ o, H a = some (.frz o (.lst vs))) ∧ imAnyL H vs xs
  | v, .oth k => ∃ a o, v = .ref a ∧ H a = some o ∧ kindOf o = k ∧ (k = 0 ∨ k = 1)
def imAnyL (H : Hp) : List V → List Any → Prop
  | [], [] => True
  | v :: vs, x :: xs => imAny H v x ∧ imAnyL H vs xs
  | _, _ => False
end
variable {G} {H H' : Hp}
mutual
theorem imAny.st : ∀ {v : V} {x : Any}, imAny H v x → Stab G H H' → imAny H' v x
  | v, .str s, h, _ => by rw [imAny] at h ⊢; exact h
  | v, .int i, h, _ => by rw [imAny] at h ⊢; exact h
  | v, .bl b, h, _ => by rw [imAny] at h ⊢; exact h
  | v, .non, h, _ => by rw [imAny] at h ⊢; exact h
  | v, .tup xs, h, s => by
    rw [imAny] at h ⊢
    obtain ⟨a, vs, e, g, m⟩ := h
    exact ⟨a, vs, e, s.1 a _ g rfl, imAnyL.st m s⟩
  | v, .lst xs, h, s => by
    rw [imAny] at h ⊢
    obtain ⟨a, vs, e, ⟨o, g⟩, m⟩ := h
    exact ⟨a, vs, e, ⟨o, s.1 a _ g rfl⟩, imAnyL.st m s⟩
  | v, .oth k, h, s => by
    rw [imAny] at h ⊢
    obtain ⟨a, o, e, g, q, z⟩ := h
    obtain ⟨o', g', q'⟩ := s.2 a o g
    exact ⟨a, o', e, g', q'.trans q, z⟩
theorem imAnyL.st : ∀ {vs : List V} {xs : List Any}, imAnyL H vs xs → Stab G H H' → imAnyL H' vs xs
  | [], [], h, _ => h
  | v :: vs, x :: xs, h, s => by
    rw [imAnyL] at h ⊢
    exact ⟨imAny.st h.1 s, imAnyL.st h.2 s⟩
  | [], _ :: _, h, _ => by rw [imAnyL] at h; exact h.elim; all_goals simp
  | _ :: _, [], h, _ => by rw [imAnyL] at h; exact h.elim; all_goals simp
end
instance imAnyI : Im G Any := ⟨fun H v x => imAny H v x, fun h s => imAny.st h s⟩
end
variable {G : Gx} {H : Hp} {L : List (Asn G)}
theorem any_str {v : V} {s : Str} : Im.im G H v (Any.str s) ↔ v = .str s := by show imAny H v (.str s) ↔ _; rw [imAny]
theorem any_int {v : V} {s : Int} : Im.im G H v (Any.int s) ↔ v = .int s := by show imAny H v (.int s) ↔ _; rw [imAny]
theorem any_non {v : V} : Im.im G H v Any.non ↔ v = .non := by show imAny H v .non ↔ _; rw [imAny]
theorem imAnyL_eq : ∀ {vs : List V} {xs : List Any}, imAnyL H vs xs ↔ imL (G := G) H vs xs
  | [], [] => by rw [imAnyL]; exact Iff.rfl
  | v :: vs, x :: xs => by
    rw [imAnyL]
    exact and_congr_right fun _ => imAnyL_eq (vs := vs) (xs := xs)
  | [], _ :: _ => ⟨fun h => by rw [imAnyL] at h; exact h.elim; all_goals simp, fun h => h.elim⟩
  | _ :: _, [] => ⟨fun h => by rw [imAnyL] at h; exact h.elim; all_goals simp, fun h => h.elim⟩
theorem any_tup {v : V} {xs : List Any} : Im.im G H v (Any.tup xs) ↔ ∃ a vs, v = .ref a ∧ H a = some (.tup vs) ∧ imL (G := G) H vs xs := by
  show imAny H v (.tup xs) ↔ _
  rw [imAny]
  exact exists_congr fun a => exists_congr fun vs => and_congr_right fun _ => and_congr_right fun _ => imAnyL_eq
theorem any_lsts {v : V} {xs : List Any} : Im.im G H v (Any.lst xs) ↔ ∃ a vs, v = .ref a ∧ (∃ o, H a = some (.frz o (.lst vs))) ∧ imL (G := G) H vs xs := by
  show imAny H v (.lst xs) ↔ _
  rw [imAny]
  exact exists_congr fun a => exists_congr fun vs => and_congr_right fun _ => and_congr_right fun _ => imAnyL_eq
theorem any_oth {v : V} {k : Nat} : Im.im G H v (Any.oth k) ↔ ∃ a o, v = .ref a ∧ H a = some o ∧ kindOf o = k ∧ (k = 0 ∨ k = 1) := by
  show imAny H v (.oth k) ↔ _
  rw [imAny]
def Any.ty : Any → String
  | .str _ => "str"
  | .int _ => "int"
  | .bl _ => "bool"
  | .non => "NoneType"
  | .tup _ => "tuple"
  | .lst _ => "list"
  | .oth 0 => "list"
  | .oth _ => "dict"
/-- isinstance of a plain type -/
def Any.is (x : Any) (t : String) : Bool := x.ty == t || (x.ty == "bool" && t == "int")
end Ml
namespace Ml
open PySem L2
variable {G : Gx} {H : Hp} {L : List (Asn G)} {ρ : Type} {q : ρ → Prop} {e : Exc → Prop} {Q : VK} {σ : St}
def Any.asStr : Any → R Str
  | .str s => .ok s
  | _ => .bad
def Any.asTup : Any → R (List Any)
  | .tup s => .ok s
  | _ => .bad
theorem wp_asStr {x : Any} {f : Str → R ρ} (h : R.wp (x.asStr.bind f) q e) : ∃ s, x = .str s ∧ R.wp (f s) q e := by
  cases x with
  | str s => exact ⟨s, rfl, h⟩
  | _ => exact h.elim
theorem wp_asTup {x : Any} {f : List Any → R ρ} (h : R.wp (x.asTup.bind f) q e) : ∃ s, x = .tup s ∧ R.wp (f s) q e := by
  cases x with
  | tup s => exact ⟨s, rfl, h⟩
  | _ => exact h.elim
theorem v_str {v : V} {x : Any} {s : Str} (h : Im.im G H v x) (e : x = .str s) : v = .str s := any_str.mp (e ▸ h)
theorem any_lst {α : Type} [Im G α] {i : Nat} {a : Addr} {xs : List α} (hS : Sep H L) (e : L[i]? = some (lstA a xs)) : Im.im G H (.ref a) (Any.oth 0) := by
  obtain ⟨vs, h, _⟩ := hS.lst e
  exact any_oth.mpr ⟨a, _, rfl, h, rfl, .inl rfl⟩
/-- a tuple, of things of any sort -/
theorem k_tupA {vs : List V} {xs : List Any} (hS : Sep H L) (m : imL (G := G) H vs xs) (hl : vs.length ≤ sizeLine) (k : ∀ p H', Sep H' (imA (.ref p) (Any.tup xs) :: L) → Q (.ref p) H') :
    tupK Q vs H :=
  ⟨hl, fun p hp => k p _ ((hS.more (same_new hp)).addIm (any_tup.mpr ⟨p, vs, rfl, upd_same, m.st (.of_same (same_new hp))⟩))⟩
end Ml
namespace Ml
open PySem L2
variable {G : Gx}
section
variable {α β γ δ ε : Type} [Lay α] [Lay β] [Lay γ] [Lay δ] [Lay ε]
instance layList : Lay (List α) := ⟨layAllB⟩
instance layT1 : Lay (T1 α) := ⟨fun x => Lay.lay x.a⟩
instance layT2 : Lay (α × β) := ⟨fun x => Lay.lay x.1 && Lay.lay x.2⟩
instance layT3 : Lay (T3 α β γ) := ⟨fun x => Lay.lay x.a && (Lay.lay x.b && Lay.lay x.c)⟩
instance layT4 : Lay (T4 α β γ δ) := ⟨fun x => Lay.lay x.a && (Lay.lay x.b && (Lay.lay x.c && Lay.lay x.d))⟩
instance layT5 : Lay (T5 α β γ δ ε) := ⟨fun x => Lay.lay x.a && (Lay.lay x.b && (Lay.lay x.c && (Lay.lay x.d && Lay.lay x.e)))⟩
end
section
variable {α β γ δ ε : Type} [Im G α] [DecidableEq α] [Lay α] [Pd G α] [Im G β] [DecidableEq β] [Lay β] [Pd G β] [Im G γ] [DecidableEq γ] [Lay γ] [Pd G γ] [Im G δ] [DecidableEq δ] [Lay δ] [Pd G δ] [Im G ε] [DecidableEq ε] [Lay ε] [Pd G ε]
instance pdList : Pd G (List α) where
  pd := fun xs => .list (xs.map (Pd.pd G))
  dep := Pd.dep G α + 1
  dp := fun {H v x} h => by
    obtain ⟨a, vs, rfl, ⟨o, g⟩, m⟩ := h
    exact .lst (.inl (.inr ⟨o, g⟩)) (dpAll m)
  lay_ok := fun x h => layAll (G := G) h
  dep_ok := fun x => Nat.succ_le_succ (depAll (G := G) x)
  eqv := fun x y => eqvAll_is x y
theorem canTup (ds : List PyData) : (PyData.tuple ds).canLay0 = PyData.canLayAll0 ds := rfl
theorem canCons (d : PyData) (ds : List PyData) : PyData.canLayAll0 (d :: ds) = (d.canLay0 && PyData.canLayAll0 ds) := rfl
theorem depTup (ds : List PyData) : (PyData.tuple ds).depth = PyData.depthAll ds + 1 := rfl
theorem depCons (d : PyData) (ds : List PyData) : PyData.depthAll (d :: ds) = max d.depth (PyData.depthAll ds) := rfl
theorem depNil : PyData.depthAll [] = 0 := rfl
theorem eqvTup (ds es : List PyData) : PyData.eqv (.tuple ds) (.tuple es) = PyData.eqvAll ds es := rfl
theorem eqvCons (d e : PyData) (ds es : List PyData) : PyData.eqvAll (d :: ds) (e :: es) = (PyData.eqv d e && PyData.eqvAll ds es) := rfl
theorem eqvNil : PyData.eqvAll [] [] = true := rfl
instance pdT1 : Pd G (T1 α) where
  pd := fun x => .tuple [Pd.pd G x.a]
  dep := Pd.dep G α + 1
  dp := fun {H v x} h => by
    obtain ⟨a, u1, rfl, g, i1⟩ := h
    exact .tup (SqT.of g) (.cons (Pd.dp i1) .nil)
  lay_ok := fun x h => by rw [canTup, canCons, Pd.lay_ok x.a h]; rfl
  dep_ok := fun x => by
    rw [depTup, depCons, depNil]
    have := Pd.dep_ok (G := G) x.a
    omega
  eqv := fun x y => by
    rw [eqvTup, eqvCons, eqvNil, Pd.eqv]
    obtain ⟨a⟩ := x; obtain ⟨b⟩ := y
    simp
instance pdT2 : Pd G (α × β) where
  pd := fun x => .tuple [Pd.pd G x.1, Pd.pd G x.2]
  dep := max (Pd.dep G α) (Pd.dep G β) + 1
  dp := fun {H v x} h => by
    obtain ⟨a, u1, u2, rfl, g, i1, i2⟩ := h
    exact .tup (SqT.of g) (.cons (Pd.dp i1) (.cons (Pd.dp i2) .nil))
  lay_ok := fun x h => by
    have h : (Lay.lay x.1 && Lay.lay x.2) = true := h
    rw [Bool.and_eq_true] at h
    rw [canTup, canCons, canCons, Pd.lay_ok x.1 h.1, Pd.lay_ok x.2 h.2]; rfl
  dep_ok := fun x => by
    rw [depTup, depCons, depCons, depNil]
    have := Pd.dep_ok (G := G) x.1
    have := Pd.dep_ok (G := G) x.2
    omega
  eqv := fun x y => by
    rw [eqvTup, eqvCons, eqvCons, eqvNil, Pd.eqv, Pd.eqv]
    obtain ⟨a, b⟩ := x; obtain ⟨c, d⟩ := y
    simp
instance pdT3 : Pd G (T3 α β γ) where
  pd := fun x => .tuple [Pd.pd G x.a, Pd.pd G x.b, Pd.pd G x.c]
  dep := max (Pd.dep G α) (max (Pd.dep G β) (Pd.dep G γ)) + 1
  dp := fun {H v x} h => by
    obtain ⟨a, u1, u2, u3, rfl, g, i1, i2, i3⟩ := h
    exact .tup (SqT.of g) (.cons (Pd.dp i1) (.cons (Pd.dp i2) (.cons (Pd.dp i3) .nil)))
  lay_ok := fun x h => by
    have h : (Lay.lay x.a && (Lay.lay x.b && Lay.lay x.c)) = true := h
    simp only [Bool.and_eq_true] at h
    rw [canTup, canCons, canCons, canCons, Pd.lay_ok x.a h.1, Pd.lay_ok x.b h.2.1, Pd.lay_ok x.c h.2.2]; rfl
  dep_ok := fun x => by
    rw [depTup, depCons, depCons, depCons, depNil]
    have := Pd.dep_ok (G := G) x.a
    have := Pd.dep_ok (G := G) x.b
    have := Pd.dep_ok (G := G) x.c
    omega
  eqv := fun x y => by
    rw [eqvTup, eqvCons, eqvCons, eqvCons, eqvNil, Pd.eqv, Pd.eqv, Pd.eqv]
    obtain ⟨a, b, c⟩ := x; obtain ⟨d, e, f⟩ := y
    simp
instance pdT4 : Pd G (T4 α β γ δ) where
  pd := fun x => .tuple [Pd.pd G x.a, Pd.pd G x.b, Pd.pd G x.c, Pd.pd G x.d]
  dep := max (Pd.dep G α) (max (Pd.dep G β) (max (Pd.dep G γ) (Pd.dep G δ))) + 1
  dp := fun {H v x} h => by
    obtain ⟨a, u1, u2, u3, u4, rfl, g, i1, i2, i3, i4⟩ := h
    exact .tup (SqT.of g) (.cons (Pd.dp i1) (.cons (Pd.dp i2) (.cons (Pd.dp i3) (.cons (Pd.dp i4) .nil))))
  lay_ok := fun x h => by
    have h : (Lay.lay x.a && (Lay.lay x.b && (Lay.lay x.c && Lay.lay x.d))) = true := h
    simp only [Bool.and_eq_true] at h
    rw [canTup, canCons, canCons, canCons, canCons, Pd.lay_ok x.a h.1, Pd.lay_ok x.b h.2.1, Pd.lay_ok x.c h.2.2.1, Pd.lay_ok x.d h.2.2.2]; rfl
  dep_ok := fun x => by
    rw [depTup, depCons, depCons, depCons, depCons, depNil]
    have := Pd.dep_ok (G := G) x.a
    have := Pd.dep_ok (G := G) x.b
    have := Pd.dep_ok (G := G) x.c
    have := Pd.dep_ok (G := G) x.d
    omega
  eqv := fun x y => by
    rw [eqvTup, eqvCons, eqvCons, eqvCons, eqvCons, eqvNil, Pd.eqv, Pd.eqv, Pd.eqv, Pd.eqv]
    obtain ⟨a, b, c, d⟩ := x; obtain ⟨a', b', c', d'⟩ := y
    simp
instance pdT5 : Pd G (T5 α β γ δ ε) where
  pd := fun x => .tuple [Pd.pd G x.a, Pd.pd G x.b, Pd.pd G x.c, Pd.pd G x.d, Pd.pd G x.e]
  dep := max (Pd.dep G α) (max (Pd.dep G β) (max (Pd.dep G γ) (max (Pd.dep G δ) (Pd.dep G ε)))) + 1
  dp := fun {H v x} h => by
    obtain ⟨a, u1, u2, u3, u4, u5, rfl, g, i1, i2, i3, i4, i5⟩ := h
    exact .tup (SqT.of g) (.cons (Pd.dp i1) (.cons (Pd.dp i2) (.cons (Pd.dp i3) (.cons (Pd.dp i4) (.cons (Pd.dp i5) .nil)))))
  lay_ok := fun x h => by
    have h : (Lay.lay x.a && (Lay.lay x.b && (Lay.lay x.c && (Lay.lay x.d && Lay.lay x.e)))) = true := h
    simp only [Bool.and_eq_true] at h
    rw [canTup, canCons, canCons, canCons, canCons, canCons, Pd.lay_ok x.a h.1, Pd.lay_ok x.b h.2.1, Pd.lay_ok x.c h.2.2.1, Pd.lay_ok x.d h.2.2.2.1, Pd.lay_ok x.e h.2.2.2.2]; rfl
  dep_ok := fun x => by
    rw [depTup, depCons, depCons, depCons, depCons, depCons, depNil]
    have := Pd.dep_ok (G := G) x.a
    have := Pd.dep_ok (G := G) x.b
    have := Pd.dep_ok (G := G) x.c
    have := Pd.dep_ok (G := G) x.d
    have := Pd.dep_ok (G := G) x.e
    omega
  eqv := fun x y => by
    rw [eqvTup, eqvCons, eqvCons, eqvCons, eqvCons, eqvCons, eqvNil, Pd.eqv, Pd.eqv, Pd.eqv, Pd.eqv, Pd.eqv]
    obtain ⟨a, b, c, d, e⟩ := x; obtain ⟨a', b', c', d', e'⟩ := y
    simp
end
section
variable {α : Type} [Im G α] [DecidableEq α] [Lay α] [Pd G α] {H : Hp} {L : List (Asn G)} {σ : St} {ta tb : TE} {Q : VK} {v w : V} {x y : α}
theorem shapedP (h : Lay.lay x = true) (d : Pd.dep G α ≤ 64) : SeqAt.shaped (Pd.pd G x) = true := by
  unfold SeqAt.shaped
  rw [Pd.lay_ok x h, decide_eq_true (Nat.le_trans (Pd.dep_ok x) d)]; rfl
/-- the data of a list that one owns -/
theorem dpOwn {i : Nat} {a : Addr} {xs : List α} (hS : Sep H L) (e : L[i]? = some (lstA a xs)) : Dp G.K H (.ref a) (Pd.pd G xs) := by
  obtain ⟨vs, s, m⟩ := hS.sq e
  exact .lst s (dpAll m)
theorem ev_eqP (ha : Ev ta σ H v) (hb : Ev tb σ H w) (d1 : Dp G.K H v (Pd.pd G x)) (d2 : Dp G.K H w (Pd.pd G y)) (l1 : Lay.lay x = true) (l2 : Lay.lay y = true) (d : Pd.dep G α ≤ 64) :
    Ev (tOp (rEqD G.K) ta tb) σ H (.bl (decide (x = y))) := ev_op ha hb fun Q q => by
  refine ⟨_, _, d1, d2, shapedP l1 d, shapedP l2 d, ?_⟩
  rw [Pd.eqv]; exact q
end
mutual
def pdA : Any → PyData
  | .str s => .str s
  | .int i => .int i
  | .bl b => .bool b
  | .non => .none
  | .tup xs => .tuple (pdAL xs)
  | .lst xs => .list (pdAL xs)
  | .oth _ => .none
def pdAL : List Any → List PyData
  | [] => []
  | x :: xs => pdA x :: pdAL xs
end
mutual
def plA : Any → Bool
  | .tup xs => plAL xs
  | .lst xs => plAL xs
  | .oth _ => false
  | _ => true
def plAL : List Any → Bool
  | [] => true
  | x :: xs => plA x && plAL xs
end
section
variable {H : Hp}
mutual
theorem dpA : ∀ {v : V} {x : Any}, imAny H v x → plA x = true → Dp G.K H v (pdA x)
  | v, .str s, h, _ => by rw [imAny] at h; subst h; rw [pdA]; exact .str s
  | v, .int s, h, _ => by rw [imAny] at h; subst h; rw [pdA]; exact .int s
  | v, .bl s, h, _ => by rw [imAny] at h; subst h; rw [pdA]; exact .bl s
  | v, .non, h, _ => by rw [imAny] at h; subst h; rw [pdA]; exact .non
  | v, .tup xs, h, l => by
    rw [imAny] at h; rw [plA] at l; rw [pdA]
    obtain ⟨a, vs, rfl, g, m⟩ := h
    exact .tup (SqT.of g) (dpAL m l)
  | v, .lst xs, h, l => by
    rw [imAny] at h; rw [plA] at l; rw [pdA]
    obtain ⟨a, vs, rfl, ⟨o, g⟩, m⟩ := h
    exact .lst (.inl (.inr ⟨o, g⟩)) (dpAL m l)
  | v, .oth k, h, l => by rw [plA] at l; cases l
theorem dpAL : ∀ {vs : List V} {xs : List Any}, imAnyL H vs xs → plAL xs = true → DpAll G.K H vs (pdAL xs)
  | [], [], h, _ => by rw [pdAL]; exact .nil
  | v :: vs, x :: xs, h, l => by
    rw [imAnyL] at h; rw [plAL, Bool.and_eq_true] at l; rw [pdAL]
    exact .cons (dpA h.1 l.1) (dpAL h.2 l.2)
  | [], _ :: _, h, _ => by rw [imAnyL] at h; exact h.elim; all_goals simp
  | _ :: _, [], h, _ => by rw [imAnyL] at h; exact h.elim; all_goals simp
end
end
/-- x == y of things of any sort -/
def eqA (x y : Any) : R Bool := R.need (plA x = true ∧ plA y = true ∧ SeqAt.shaped (pdA x) = true ∧ SeqAt.shaped (pdA y) = true) (.ok (PyData.eqv (pdA x) (pdA y)))
section
variable {H : Hp} {σ : St} {ta tb : TE} {Q : VK} {v w : V} {x y : Any} {ρ : Type} {q : ρ → Prop} {e : Exc → Prop}
theorem wp_eqA {f : Bool → R ρ} (h : R.wp ((eqA x y).bind f) q e) : ∃ b, (plA x = true ∧ plA y = true ∧ SeqAt.shaped (pdA x) = true ∧ SeqAt.shaped (pdA y) = true ∧ b = PyData.eqv (pdA x) (pdA y)) ∧ R.wp (f b) q e := by
  unfold eqA R.need at h
  by_cases c : plA x = true ∧ plA y = true ∧ SeqAt.shaped (pdA x) = true ∧ SeqAt.shaped (pdA y) = true
  · rw [if_pos c] at h; exact ⟨_, ⟨c.1, c.2.1, c.2.2.1, c.2.2.2, rfl⟩, h⟩
  · rw [if_neg c] at h; exact h.elim
theorem ev_eqA {b : Bool} (ha : Ev ta σ H v) (hb : Ev tb σ H w) (i1 : Im.im G H v x) (i2 : Im.im G H w y) (h : plA x = true ∧ plA y = true ∧ SeqAt.shaped (pdA x) = true ∧ SeqAt.shaped (pdA y) = true ∧ b = PyData.eqv (pdA x) (pdA y)) :
    Ev (tOp (rEqD G.K) ta tb) σ H (.bl b) := ev_op ha hb fun Q q => by
  obtain ⟨h1, h2, h3, h4, rfl⟩ := h
  exact ⟨_, _, dpA i1 h1, dpA i2 h2, h3, h4, q⟩
theorem ev_neA {b : Bool} (ha : Ev ta σ H v) (hb : Ev tb σ H w) (i1 : Im.im G H v x) (i2 : Im.im G H w y) (h : plA x = true ∧ plA y = true ∧ SeqAt.shaped (pdA x) = true ∧ SeqAt.shaped (pdA y) = true ∧ b = PyData.eqv (pdA x) (pdA y)) :
    Ev (tOp (rNeD G.K) ta tb) σ H (.bl (!b)) := ev_op ha hb fun Q q => by
  obtain ⟨h1, h2, h3, h4, rfl⟩ := h
  exact ⟨_, _, dpA i1 h1, dpA i2 h2, h3, h4, q⟩
end
end Ml
namespace L2
open PySem PySem.Spec PyProof.Rows
/-- list + list, either may be locked -/
def rCatR : R2 := fun x y H Q => ∃ l b xs zs, x = .ref l ∧ y = .ref b ∧ Rd H l (.lst xs) ∧ Rd H b (.lst zs) ∧ xs.length + zs.length ≤ sizeLine ∧ ∀ p, H p = none → Q (.ref p) (upd H p (.lst (xs ++ zs)))
theorem op_catR {X : Cx} : OpR X (binaryOp .Add) rCatR := by
  intro pins s σ H x y v u Q I rx ry h
  obtain ⟨l, b, xs, zs, rfl, rfl, hH, hB, hz, q⟩ := h
  cases rx
  cases ry
  obtain ⟨z, its, n, r, e⟩ := hH.ok I.hok
  obtain ⟨z2, its2, n2, r2, e2⟩ := hB.ok I.hok
  have hl := r.length
  have hl2 := r2.length
  refine PySem.P.add_list e e2 ?_ (by rw [List.size_toArray, List.size_toArray]; omega)
  have ea : its.toArray ++ its2.toArray = (its ++ its2).toArray := by simp
  rw [ea]
  exact ⟨.ref _, _, I.lnew (t' := s.toks) (r.append r2) (by rw [List.length_append]; omega), rfl, q _ I.fresh⟩
end L2
namespace Ml
open PySem L2
namespace R
variable {α β ρ : Type} {q : α → Prop} {e : Exc → Prop}
def noexc : R α → R α
  | .ok a => .ok a
  | _ => .bad
theorem wp_noexc {m : R α} {f : α → R β} {q : β → Prop} (h : wp ((noexc m).bind f) q e) : wp m (fun a => wp (f a) q e) (fun _ => False) := by
  cases m with
  | ok a => exact h
  | exc x => exact h.elim
  | bad => exact h.elim
def tryC : R α → (α → R β) → (Exc → R β) → R β
  | .ok a, k, _ => k a
  | .exc x, _, h => h x
  | .bad, _, _ => .bad
theorem wp_tryC {m : R α} {k : α → R β} {h : Exc → R β} {q : β → Prop} (w : wp (tryC m k h) q e) : wp m (fun a => wp (k a) q e) (fun x => wp (h x) q e) := by
  cases m <;> exact w
end R
/-- an except clause: known classes, those that it takes -/
def catchR {β : Type} (all subs : List Nat) (x : Exc) (a b : R β) : R β := if all.contains x.cls then (if subs.contains x.cls then a else b) else .bad
def contF {σ ρ β : Type} (k : σ → R β) (o : ρ → R β) : Fl σ ρ → R β
  | .go s => k s
  | .brk s => k s
  | .out r => o r
/-- an exception as it is wished for -/
def Eok (G : Gx) (x : Exc) (E : XK) (H : Hp) : Prop := E (.ref (G.cl x.cls)) none H
variable {G : Gx}
section
variable {σ σ' : St} {H : Hp} {L L' : List (Asn G)} {D : Ends} {Q : VK} {te ta tb : TE} {α β τ ρ : Type} {v w : V} {q : ρ → Prop} {e : Exc → Prop}
theorem k_catG [Im G α] {a b : Addr} {xs ys : List α} (hS : Sep H L) (h1 : ∃ vs, Rd H a (.lst vs) ∧ imL (G := G) H vs xs) (h2 : ∃ vs, Rd H b (.lst vs) ∧ imL (G := G) H vs ys) (z : xs.length + ys.length ≤ sizeLine)
    (k : ∀ p H', Sep H' (lstA p (xs ++ ys) :: L) → Q (.ref p) H') : rCatR (.ref a) (.ref b) H Q := by
  obtain ⟨vs, r1, m1⟩ := h1
  obtain ⟨ws, r2, m2⟩ := h2
  exact ⟨a, b, vs, ws, rfl, rfl, r1, r2, by rw [m1.len, m2.len]; exact z, fun p hp => k p _ (hS.newL hp (m1.app m2))⟩
theorem k_slG [Im G α] {a : Addr} {xs : List α} {lo hi : Option Int} (hS : Sep H L) (h : ∃ vs, SqL G.K H a vs ∧ imL (G := G) H vs xs)
    (k : ∀ p H', Sep H' (lstA p (cutL xs lo hi) :: L) → Q (.ref p) H') : rSlL G.K (.ref a) lo hi H Q := by
  obtain ⟨vs, h, m⟩ := h
  exact ⟨a, vs, rfl, h, fun p hp => k p _ (hS.newL hp (cutL_im m))⟩
theorem k_ilG [Im G α] {a : Addr} {xs : List α} {R : It → Hp → Prop} (h : ∃ vs, SqL G.K H a vs ∧ imL (G := G) H vs xs) (k : R (Itl G.K a) H) : ilK G.K R (.ref a) H := by
  obtain ⟨vs, s, _⟩ := h
  exact ⟨a, rfl, ⟨vs, s⟩, k⟩
/-- the rule on values alone -/
theorem ev_op2 {r : R2} {x y : V} (h : Ev (tOp r (tC x) (tC y)) [] H v) (q : Q v H) : r x y H Q := h Q q
theorem any_tupE {v : V} {x : Any} {xs : List Any} (h : Im.im G H v x) (e : x = .tup xs) : ∃ a vs, v = .ref a ∧ H a = some (.tup vs) ∧ imL (G := G) H vs xs := any_tup.mp (e ▸ h)
theorem imL_strs : ∀ (ys : List Str), imL (G := G) H (ys.map V.str) ys
  | [] => True.intro
  | y :: ys => ⟨rfl, imL_strs ys⟩
theorem imL.erase [Im G α] : ∀ {vs : List V} {xs : List α} (n : Nat), imL (G := G) H vs xs → imL (G := G) H (vs.eraseIdx n) (xs.eraseIdx n)
  | [], [], n, _ => by simp [imL]
  | v :: vs, x :: xs, 0, h => h.2
  | v :: vs, x :: xs, n + 1, h => ⟨h.1, imL.erase n h.2⟩
  | [], _ :: _, _, h => h.elim
  | _ :: _, [], _, h => h.elim
theorem Sep.newI {C x dx : Addr} (h : Sep H L) (hx : H x = none) (hd : H dx = none) (ne : dx ≠ x) (n : ¬ G.fz C = some 0) : Sep (upd (upd H dx (.own x)) x (.ins C dx [])) (cell x (.ins C dx []) :: L) := by
  have h1 := h.more (same_new (o := HO.own x) hd)
  refine h1.new (o := .ins C dx []) (by rw [upd_ne (Ne.symm ne)]; exact hx) ?_
  show decide (G.fz C = some 0) = false
  exact decide_eq_false n
theorem c_sfld {K : PySem.W.Frag} {f : Str} (h : tb σ H fun y H1 => ta σ H1 fun x H2 => ∃ a C dx fs, x = .ref a ∧ H2 a = some (.ins C dx fs) ∧ Cls K C ∧ NoAttr K C f ∧ fs.length < 1000 ∧ D.nx σ (upd H2 a (.ins C dx (putF f y fs)))) : sFld K ta tb f D σ H := h
theorem k_sfld {K : PySem.W.Frag} {i : Nat} {a C dx : Addr} {fs fs' : List (Str × V)} {f : Str} {y : V} (hS : Sep H L) (e : L[i]? = some (cell a (.ins C dx fs))) (c : Cls K C) (n : NoAttr K C f) (ef : putF f y fs = fs') (hl : fs.length < 1000)
    (np : per G (.ins C dx fs') = false) (eL : L.set i (cell a (.ins C dx fs')) = L') (k : ∀ H', Sep H' L' → D.nx σ H') :
    ∃ a' C' dx' fs'', V.ref a = .ref a' ∧ H a' = some (.ins C' dx' fs'') ∧ Cls K C' ∧ NoAttr K C' f ∧ fs''.length < 1000 ∧ D.nx σ (upd H a' (.ins C' dx' (putF f y fs''))) := by
  refine ⟨a, C, dx, fs, rfl, hS.getCell e, c, n, hl, ?_⟩
  rw [ef]
  refine k _ ?_
  subst eL
  exact hS.put e np rfl
theorem c_callSD {sp : Sp} {dvs : List V} {E : St → XK} {t : TA} (h : t σ H fun vs H1 => sp (vs ++ dvs) H1 Q (E σ)) : tCallSD sp dvs E t σ H Q := h
theorem c_meth {C : Addr} {m : Str} {sp : Sp} {dvs : List V} {E : XK} {t : TA} (h : ta σ H fun x H1 => ∃ a dx fs, x = .ref a ∧ H1 a = some (.ins C dx fs) ∧ fs.lookup m = none ∧ t σ H1 fun vs H2 => sp (x :: (vs ++ dvs)) H2 Q E) : tMeth C m sp dvs E ta t σ H Q := h
theorem c_make {C : Addr} {sp : Sp} {dvs : List V} {E : XK} {t : TA} (h : t σ H fun vs H1 => ∀ x dx, H1 x = none → H1 dx = none → dx ≠ x → sp (.ref x :: (vs ++ dvs)) (upd (upd H1 dx (.own x)) x (.ins C dx [])) (fun v H2 => v = .non ∧ Q (.ref x) H2) E) : tMake C sp dvs E t σ H Q := h
theorem w_only {K : PySem.W.Frag} {c : Value} {ts : Addr → Value → Option Addr → TS} {Wout : WX} {all subs : List Nat} {x : Exc} {β : Type} {A B : R β} {q : β → Prop} {e : Exc → Prop}
    (ex : all.contains x.cls = true → PySem.W.exmOne K (.ref (G.cl x.cls)) c = some (subs.contains x.cls)) (hm : R.wp (catchR all subs x A B) q e)
    (h1 : R.wp A q e → ∀ a, H a = none → ts a (.ref (G.cl x.cls)) none D σ H) (h2 : R.wp B q e → Wout (.ref (G.cl x.cls)) none σ H) : Eok G x (WE (wOnly K c ts Wout D) σ) H := by
  unfold catchR at hm
  by_cases c1 : all.contains x.cls = true
  · rw [if_pos c1] at hm
    refine ⟨_, ex c1, fun z => ?_, fun z => ?_⟩
    · rw [if_pos z] at hm; exact h1 hm
    · rw [z, if_neg Bool.false_ne_true] at hm; exact h2 hm
  · rw [if_neg c1] at hm; exact hm.elim
theorem k_forF {J : It} {g : TG} {tb : TS} {im : Hp → V → α → Prop} {xs : List α} {f : τ → α → R (Fl τ ρ)} {β : Type} {rest : τ → R β} {o : ρ → R β} {q : β → Prop} {e : Exc → Prop} {s : τ} (I : τ → L2.St → Hp → Prop)
    (w : ∀ s, Wk J (I s) im xs) (h0 : I s σ H) (hm : R.wp ((forF f xs s).bind (contF rest o)) q e)
    (turn : ∀ (s : τ) (x : α) (v : V) (σ : L2.St) (H : Hp) (q' : Fl τ ρ → Prop) (N B : L2.St → Hp → Prop), I s σ H → im H v x → R.wp (f s x) q' e → (∀ s' σ' H', q' (.go s') → I s' σ' H' → N σ' H') → (∀ s' σ' H', q' (.brk s') → I s' σ' H' → B σ' H') → (∀ r, q' (.out r) → R.wp (o r) q e) →
      g v σ H fun σ2 H2 => tb (loopD D N B) σ2 H2)
    (done : ∀ s σ H, R.wp (rest s) q e → I s σ H → D.nx σ H) : forK g tb D σ J H :=
  for_walkF (D := D) (I := I) (k := fun r => R.wp (contF rest o r) q e) w h0 (R.wp_bind hm) (fun s x v σ H q' N B hI hv hw h1 h2 h3 => turn s x v σ H q' N B hI hv hw h1 h2 h3) (fun s σ H h hI => done s σ H h hI)
theorem k_gT {K : PySem.W.Frag} {n : Nat} {t : TGs} {a : Addr} {us : List V} {P : St → Hp → Prop} (h : H a = some (.tup us)) (hl : us.length = n := by rfl) (k : t us σ H P) : gTup K n t (.ref a) σ H P := ⟨a, us, rfl, SqT.of h, hl, k⟩
theorem k_gC {i : Nat} {u : TGs} {us : List V} {P : St → Hp → Prop} (e : σ.set i (some v) = σ') (k : u us σ' H P) : gCons (gName i) u (v :: us) σ H P := ⟨v, us, rfl, by show u us (σ.set i (some v)) H P; rw [e]; exact k⟩
theorem k_gE {P : St → Hp → Prop} (k : P σ H) : gNil [] σ H P := ⟨rfl, k⟩
end
section
variable {X : Cx} (K : PySem.W.Frag) (hK : X.K = K := by rfl)
include hK
theorem pg_tupK {es : List Expr} {k : Nat} {pos : Pos} {t : TGs} {n : Nat} (hc : X.calm = true) (h : PGs X es t) (hn : (assignEach es X.env).length = n := by rfl) (hst : (assignEach es X.env).findIdx? (·.1) = none := by rfl) : PG X (.Tuple es k pos) (gTup K n t) := by
  subst hK; exact pg_tup hc h hn hst
end
end Ml
namespace L2
open PySem PySem.Spec PyProof.Rows
/-- what a def promises that gets the pinned exception -/
structure FnE (P : Program) (w : World) (K : PySem.W.Frag) (mg : Str → Option Value) (base : Heap) (k : Nat) (f : Addr) (fd : FuncData) (ps : List Str) (sp : Addr × Obj → Sp) : Prop where
  len : ∀ p vs H Q E, sp p vs H Q E → vs.length = ps.length
  run : ∀ (A : Around) (outer : List Env) (s : Shared) (H : Hp) (args : Args) (us : List Value) (vs : List V) (Q : VK) (E : XK) (p : Addr × Obj), L2H.RoomH k A → L2H.PinOk outer H s p → Env0 P w K mg base A outer s H → BindsTo s fd args (ps.zip us) → Vals vs us → sp p vs H Q E →
    codeAny (model P w) A (.call (.ref f) args) (CR CX0 outer P w H s Q E) s
theorem Fun.okE {P : Program} {w : World} {K : PySem.W.Frag} {mg : Str → Option Value} {base : Heap} {x qual : Str} {st : Stmt} {f : Addr} {fd : FuncData} {N ps : List Str} {k : Nat} {sp : Addr × Obj → Sp} (F : Fun K x qual st f fd) (S : FnScope N ps (defScope st)) (len : ∀ p vs H Q E, sp p vs H Q E → vs.length = ps.length)
    (hbody : ∀ (cdv : Value) (A : Around) (outer : List Env) (s : Shared) (H : Hp) (vs : List V) (Q : VK) (E : XK) (p : Addr × Obj), L2H.RoomH k (A.deeper (envOfC qual (defScope st) s.heap.objs.size f cdv)) → sp p vs H Q E →
      ∃ t, PSs (L2H.cxH CX0 P w K mg base N qual (defScope st) f cdv A outer s H E p).nox (defBody st) t ∧ t { nx := fun _ H' => Q .non H', rt := Q } (start N vs) H) : FnE P w K mg base (k + 1) f fd ps sp := by
  obtain ⟨oc, od, kV, doc, pm, an, cdv, ct, osl, rfl, lk, hcd⟩ := F.ex
  refine ⟨len, fun A outer s H args us vs Q E p hr hpin e0 hb r hsp => ?_⟩
  have hl := len _ _ _ _ _ hsp
  have KX : K.In s.heap := e0.mod.kin.keeps fun b o e => (e0.bs b o e).1
  have lim : s.heap.NoLimit := e0.mod.nolimit.keeps fun b o e => (e0.bs b o e).1
  have hkind : ∀ y ∈ ps.zip us, (defScope st).names.lookup y.1 = some .local ∨ ((defScope st).names.lookup y.1 = some .cell ∧ ((cellsFrom (s.heap.objs.size + 1) (defScope st).names []).lookup y.1).isSome = true) := fun ⟨n, v⟩ hy => by
    rcases S.par n (List.of_mem_zip hy).1 with q | q
    · exact .inl q
    · exact .inr ⟨q, PySem.W.cellsFrom_some _ _ _ (.inl q)⟩
  refine codeAny_call_function hr.depth (KX _ _ lk) rfl S.co S.gen rfl (PySem.W.codeRec_of KX hcd) (hb _ _ _ _ ?_)
  refine wpAny_newFunctionEnv_cells S.kind hkind fun env he s1 x => ?_
  subst he
  refine ⟨lim.keeps x.toInCall.keep, codeAny_func ?_⟩
  obtain ⟨t, ht, hq⟩ := hbody cdv A outer s H vs Q E p (hr.deeper _) hsp
  have I : Inv (L2H.cxH CX0 P w K mg base N qual (defScope st) f cdv A outer s H E p) [] (L2.start N vs) H s1 := L2H.inv_startH S hpin e0 hl r x
  refine wpAny_mono (ht.nox.run [] s1 (L2.start N vs) H _ I hq) (fun fl s' hs => ?_) fun e s' hs => hs
  have fin : ∀ {σ' : St} {H' : Hp} {v : V} {u : Value}, Inv (L2H.cxH CX0 P w K mg base N qual (defScope st) f cdv A outer s H E p) [] σ' H' s' → RelV v u → Q v H' → CE outer P w H s Q u s' :=
    fun {σ' H' v u} J rv q => ⟨v, H', J.os, J.bare, J.base, J.hok, rv, q⟩
  cases fl with
  | ret u =>
    obtain ⟨v, σ', H', J, rv, q⟩ := hs
    exact fin J rv q
  | next =>
    obtain ⟨σ', H', J, q⟩ := hs
    exact fin (v := V.non) (u := Value.none) J rfl q
  | brk =>
    obtain ⟨_, _, _, q⟩ := hs
    exact False.elim q
  | cont =>
    obtain ⟨_, _, _, q⟩ := hs
    exact False.elim q
section
variable {X : Cx} {k : Nat} {f : Addr} {fd : FuncData} {ps : List Str} {sp : Addr × Obj → Sp} {x : Str} {q pos : Pos} {e : Expr} {es : List Expr} {t : TA} {p : Addr × Obj}
/-- f(e), e the exception that the suite holds at a -/
def tCallE (a : Addr) (cls : Value) (d : Option Addr) (sp : Addr × Obj → Sp) (t : TA) : TE := fun σ H Q => t σ H fun vs H1 => ∀ oe, Zc cls d oe → (∃ vs, oe.data = .fields vs) → sp (a, oe) vs H1 Q E0
theorem c_callE {a : Addr} {cls : Value} {d : Option Addr} {σ : St} {H : Hp} {Q : VK} (h : t σ H fun vs H1 => ∀ oe, Zc cls d oe → (∃ vs, oe.data = .fields vs) → sp (a, oe) vs H1 Q E0) : tCallE a cls d sp t σ H Q := h
theorem pe_callE {a : Addr} {cls : Value} {d : Option Addr} {oe : Obj} (hp : (a, oe) ∈ X.pn) (hz : Zc cls d oe) (hf : ∃ vs, oe.data = .fields vs) (F : FnE X.prog X.w X.K X.mg X.base k f fd ps sp) (hr : L2H.RoomH k X.A) (hg : Gl X x) (hm : X.mg x = some (.ref f)) (hk : PySem.W.keepIn X.K (.ref f) = true) (hb : Binds X.K fd ps [])
    (ha : PA X (e :: es) t) (hdb : (x == ("__debug__" : Str)) = false := by decide) (he : starEach (e :: es) X.env = (false, eval e X.env) :: starEach es X.env := by rfl) (hpl : (backTo pos (starEach es X.env)).any (·.1) = false := by rfl) :
    PE X (.Call (.Name x q) (e :: es) [] pos) (tCallE a cls d sp t) := by
  refine ⟨fun pins s σ H Q I h => ?_⟩
  refine wpAny_Call_Name_kw (ld_glob I hg hm ?_ hdb)
  refine PySem.W.callWith_K (h₀ := X.base) I.ok.mod.kin hk (thn (ha.run pos pins s σ H _ I h) fun us s1 ⟨vs, H1, I1, r, q⟩ => ⟨I1.kIn, ?_⟩) he hpl
  have q : sp (a, oe) vs H1 Q E0 := q oe hz hf
  have hl : us.length = ps.length := by rw [← r.length]; exact F.len _ _ _ _ _ q
  have b := hb s1 us I1.kIn (by rw [List.append_nil]; exact hl)
  rw [List.append_nil] at b
  have P1 := I1.pin (a, oe) (List.mem_append_left _ hp)
  have hpin : L2H.PinOk X.stack H1 s1 (a, oe) := ⟨P1.1, P1.2.1, fun hm => (List.mem_cons.mp (I1.stkSub a hm)).elim P1.2.2.1 P1.2.2.2.1, P1.2.2.2.2⟩
  refine wpAny_call (codeAny_mono (F.run X.A X.stack s1 H1 ⟨us, []⟩ us vs Q E0 (a, oe) hr hpin I1.env0 b r q) fun r s' hq => ?_)
  cases r with
  | error e => exact hq.elim
  | ok fl =>
    cases fl with
    | ret u => exact I1.after hq
    | next => exact False.elim hq
    | brk => exact False.elim hq
    | cont => exact False.elim hq
end
/-- isinstance(e, c), e a pinned exception -/
def rIsEB (K : PySem.W.Frag) (D a : Addr) : List V → Hp → VK → Prop := fun xs H Q => ∃ (c : V) (cv : Value) (b : Bool), xs = [.ref a, c] ∧ ClsV c cv ∧ PySem.W.kitOne K (.ref D) cv = some b ∧ Q (.bl b) H
theorem call_isP {X : Cx} (K : PySem.W.Frag) {D : Addr} {p : Addr × Obj} (hp : p ∈ X.pn) (C : ExcC K D) (hz : Zc (.ref D) none p.2) (hf : ∃ vs, p.2.data = .fields vs) (hK : X.K = K := by rfl) : CallR X (.builtin "isinstance") (rIsEB K D p.1) := by
  subst hK
  intro pins s σ H xs us Q I r h
  obtain ⟨c, cv, b, rfl, hcv, e, q⟩ := h
  cases r with
  | cons rx rr =>
    cases rr with
    | cons rt rr =>
      cases rr
      cases rx
      have ec := hcv.eq rt
      subst ec
      have hget := (I.pin p (List.mem_append_left _ hp)).1
      obtain ⟨vs, hv⟩ := hf
      have J : PySem.W.InstAt s.heap p.1 p.2 D none := by
        obtain ⟨pa, ⟨oc, od, oda, osl⟩⟩ := p
        obtain ⟨h1, h2⟩ := hz
        dsimp only at h1 h2 hv hget
        subst h1 h2 hv
        exact ⟨hget, rfl, rfl, trivial⟩
      exact PySem.W.kia_one (PySem.W.handS_kitx_exc C.hg C.hk C.hs C.hd C.ha C.hn C.ht C.hm) I.kIn J e (fun z => nomatch z) fun tk => ⟨.bl b, H, I.kept (t' := tk) fun _ _ z => z, rfl, q⟩
/-- xs.count(x), over data -/
def rCountD (K : PySem.W.Frag) : V → List V → Hp → VK → Prop := fun x xs H Q => ∃ (a : Addr) (y : V) (d : PyData) (ds : List PyData), x = V.ref a ∧ xs = [y] ∧ Dp K H (V.ref a) (.list ds) ∧ Dp K H y d ∧
  SeqAt.shaped (.list ds) = true ∧ SeqAt.shaped d = true ∧ Q (.int ((ds.countP fun y => PyData.eqv y d : Nat) : Int)) H
theorem mt_countD {X : Cx} (hu : X.A.units + 65 < cLine) : MtR X "list.count" (rCountD X.K) := by
  intro pins s σ H x xs v us Q I rx rxs h
  obtain ⟨a, y, d, ds, rfl, rfl, hl, hy, sl, sd, q⟩ := h
  cases rx
  cases rxs with
  | cons ry rt =>
    rename_i uy ut
    cases rt
    obtain ⟨bs, r1⟩ := Dp.reads I d y uy hy ry
    have hxs : PyData.canLayAll0 ds = true := SeqAt.canLay_of_shaped sl
    have hroom : X.A.units + 1 + min (PyData.depthAll ds) d.depth < cLine := room_in_shaped sd hu
    cases hl with
    | lst hs ha =>
      obtain ⟨its, rv, hL⟩ := I.list hs
      obtain ⟨as, h4⟩ := Dp.readsAll I ds _ its ha rv
      exact PySem.SeqAt.count_list_data hL.1.isList h4 r1 (PyData.plainAll_of_canLay0 _ hxs) (PyData.plain_of_canLay0 _ (SeqAt.canLay_of_shaped sd)) hroom ⟨.int ((ds.countP fun y => PyData.eqv y d : Nat) : Int), H, I.tok _, ⟨_, rfl⟩, q⟩
end L2
namespace Ml
open PySem PySem.Spec PyProof.Rows L2
variable {G : Gx}
/-- an exception that is pinned -/
def ExB (G : Gx) (all : List Nat) (p : Addr × Obj) (x : Exc) : Prop := Zc (.ref (G.cl x.cls)) none p.2 ∧ (∃ vs, p.2.data = .fields vs) ∧ all.contains x.cls = true
theorem ev_isX {a : Addr} {σ : L2.St} {H : Hp} {D : Addr} {ta tb : TE} {c : V} {cv : Value} {b : Bool} (ha : Ev ta σ H (.ref a)) (hb : Ev tb σ H c) (hc : ClsV c cv) (e : PySem.W.kitOne G.K (.ref D) cv = some b) :
    Ev (tCB (rIsEB G.K D a) (tCons ta (tCons tb tNil))) σ H (.bl b) := ev_cb (ea_cons ha (ea_cons hb ea_nil)) fun _ q => ⟨c, cv, b, rfl, hc, e, q⟩
theorem mt_countK {X : Cx} (K : PySem.W.Frag) (hu : X.A.units + 65 < cLine) (hK : X.K = K := by rfl) : MtR X "list.count" (rCountD K) := by subst hK; exact mt_countD hu
theorem huH {k : Nat} {A : Around} (r : L2H.RoomH k A) : A.units + 65 < cLine := by have := r.un; omega
theorem hotRoom {j k : Nat} {A : Around} {v : Option Value} (r : Room k A) (h : j ≤ k) : L2H.RoomH j (A.mark v) := ⟨(r.mono h).dp, (r.mono h).un⟩
section
variable {H : Hp} {σ σ' : L2.St} {D : Ends}
theorem w_asE {K : PySem.W.Frag} {c : Value} {i : Nat} {ts : Addr → Value → Option Addr → TS} {Wout : WX} {all subs : List Nat} {x : Exc} {β : Type} {A B : R β} {q : β → Prop} {e : Exc → Prop}
    (ex : all.contains x.cls = true → PySem.W.exmOne K (.ref (G.cl x.cls)) c = some (subs.contains x.cls)) (hm : R.wp (catchR all subs x A B) q e)
    (h1 : all.contains x.cls = true → R.wp A q e → ∀ a, H a = none → ts a (.ref (G.cl x.cls)) none { nx := fun σ' H' => D.nx (σ'.set i none) H', rt := D.rt, bk := fun σ' H' => D.bk (σ'.set i none) H', ct := fun σ' H' => D.ct (σ'.set i none) H' } (σ.set i (some (.ref a))) H)
    (h2 : R.wp B q e → Wout (.ref (G.cl x.cls)) none σ H) : Eok G x (WE (wAs K c i ts Wout D) σ) H := by
  unfold catchR at hm
  by_cases c1 : all.contains x.cls = true
  · rw [if_pos c1] at hm
    refine ⟨_, ex c1, fun z => ?_, fun z => ?_⟩
    · rw [if_pos z] at hm; exact h1 c1 hm
    · rw [z, if_neg Bool.false_ne_true] at hm; exact h2 hm
  · rw [if_neg c1] at hm; exact hm.elim
end
section
variable {α : Type} [Im G α] [DecidableEq α] [Lay α] [Pd G α] {H : Hp} {σ : L2.St} {Q : VK} {v w : V} {x y : α}
theorem countP_pd {xs : List α} {x : α} : (xs.map (Pd.pd G)).countP (fun y => PyData.eqv y (Pd.pd G x)) = xs.countP (fun y => decide (y = x)) := by
  rw [List.countP_map]
  congr 1
  funext y
  show PyData.eqv (Pd.pd G y) (Pd.pd G x) = _
  rw [Pd.eqv]
theorem k_count {a : Addr} {xs : List α} {x : α} (d1 : Dp G.K H (.ref a) (Pd.pd G xs)) (d2 : Dp G.K H w (Pd.pd G x)) (l1 : Lay.lay xs = true) (l2 : Lay.lay x = true) (d : Pd.dep G (List α) ≤ 64) (d0 : Pd.dep G α ≤ 64)
    (q : Q (.int ((xs.countP fun y => decide (y = x) : Nat) : Int)) H) : rCountD G.K (.ref a) [w] H Q :=
  ⟨a, w, _, _, rfl, rfl, d1, d2, shapedP (x := xs) l1 d, shapedP l2 d0, by rw [countP_pd]; exact q⟩
end
end Ml
namespace Ml
open PySem L2
section
variable {α β σ ρ : Type}
theorem forR_ok {f : σ → α → R σ} (I : List α → σ → Prop) : ∀ {xs : List α} {s : σ} (pre : List α), I pre s → (∀ p x q s, pre ++ xs = p ++ x :: q → I p s → ∃ s', f s x = .ok s' ∧ I (p ++ [x]) s') → ∃ s', forR f xs s = .ok s' ∧ I (pre ++ xs) s'
  | [], s, pre, h0, _ => ⟨s, rfl, by rw [List.append_nil]; exact h0⟩
  | x :: xs, s, pre, h0, hs => by
    obtain ⟨s1, e1, h1⟩ := hs pre x xs s rfl h0
    obtain ⟨s2, e2, h2⟩ := forR_ok I (xs := xs) (s := s1) (pre ++ [x]) h1 fun p y q s e => hs p y q s (by rw [← e]; simp)
    refine ⟨s2, ?_, by rw [List.append_assoc] at h2; exact h2⟩
    show (f s x).bind _ = _
    rw [e1, R.bind_ok]; exact e2
theorem forR_inv {f : σ → α → R σ} {xs : List α} {s : σ} (I : List α → σ → Prop) (h0 : I [] s) (hs : ∀ p x q s, xs = p ++ x :: q → I p s → ∃ s', f s x = .ok s' ∧ I (p ++ [x]) s') : ∃ s', forR f xs s = .ok s' ∧ I xs s' := by
  obtain ⟨s', h1, h2⟩ := forR_ok I (xs := xs) (s := s) [] h0 fun p x q s e => hs p x q s (by simpa using e)
  exact ⟨s', h1, by simpa using h2⟩
/-- an invariant that does not look at the place -/
theorem forR_keep {f : σ → α → R σ} {xs : List α} {s : σ} (I : σ → Prop) (h0 : I s) (hs : ∀ x s, x ∈ xs → I s → ∃ s', f s x = .ok s' ∧ I s') : ∃ s', forR f xs s = .ok s' ∧ I s' :=
  forR_inv (fun _ s => I s) h0 fun p x q s e h => hs x s (by rw [e]; simp) h
theorem forF_inv {f : σ → α → R (Fl σ ρ)} (I : List α → σ → Prop) : ∀ {xs : List α} {s : σ} (pre : List α), I pre s → (∀ p x q s, pre ++ xs = p ++ x :: q → I p s → ∃ s', f s x = .ok (.go s') ∧ I (p ++ [x]) s') → ∃ s', forF f xs s = .ok (.go s') ∧ I (pre ++ xs) s'
  | [], s, pre, h0, _ => ⟨s, rfl, by rw [List.append_nil]; exact h0⟩
  | x :: xs, s, pre, h0, hs => by
    obtain ⟨s1, e1, h1⟩ := hs pre x xs s rfl h0
    obtain ⟨s2, e2, h2⟩ := forF_inv I (xs := xs) (s := s1) (pre ++ [x]) h1 fun p y q s e => hs p y q s (by rw [← e]; simp)
    refine ⟨s2, ?_, by rw [List.append_assoc] at h2; exact h2⟩
    show (f s x).bind _ = _
    rw [e1, R.bind_ok]; exact e2
/-- the loop goes on to its end -/
theorem forF_keep {f : σ → α → R (Fl σ ρ)} {xs : List α} {s : σ} (I : σ → Prop) (h0 : I s) (hs : ∀ x s, x ∈ xs → I s → ∃ s', f s x = .ok (.go s') ∧ I s') : ∃ s', forF f xs s = .ok (.go s') ∧ I s' := by
  obtain ⟨s', h1, h2⟩ := forF_inv (fun _ s => I s) (xs := xs) (s := s) [] h0 fun p x q s e h => hs x s (by rw [List.nil_append] at e; rw [e]; simp) h
  exact ⟨s', h1, h2⟩
theorem compR_map {f : Unit → α → R (Unit × Option β)} {g : α → β} {xs : List α} (h : ∀ x, x ∈ xs → f () x = .ok ((), some (g x))) : compR f xs () = .ok ((), xs.map g) := by
  induction xs with
  | nil => rfl
  | cons x xs ih =>
    show (f () x).bind _ = _
    rw [h x (by simp), R.bind_ok, ih fun y hy => h y (by simp [hy])]
    rfl
theorem compR_filterMap {f : Unit → α → R (Unit × Option β)} {g : α → Option β} {xs : List α} (h : ∀ x, x ∈ xs → f () x = .ok ((), g x)) : compR f xs () = .ok ((), xs.filterMap g) := by
  induction xs with
  | nil => rfl
  | cons x xs ih =>
    show (f () x).bind _ = _
    rw [h x (by simp), R.bind_ok, ih fun y hy => h y (by simp [hy])]
    cases e : g x with
    | none => simp [e]
    | some y => simp [e]
theorem compR_all {f : Unit → α → R (Unit × Option β)} {xs : List α} (P : β → Prop) (h : ∀ x, x ∈ xs → ∃ y, f () x = .ok ((), some y) ∧ P y) : ∃ ys, compR f xs () = .ok ((), ys) ∧ ys.length = xs.length ∧ ∀ y, y ∈ ys → P y := by
  induction xs with
  | nil => exact ⟨[], rfl, rfl, by simp⟩
  | cons x xs ih =>
    obtain ⟨y, e, p⟩ := h x (by simp)
    obtain ⟨ys, e2, l, q⟩ := ih fun z hz => h z (by simp [hz])
    refine ⟨y :: ys, ?_, by simp [l], fun z hz => ?_⟩
    · show (f () x).bind _ = _
      rw [e, R.bind_ok, e2]; rfl
    · rcases List.mem_cons.mp hz with rfl | hz
      · exact p
      · exact q z hz
theorem idxR_mem {xs : List α} {i : Int} (h0 : 0 ≤ i) (h1 : i < xs.length) : ∃ x, idxR xs i = .ok x ∧ x ∈ xs ∧ xs[i.toNat]? = some x := by
  obtain ⟨x, h, _⟩ := atI_ok h0 h1
  exact ⟨x, idxR_ok h0 h, List.mem_of_getElem? h, h⟩
theorem ixR_ok {xs : List α} {i : Int} (h0 : 0 ≤ i) (h1 : i < xs.length) : ixR xs i = .ok i.toNat := by
  unfold ixR ixN
  rw [if_pos h0, if_pos h1]
theorem mem_set {xs : List α} {j : Nat} {v x : α} (h : x ∈ xs.set j v) : x ∈ xs ∨ x = v := by
  rcases List.mem_or_eq_of_mem_set h with h | h
  · exact .inl h
  · exact .inr h
theorem cutL_sub {xs : List α} {lo hi : Option Int} : (cutL xs lo hi).Sublist xs := (List.take_sublist _ _).trans (List.drop_sublist _ _)
theorem cutL_mem {xs : List α} {lo hi : Option Int} {x : α} (h : x ∈ cutL xs lo hi) : x ∈ xs := cutL_sub.subset h
theorem cutL_len {xs : List α} {lo hi : Option Int} : (cutL xs lo hi).length ≤ xs.length := cutL_sub.length_le
theorem sIx_nn {n d : Nat} {i : Int} (h : 0 ≤ i) : HT.sIx n d (some i) = min i.toNat n := by
  show (if i < 0 then (i + (n : Int)).toNat else min i.toNat n) = _
  rw [if_neg (by omega)]
theorem cutL_to {xs : List α} {i : Int} (h : 0 ≤ i) : cutL xs none (some i) = xs.take i.toNat := by
  unfold cutL
  rw [sIx_nn h, HT.sIx_none, List.drop_zero, Nat.sub_zero]
  by_cases c : i.toNat ≤ xs.length
  · rw [Nat.min_eq_left c]
  · rw [Nat.min_eq_right (by omega), List.take_of_length_le (Nat.le_refl _), List.take_of_length_le (by omega)]
theorem rngL_mem {lo x : Int} {n : Nat} (h : x ∈ rngL lo n) : lo ≤ x ∧ x < lo + n := by
  unfold rngL at h
  obtain ⟨i, hi, rfl⟩ := List.mem_map.mp h
  have := List.mem_range.mp hi
  omega
end
theorem len_app (a b : Str) : (a ++ b).length = a.length + b.length := by
  show (a.cps ++ b.cps).size = a.cps.size + b.cps.size
  rw [Array.size_append]
theorem tl_app (a b : Str) : (a ++ b).cps.toList = a.cps.toList ++ b.cps.toList := by
  show (a.cps ++ b.cps).toList = _
  rw [Array.toList_append]
theorem len_tl (x : Str) : x.length = x.cps.toList.length := by simp [Str.length]
/-- all signs below 128 -/
def Asc (x : Str) : Prop := ∀ c, c ∈ x.cps.toList → c < 128
theorem Asc.app {a b : Str} (ha : Asc a) (hb : Asc b) : Asc (a ++ b) := fun c hc => by
  rw [tl_app] at hc
  rcases List.mem_append.mp hc with h | h
  · exact ha c h
  · exact hb c h
theorem Asc.lit {x : Str} (h : x.cps.toList.all (· < 128) = true) : Asc x := fun c hc => by
  have := List.all_eq_true.mp h c hc
  simpa using this
theorem Asc.lay {x : Str} (h : Asc x) : (Lay.lay x : Bool) = true := by
  show PyData.strOk x = true
  unfold PyData.strOk
  rw [← Array.all_toList]
  exact List.all_eq_true.mpr fun c hc => decide_eq_true (Nat.lt_trans (h c hc) (by decide))
theorem joinL_nil : ∀ ls : List (List Nat), TL.joinL [] ls = ls.flatten
  | [] => rfl
  | [l] => by simp [TL.joinL]
  | l :: m :: r => by
    rw [TL.joinL, joinL_nil (m :: r)]; simp
theorem join_nil (ys : List Str) : (Txt.join ("" : Str) ys).cps.toList = (ys.map fun y => y.cps.toList).flatten := by
  rw [TL.join_eq]
  have ej := TL.tl_join ("" : Str) ys
  have e0 : TL.tl ("" : Str) = [] := by decide
  rw [e0, joinL_nil] at ej
  exact ej
theorem len_join_nil (ys : List Str) : (Txt.join ("" : Str) ys).length = (ys.map (·.length)).sum := by
  rw [len_tl, join_nil, List.length_flatten, List.map_map]
  exact congrArg List.sum (List.map_congr_left fun y _ => (len_tl y).symm)
theorem Asc.join {ys : List Str} (h : ∀ y, y ∈ ys → Asc y) : Asc (Txt.join ("" : Str) ys) := fun c hc => by
  rw [join_nil] at hc
  obtain ⟨l, hl, hc⟩ := List.mem_flatten.mp hc
  obtain ⟨y, hy, rfl⟩ := List.mem_map.mp hl
  exact h y hy c hc
theorem log2_small {i : Int} (h0 : -1000000000000 < i) (h1 : i < 1000000000000) : i.natAbs.log2 < 1920 := by
  have h : i.natAbs < 2 ^ 40 := by omega
  by_cases z : i.natAbs = 0
  · rw [z]; decide
  · exact Nat.lt_trans ((Nat.log2_lt z).mpr h) (by decide)
theorem tl_num (n : Nat) : (Str.ofString (toString ((n : Nat) : Int))).cps.toList = TL.numL n := TL.tl_num n
end Ml
namespace Ml
open PySem L2
def Ok {α : Type} (m : R α) (P : α → Prop) : Prop := ∃ a, m = .ok a ∧ P a
namespace Ok
variable {α β σ ρ : Type} {P : ρ → Prop}
theorem ret {a : ρ} (h : P a) : Ok (.ok a) P := ⟨a, rfl, h⟩
theorem bind {m : R α} {f : α → R ρ} {Q : α → Prop} (h : Ok m Q) (k : ∀ a, Q a → Ok (f a) P) : Ok (m.bind f) P := by
  obtain ⟨a, e, q⟩ := h
  rw [e, R.bind_ok]; exact k a q
theorem bindE {m : R α} {f : α → R ρ} {a : α} (h : m = .ok a) (k : Ok (f a) P) : Ok (m.bind f) P := by
  rw [h, R.bind_ok]; exact k
theorem lets {a : α} {f : α → R ρ} (k : Ok (f a) P) : Ok ((R.ok a).bind f) P := k
theorem name {a : α} {f : α → R ρ} (k : ∀ y, y = a → Ok (f y) P) : Ok ((R.ok a).bind f) P := k a rfl
theorem need {p : Prop} [Decidable p] {m : R ρ} (h : p) (k : Ok m P) : Ok (R.need p m) P := by rw [R.need_pos h]; exact k
theorem ite {c : Prop} [Decidable c] {a b : R ρ} (h1 : c → Ok a P) (h2 : ¬ c → Ok b P) : Ok (if c then a else b) P := by
  by_cases h : c
  · rw [if_pos h]; exact h1 h
  · rw [if_neg h]; exact h2 h
theorem ifT {c : Prop} [Decidable c] {a b : R ρ} (h : c) (k : Ok a P) : Ok (if c then a else b) P := by rw [if_pos h]; exact k
theorem ifF {c : Prop} [Decidable c] {a b : R ρ} (h : ¬ c) (k : Ok b P) : Ok (if c then a else b) P := by rw [if_neg h]; exact k
theorem mono {Q : ρ → Prop} {m : R ρ} (h : Ok m Q) (k : ∀ a, Q a → P a) : Ok m P := by
  obtain ⟨a, e, q⟩ := h
  exact ⟨a, e, k a q⟩
theorem eq {m : R ρ} {v : ρ} (h : Ok m (· = v)) : m = .ok v := by
  obtain ⟨a, e, q⟩ := h
  rw [e, q]
theorem idx {xs : List α} {i : Int} {f : α → R ρ} (h0 : 0 ≤ i) (h1 : i < xs.length) (k : ∀ x, x ∈ xs → xs[i.toNat]? = some x → Ok (f x) P) : Ok ((idxR xs i).bind f) P := by
  obtain ⟨x, e, m, g⟩ := idxR_mem h0 h1
  rw [e, R.bind_ok]; exact k x m g
theorem ix {xs : List α} {i : Int} {f : Nat → R ρ} (h0 : 0 ≤ i) (h1 : i < xs.length) (k : Ok (f i.toNat) P) : Ok ((ixR xs i).bind f) P := by
  rw [ixR_ok h0 h1, R.bind_ok]; exact k
theorem forI {f : σ → α → R σ} {xs : List α} {s : σ} {rest : σ → R ρ} (I : List α → σ → Prop) (h0 : I [] s) (hs : ∀ p x q s, xs = p ++ x :: q → I p s → Ok (f s x) (I (p ++ [x]))) (k : ∀ s, I xs s → Ok (rest s) P) : Ok ((forR f xs s).bind rest) P :=
  bind (forR_inv I h0 hs) k
theorem forK {f : σ → α → R σ} {xs : List α} {s : σ} {rest : σ → R ρ} (I : σ → Prop) (h0 : I s) (hs : ∀ x s, x ∈ xs → I s → Ok (f s x) I) (k : ∀ s, I s → Ok (rest s) P) : Ok ((forR f xs s).bind rest) P :=
  bind (forR_keep I h0 hs) k
theorem forFK {τ : Type} {f : σ → α → R (Fl σ τ)} {xs : List α} {s : σ} {rest : Fl σ τ → R ρ} (I : σ → Prop) (h0 : I s) (hs : ∀ x s, x ∈ xs → I s → Ok (f s x) (fun r => ∃ s', r = .go s' ∧ I s')) (k : ∀ s, I s → Ok (rest (.go s)) P) : Ok ((forF f xs s).bind rest) P := by
  obtain ⟨s', e, h⟩ := forF_keep (f := f) (xs := xs) I h0 fun x s hx hI => by
    obtain ⟨r, e, s', rfl, h⟩ := hs x s hx hI
    exact ⟨s', e, h⟩
  exact bindE e (k s' h)
/-- a comprehension whose items all have Q -/
theorem comp {f : Unit → α → R (Unit × Option β)} {xs : List α} {rest : Unit × List β → R ρ} (Q : β → Prop) (h : ∀ x, x ∈ xs → Ok (f () x) (fun r => ∃ y, r.2 = some y ∧ Q y)) (k : ∀ ys, ys.length = xs.length → (∀ y, y ∈ ys → Q y) → Ok (rest ((), ys)) P) : Ok ((compR f xs ()).bind rest) P := by
  obtain ⟨ys, e, l, q⟩ := compR_all (f := f) (xs := xs) Q fun x hx => by
    obtain ⟨r, e, y, e2, hy⟩ := h x hx
    exact ⟨y, by rw [e, ← e2], hy⟩
  exact bindE e (k ys l q)
/-- .. whose items are told -/
theorem compM {f : Unit → α → R (Unit × Option β)} {xs : List α} {rest : Unit × List β → R ρ} (g : α → β) (h : ∀ x, x ∈ xs → Ok (f () x) (fun r => r.2 = some (g x))) (k : Ok (rest ((), xs.map g)) P) : Ok ((compR f xs ()).bind rest) P := by
  refine bindE (compR_map (g := g) fun x hx => ?_) k
  obtain ⟨r, e, e2⟩ := h x hx
  rw [e, ← e2]
theorem compF {f : Unit → α → R (Unit × Option β)} {xs : List α} {rest : Unit × List β → R ρ} (g : α → Option β) (h : ∀ x, x ∈ xs → Ok (f () x) (fun r => r.2 = g x)) (k : Ok (rest ((), xs.filterMap g)) P) : Ok ((compR f xs ()).bind rest) P := by
  refine bindE (compR_filterMap (g := g) fun x hx => ?_) k
  obtain ⟨r, e, e2⟩ := h x hx
  rw [e, ← e2]
end Ok
theorem pre_lt {α : Type} {xs p q : List α} {x : α} (e : xs = p ++ x :: q) : p.length < xs.length := by
  rw [e, List.length_append, List.length_cons]; omega
theorem lt_line {n m : Nat} (h : n ≤ m) (hm : m < 16777216) : n < sizeLine := Nat.lt_of_le_of_lt h hm
theorem le_line {n : Nat} (h : n ≤ 16777216) : n ≤ sizeLine := h
end Ml
namespace Ml
open PySem PySem.Spec PyProof.Rows L2
variable {G : Gx}
/-- x is None, of a thing of any sort -/
def Any.isN : Any → Bool
  | .non => true
  | _ => false
theorem isN_of {H : Hp} {v : V} {x : Any} (h : Im.im G H v x) : decide (v = .non) = Any.isN x := by
  have h : imAny H v x := h
  cases x with
  | non => rw [imAny] at h; subst h; rfl
  | str s => rw [imAny] at h; subst h; rfl
  | int s => rw [imAny] at h; subst h; rfl
  | bl s => rw [imAny] at h; subst h; rfl
  | tup s => rw [imAny] at h; obtain ⟨a, vs, rfl, _⟩ := h; rfl
  | lst s => rw [imAny] at h; obtain ⟨a, vs, rfl, _⟩ := h; rfl
  | oth s => rw [imAny] at h; obtain ⟨a, o, rfl, _⟩ := h; rfl
theorem ev_notN {σ : L2.St} {H : Hp} {ta : TE} {v : V} {x : Any} (ha : Ev ta σ H v) (h : Im.im G H v x) : Ev (tNotN ta) σ H (.bl (!Any.isN x)) := fun Q q => ha _ (by rw [isN_of h]; exact q)
end Ml
namespace PySem.W
open PySem PySem.Spec PySem.Calls PyProof.Rows
theorem kit_own {K : Frag} {i j : Addr} {b : Bool} (hdct : hasDictIn K j = true) (ht : typeIn K (.ref j) = some (.type "type")) (h : subIn K (.ref i) (.ref j) = some b) (hn : b = true ∨ ¬ i = j) : kitOne K (.ref i) (.ref j) = some b := by
  obtain ⟨cd, hc, _⟩ := any_some hdct
  have e2 : ((clsIn K j).isSome && typeIn K (.ref j) == some (.type "type")) = true := by rw [hc, ht] <;> rfl
  have e3 : kitCls K (.ref i) (.ref j) = some b := by
    show (if ((clsIn K j).isSome && typeIn K (.ref j) == some (.type "type")) = true then subIn K (.ref i) (.ref j) else none) = some b
    rw [if_pos e2]; exact h
  unfold kitOne
  split
  · next q =>
    rcases hn with rfl | hn
    · rfl
    · have : Value.ref i = Value.ref j := eq_of_beq q
      exact absurd (by injection this) hn
  · exact e3
theorem kit_val {K : Frag} {i : Addr} {b : Bool} (h : subIn K (.ref i) (.type "ValueError") = some b) : kitOne K (.ref i) (.type "ValueError") = some b := by
  unfold kitOne
  split
  · next q =>
    have : Value.ref i = Value.type "ValueError" := eq_of_beq q
    cases this
  · show (if kitMeta "ValueError" = true then subIn K (.ref i) (.type "ValueError") else none) = some b
    rw [if_pos (by decide +kernel)]; exact h
end PySem.W
namespace Ml
open PySem PySem.Spec PyProof.Rows L2
variable {G : Gx}
inductive StV where
  | i (n : Int) | s (x : Script)
def stIm (G : Gx) (H : Hp) (v : V) : StV → Prop
  | .i n => v = .int n
  | .s s => Im.im G H v s
theorem stIm_st {H H' : Hp} {v : V} {x : StV} (h : stIm G H v x) (st : Stab G H H') : stIm G H' v x := by
  cases x with
  | i n => exact h
  | s s =>
    have h : Im.im G H v s := h
    exact (Im.st h st : Im.im G H' v s)
instance stvI : Im G StV := ⟨stIm G, fun h s => stIm_st h s⟩
end Ml
namespace L2
open PySem PySem.Spec PyProof.Rows
end L2
namespace Ml
open PySem PySem.Spec PyProof.Rows L2
variable {G : Gx} {H : Hp} {L : List (Asn G)} {Q : VK}
theorem imL_str : ∀ {vs : List V} {xs : List Str}, imL (G := G) H vs xs → imL (G := G) H vs (xs.map Any.str)
  | [], [], _ => True.intro
  | v :: vs, x :: xs, h => ⟨any_str.mpr h.1, imL_str h.2⟩
theorem any_lstS {v : V} {xs : List Str} (h : Im.im G H v xs) : Im.im G H v (Any.lst (xs.map Any.str)) := by
  obtain ⟨a, vs, e, g, m⟩ := h
  exact any_lsts.mpr ⟨a, vs, e, g, imL_str m⟩
theorem any_lstA {v : V} {xs : List Any} (h : Im.im G H v xs) : Im.im G H v (Any.lst xs) := by
  obtain ⟨a, vs, e, g, m⟩ := h
  exact any_lsts.mpr ⟨a, vs, e, g, m⟩
end Ml
namespace Ml
open PySem PySem.Spec PyProof.Rows L2
variable {G : Gx} {κ β : Type} [Kx κ] [DecidableEq κ] [Im G β] {H : Hp} {L L' : List (Asn G)} {σ : L2.St} {Q : VK} {td ty tx : TE} {k : κ} {a : Addr} {xs : List (κ × β)} {i : Nat}
/-- d[k], k there -/
theorem ev_dget {v : V} {y : β} (hS : Sep H L) (e : L[i]? = some (dictA a xs)) (hd : Ev td σ H (.ref a)) (hy : Ev ty σ H (kV (Kx.key k))) (g : DGet H a (kV (Kx.key k)) (some v)) : Ev (tDGet td ty) σ H v :=
  fun Q q => hd _ (hy _ ⟨a, v, rfl, g, q⟩)
theorem dget_some {y : β} (hS : Sep H L) (e : L[i]? = some (dictA a xs)) (h : dget xs k = some y) : ∃ v, DGet H a (kV (Kx.key k)) (some v) ∧ Im.im G H v y := by
  obtain ⟨r, g, h1, _⟩ := dget_at hS e (k := k) h
  obtain ⟨v, rfl, m⟩ := h1 y rfl
  exact ⟨v, g, m⟩
/-- what d[k] wants: that k is there -/
def dgetR (xs : List (κ × β)) (k : κ) : R β := match dget xs k with
  | some y => .ok y
  | none => .bad
theorem wp_dget {ρ : Type} {q : ρ → Prop} {e : Exc → Prop} {f : β → R ρ} (h : R.wp ((dgetR xs k).bind f) q e) : ∃ y, dget xs k = some y ∧ R.wp (f y) q e := by
  unfold dgetR at h
  cases c : dget xs k with
  | none => rw [c] at h; exact h.elim
  | some y => rw [c] at h; exact ⟨y, rfl, h⟩
/-- d[k] = v -/
theorem k_setD {v : V} {y : β} {P : Hp → Prop} (hS : Sep H L) (e : L[i]? = some (dictA a xs)) (hv : Im.im G H v y) (hl : xs.length < sizeLine) (e2 : L.set i (dictA a (dput xs k y)) = L') (q : ∀ H', Sep H' L' → P H') : rSetD (.ref a) (kV (Kx.key k)) v H P := by
  obtain ⟨ps, h, m⟩ := hS.dict e
  refine ⟨a, _, rfl, .inl ⟨ps, Kx.key k, h, rfl, by rw [m.len]; exact hl, rfl⟩, q _ ?_⟩
  subst e2
  exact hS.putD e (m.put hv)
end Ml
namespace Ml
open PySem PySem.Spec PyProof.Rows L2
variable {G : Gx} {β : Type} {H : Hp} {M : List (Asn G)}
def elemsE (E : Addr → β → Asn G) (l : List (Addr × β)) : List (Asn G) := l.map fun q => E q.1 q.2
theorem erase_map {α γ : Type} (f : α → γ) : ∀ (l : List α) (j : Nat), (l.map f).eraseIdx j = (l.eraseIdx j).map f
  | [], j => by simp
  | x :: l, 0 => rfl
  | x :: l, j + 1 => by simp only [List.map_cons, List.eraseIdx_cons_succ]; rw [erase_map f l j]
theorem perm_out {α : Type} : ∀ {l : List α} {j : Nat} {x : α}, l[j]? = some x → (x :: l.eraseIdx j).Perm l
  | [], j, x, h => by cases h
  | y :: l, 0, x, h => by
    have : y = x := by simpa using h
    subst this; exact .refl _
  | y :: l, j + 1, x, h => by
    have h2 : l[j]? = some x := by simpa using h
    exact (List.Perm.swap y x _).trans ((perm_out h2).cons y)
end Ml
namespace Ml
open PySem PySem.Spec PyProof.Rows L2
variable {G : Gx} {κ β : Type} [Kx κ] [DecidableEq κ] {H : Hp} {M : List (Asn G)}
def refsD (kvs : List (κ × β)) (ps : List Addr) : List (Key × V) := List.zipWith (fun kv p => (Kx.key kv.1, V.ref p)) kvs ps
def dictE (E : Addr → β → Asn G) (a : Addr) (kvs : List (κ × β)) : Asn G := exA fun (ps : List Addr) => andA (ps.length = kvs.length ∧ (kvs.map (·.1)).Nodup) (star (cell a (.dK (refsD kvs ps)) :: elemsE E (ps.zip (kvs.map (·.2)))))
theorem refs_val {kvs : List (κ × β)} {ps : List Addr} {j : Nat} {k : κ} {y : β} {p : Addr} (hl : ps.length = kvs.length) (hn : (kvs.map (·.1)).Nodup) (hj : kvs[j]? = some (k, y)) (hp : ps[j]? = some p) : valV (refsD kvs ps) (Kx.key k) = some (.ref p) := by
  induction kvs generalizing ps j with
  | nil => cases hj
  | cons kv kvs ih =>
    cases ps with
    | nil => cases hl
    | cons q ps =>
      cases j with
      | zero =>
        have h1 : kv = (k, y) := by simpa using hj
        have h2 : q = p := by simpa using hp
        subst h1 h2
        show valV ((Kx.key k, V.ref q) :: refsD kvs ps) (Kx.key k) = _
        unfold valV
        simp
      | succ j =>
        have hj' : kvs[j]? = some (k, y) := by simpa using hj
        have hp' : ps[j]? = some p := by simpa using hp
        rw [List.map_cons, List.nodup_cons] at hn
        have hk : ¬ kv.1 = k := fun e => hn.1 (List.mem_map.mpr ⟨(k, y), List.mem_of_getElem? hj', e.symm⟩)
        have := ih (ps := ps) (j := j) (by simpa using hl) hn.2 hj' hp'
        show valV ((Kx.key kv.1, V.ref q) :: refsD kvs ps) (Kx.key k) = _
        unfold valV at this ⊢
        have hk2 : ¬ Kx.key kv.1 = Kx.key k := fun e => hk (Kx.inj e)
        simpa [hk2] using this
theorem zip_hole {ps : List Addr} {xs : List β} {j : Nat} {z : β} (hl : ps.length = xs.length) : (ps.zip (xs.set j z)).eraseIdx j = (ps.zip xs).eraseIdx j := by
  induction ps generalizing xs j with
  | nil => simp
  | cons q ps ih =>
    cases xs with
    | nil => cases hl
    | cons x xs =>
      cases j with
      | zero => rfl
      | succ j =>
        simp only [List.set_cons_succ, List.zip_cons_cons, List.eraseIdx_cons_succ]
        rw [ih (by simpa using hl)]
theorem put_at {kvs : List (κ × β)} {j : Nat} {k : κ} {y z : β} (hn : (kvs.map (·.1)).Nodup) (hj : kvs[j]? = some (k, y)) : dput kvs k z = kvs.set j (k, z) := by
  have hany : (kvs.any fun kv => decide (kv.1 = k)) = true := List.any_eq_true.mpr ⟨(k, y), List.mem_of_getElem? hj, by simp⟩
  unfold dput
  rw [if_pos hany]
  clear hany
  induction kvs generalizing j with
  | nil => cases hj
  | cons kv kvs ih =>
    rw [List.map_cons, List.nodup_cons] at hn
    cases j with
    | zero =>
      have h1 : kv = (k, y) := by simpa using hj
      subst h1
      have : kvs.map (fun kv => if kv.1 = k then (kv.1, z) else kv) = kvs := by
        have : ∀ q, q ∈ kvs → (if q.1 = k then (q.1, z) else q) = q := fun q hq => by
          rw [if_neg]
          intro e
          exact hn.1 (List.mem_map.mpr ⟨q, hq, e⟩)
        conv => rhs; rw [← List.map_id kvs]
        exact List.map_congr_left this
      simp [this]
    | succ j =>
      have hj' : kvs[j]? = some (k, y) := by simpa using hj
      have hk : ¬ kv.1 = k := fun e => hn.1 (List.mem_map.mpr ⟨(k, y), List.mem_of_getElem? hj', e.symm⟩)
      rw [List.map_cons, if_neg hk, List.set_cons_succ, ih hn.2 hj']
end Ml
namespace Ml
open PySem PySem.Spec PyProof.Rows L2
variable {G : Gx} {κ β : Type} [Kx κ] [DecidableEq κ] {H : Hp} {M : List (Asn G)}
theorem refs_new {y : β} {kvs : List (κ × β)} {ps : List Addr} {k : κ} {p : Addr} (hl : ps.length = kvs.length) (hk : ¬ k ∈ kvs.map (·.1)) : putK (refsD kvs ps) (Kx.key k) (.ref p) = refsD (kvs ++ [(k, y)]) (ps ++ [p]) := by
  have h1 : (refsD kvs ps).any (fun kv => decide (kv.1 = Kx.key k)) = false := by
    rw [Bool.eq_false_iff]
    intro z
    obtain ⟨q, hq, e⟩ := List.any_eq_true.mp z
    have e := of_decide_eq_true e
    unfold refsD at hq
    induction kvs generalizing ps with
    | nil => simp at hq
    | cons kv kvs ih =>
      cases ps with
      | nil => cases hl
      | cons r ps =>
        rw [List.zipWith_cons_cons] at hq
        rcases List.mem_cons.mp hq with rfl | hq
        · exact hk (by rw [List.map_cons]; exact List.mem_cons.mpr (.inl (Kx.inj e).symm))
        · exact ih (ps := ps) (by simpa using hl) (fun m => hk (by rw [List.map_cons]; exact List.mem_cons_of_mem _ m)) (by
            refine List.any_eq_true.mpr ⟨q, hq, by simpa using e⟩) hq
  unfold putK
  rw [h1]
  unfold refsD
  rw [List.zipWith_append hl.symm]
  rfl
theorem refs_len {kvs : List (κ × β)} {ps : List Addr} (hl : ps.length = kvs.length) : (refsD kvs ps).length = kvs.length := by
  unfold refsD
  rw [List.length_zipWith]; omega
/-- d[k] = v, v an own thing, k new -/
theorem k_newE {E : Addr → β → Asn G} {a : Addr} {kvs : List (κ × β)} {k : κ} {p : Addr} {y : β} {P : Hp → Prop} (h : Sep H (dictE E a kvs :: E p y :: M)) (hk : ¬ k ∈ kvs.map (·.1)) (hz : kvs.length < sizeLine)
    (q : ∀ H', Sep H' (dictE E a (kvs ++ [(k, y)]) :: M) → P H') : rSetD (.ref a) (kV (Kx.key k)) (.ref p) H P := by
  obtain ⟨ps, h⟩ := Sep.ex h
  obtain ⟨⟨hl, hn⟩, h⟩ := Sep.and h
  have h := Sep.star1 h
  have hc : H a = some (.dK (refsD kvs ps)) := h.getCell (i := 0) rfl
  refine ⟨a, _, rfl, .inl ⟨refsD kvs ps, Kx.key k, hc, rfl, by rw [refs_len hl]; exact hz, rfl⟩, q _ ?_⟩
  have h2 := h.put (i := 0) (a := a) (o := .dK (refsD kvs ps)) (o' := .dK (putK (refsD kvs ps) (Kx.key k) (.ref p))) rfl rfl rfl
  refine Sep.exI (ps ++ [p]) (Sep.andI ⟨by rw [List.length_append, List.length_append, hl]; rfl, ?_⟩ (Sep.unstar1 ?_))
  · rw [List.map_append, List.nodup_append]
    refine ⟨hn, by simp, fun x hx z hz => ?_⟩
    rw [List.map_singleton, List.mem_singleton] at hz
    intro e
    have hz : z = k := hz
    exact hk (by rw [← hz, ← e]; exact hx)
  · have e1 : elemsE E ((ps ++ [p]).zip ((kvs ++ [(k, y)]).map (·.2))) = elemsE E (ps.zip (kvs.map (·.2))) ++ [E p y] := by
      unfold elemsE
      rw [List.map_append, List.zip_append (by rw [List.length_map]; exact hl), List.map_append]
      rfl
    rw [e1, ← refs_new (y := y) hl hk]
    have : ((cell a (.dK (putK (refsD kvs ps) (Kx.key k) (.ref p))) :: elemsE E (ps.zip (kvs.map (·.2)))) ++ (E p y :: M)) = ((cell a (.dK (putK (refsD kvs ps) (Kx.key k) (.ref p))) :: (elemsE E (ps.zip (kvs.map (·.2))) ++ [E p y])) ++ M) := by simp
    rw [← this]
    exact h2
end Ml
namespace PySem.SeqAt
open AutoSeq1 (wpAny_loadPart')
open MeetsSeq MeetsSeq2 MeetsSeq3
section
variable {prog : Program} {w : World} {A : Around} {s : Shared} {E : Value → Shared → Prop}
def DictAt (s : Shared) (d : Addr) : Prop := ∃ dd es ep sl, s.heap.get? d = some ⟨.type "dict", dd, .dict es ep, sl⟩
theorem DictAt.ty {d : Addr} (h : DictAt s d) : s.TypeIs (.ref d) "dict" := by obtain ⟨dd, es, ep, sl, h⟩ := h; exact ⟨_, h, rfl⟩
end
end PySem.SeqAt
namespace L2
open PySem PySem.Spec PyProof.Rows
/-- tuple(row) -/
def rTupleOf (K : PySem.W.Frag) : List V → Hp → VK → Prop := fun xs H Q => ∃ p ys, xs = [.ref p] ∧ ((SqL K H p ys ∧ ∀ l, H l = none → Q (.ref l) (upd H l (.tup ys))) ∨ (SqT K H p ys ∧ Q (.ref p) H))
theorem tupleOfK {X : Cx} (K : PySem.W.Frag) (hK : X.K = K := by rfl) : CallR X (.type "tuple") (rTupleOf K) := by subst hK; exact call_tuple_of
/-- isinstance(e, c), e the exception that the suite holds -/
def rIsEd (K : PySem.W.Frag) (cls : Value) (d : Option Addr) (a : Addr) : List V → Hp → VK → Prop := fun xs H Q => ∃ D, cls = .ref D ∧ d = none ∧ ExcC K D ∧ rIsEB K D a xs H Q
theorem call_isEd {X : Cx} (K : PySem.W.Frag) {a : Addr} {cls : Value} {d : Option Addr} {oe : Obj} (hp : (a, oe) ∈ X.pn) (hz : Zc cls d oe) (hf : ∃ vs, oe.data = .fields vs) (hK : X.K = K := by rfl) : CallR X (.builtin "isinstance") (rIsEd K cls d a) := by
  intro pins s σ H xs us Q I r h
  obtain ⟨D, rfl, rfl, C, h⟩ := h
  exact call_isP K hp C hz hf hK pins s σ H xs us Q I r h
end L2
namespace Ml
open PySem PySem.Spec PyProof.Rows L2
variable {G : Gx} {H : Hp} {L : List (Asn G)} {Q : VK}
theorem ev_isXd {a : Addr} {σ : L2.St} {D : Addr} {ta tb : TE} {c : V} {cv : Value} {b : Bool} (ha : Ev ta σ H (.ref a)) (hb : Ev tb σ H c) (hc : ClsV c cv) (C : ExcC G.K D) (e : PySem.W.kitOne G.K (.ref D) cv = some b) :
    Ev (tCB (rIsEd G.K (.ref D) none a) (tCons ta (tCons tb tNil))) σ H (.bl b) := ev_cb (ea_cons ha (ea_cons hb ea_nil)) fun _ q => ⟨D, rfl, rfl, C, c, cv, b, rfl, hc, e, q⟩
theorem imL_int : ∀ {vs : List V} {xs : List Int}, imL (G := G) H vs xs → imL (G := G) H vs (xs.map Any.int)
  | [], [], _ => True.intro
  | v :: vs, x :: xs, h => ⟨any_int.mpr h.1, imL_int h.2⟩
theorem any_lstI {v : V} {xs : List Int} (h : Im.im G H v xs) : Im.im G H v (Any.lst (xs.map Any.int)) := by
  obtain ⟨a, vs, e, g, m⟩ := h
  exact any_lsts.mpr ⟨a, vs, e, g, imL_int m⟩
theorem R.need_rev {α : Type} {p : Prop} {inst : Decidable p} {k : R α} {q : α → Prop} {e : Exc → Prop} {Z : Prop} (f : p → k.wp q e → Z) (h : (@R.need α p inst k).wp q e) : Z := f (R.wp_need h).1 (R.wp_need h).2
end Ml
namespace Ml
open PySem PySem.Spec PyProof.Rows
def leT (a b : Str) : Bool := !decide (b.cps.toList < a.cps.toList)
theorem leT_iff {a b : Str} : leT a b = true ↔ a.cps.toList ≤ b.cps.toList := by
  unfold leT
  rw [Bool.not_eq_true', decide_eq_false_iff_not]
  exact List.not_lt
theorem leT_tr (a b c : Str) (x : leT a b = true) (y : leT b c = true) : leT a c = true := leT_iff.mpr (List.le_trans (leT_iff.mp x) (leT_iff.mp y))
theorem leT_tot (a b : Str) : (leT a b || leT b a) = true := by
  rw [Bool.or_eq_true]
  exact (List.le_total a.cps.toList b.cps.toList).imp leT_iff.mpr leT_iff.mpr
theorem leT_anti {a b : Str} (x : leT a b = true) (y : leT b a = true) : a = b := by
  have e := List.le_antisymm (leT_iff.mp x) (leT_iff.mp y)
  obtain ⟨⟨xs⟩⟩ := a
  obtain ⟨⟨ys⟩⟩ := b
  cases e
  rfl
def sortT (xs : List Str) : List Str := xs.mergeSort leT
theorem sortT_perm (xs : List Str) : (sortT xs).Perm xs := List.mergeSort_perm xs leT
theorem sortT_up (xs : List Str) : (sortT xs).Pairwise (fun a b => leT a b = true) := List.pairwise_mergeSort leT_tr leT_tot xs
theorem up_one : ∀ {xs ys : List Str}, xs.Pairwise (fun a b => leT a b = true) → ys.Pairwise (fun a b => leT a b = true) → xs.Perm ys → xs = ys
  | [], ys, _, _, p => p.nil_eq
  | x :: r, [], _, _, p => absurd p.length_eq (by simp)
  | x :: r, y :: t, ux, uy, p => by
    have ex : x = y := by
      by_cases z : x = y
      · exact z
      · have mx : x ∈ t := (List.mem_cons.mp (p.mem_iff.mp List.mem_cons_self)).resolve_left z
        have my : y ∈ r := (List.mem_cons.mp (p.mem_iff.mpr List.mem_cons_self)).resolve_left (fun q => z q.symm)
        exact leT_anti (List.rel_of_pairwise_cons ux my) (List.rel_of_pairwise_cons uy mx)
    subst ex
    rw [up_one (List.pairwise_cons.mp ux).2 (List.pairwise_cons.mp uy).2 (p.cons_inv)]
theorem rising_leT : ∀ {p : Str} {xs : List Str}, risingS p xs = true → (p :: xs).Pairwise (fun a b => leT a b = true)
  | p, [], _ => List.pairwise_singleton _ _
  | p, x :: r, h => by
    have h' : (!ltCps x.cps.toList p.cps.toList && risingS x r) = true := h
    rw [Bool.and_eq_true, ltCps_eq] at h'
    have t := rising_leT h'.2
    have px : leT p x = true := h'.1
    refine List.pairwise_cons.mpr ⟨fun y hy => ?_, t⟩
    rcases List.mem_cons.mp hy with e | e
    · rw [e]; exact px
    · exact leT_tr _ _ _ px (List.rel_of_pairwise_cons t e)
theorem sorted_leT : ∀ {xs : List Str}, sortedS xs = true → xs.Pairwise (fun a b => leT a b = true)
  | [], _ => List.Pairwise.nil
  | _ :: _, h => rising_leT h
theorem sortT_of {xs ys : List Str} (p : ys.Perm xs) (h : ys.Pairwise (fun a b => leT a b = true)) : ys = sortT xs := up_one h (sortT_up xs) (p.trans (sortT_perm xs).symm)
theorem sortT_congr {xs ys : List Str} (p : xs.Perm ys) : sortT xs = sortT ys := sortT_of ((sortT_perm xs).trans p) (sortT_up xs)
def onceL : List Str → List Str
  | [] => []
  | x :: r => if x ∈ r then onceL r else x :: onceL r
theorem mem_onceL {x : Str} : ∀ {xs : List Str}, x ∈ onceL xs ↔ x ∈ xs
  | [] => Iff.rfl
  | y :: r => by
    unfold onceL
    split
    · rename_i c
      rw [mem_onceL, List.mem_cons]
      exact ⟨.inr, fun h => h.elim (fun e => e ▸ c) id⟩
    · rw [List.mem_cons, List.mem_cons, mem_onceL]
theorem nodup_onceL : ∀ {xs : List Str}, (onceL xs).Nodup
  | [] => List.nodup_nil
  | y :: r => by
    unfold onceL
    split
    · exact nodup_onceL
    · rename_i c
      exact List.nodup_cons.mpr ⟨fun h => c (mem_onceL.mp h), nodup_onceL⟩
theorem perm_of_len : ∀ {xs ys : List Str}, xs.Nodup → (∀ x, x ∈ xs → x ∈ ys) → ys.length ≤ xs.length → ys.Perm xs
  | [], ys, _, _, l => by
    have e : ys = [] := List.length_eq_zero_iff.mp (Nat.le_zero.mp l)
    rw [e]
  | x :: r, ys, d, m, l => by
    obtain ⟨d1, d2⟩ := List.nodup_cons.mp d
    have hx := m x List.mem_cons_self
    have pe := List.perm_cons_erase hx
    refine pe.trans (List.Perm.cons x (perm_of_len d2 (fun y hy => ?_) ?_))
    · rcases List.mem_cons.mp (pe.mem_iff.mp (m y (List.mem_cons_of_mem _ hy))) with e | e
      · rw [e] at hy; exact absurd hy d1
      · exact e
    · have q := pe.length_eq
      simp only [List.length_cons] at q l
      omega
theorem nodup_len : ∀ {xs ys : List Str}, xs.Nodup → (∀ x, x ∈ xs → x ∈ ys) → xs.length ≤ ys.length
  | [], _, _, _ => Nat.zero_le _
  | x :: r, ys, d, m => by
    obtain ⟨d1, d2⟩ := List.nodup_cons.mp d
    have pe := List.perm_cons_erase (m x List.mem_cons_self)
    have q := pe.length_eq
    have t : r.length ≤ (ys.erase x).length := nodup_len d2 fun y hy => by
      rcases List.mem_cons.mp (pe.mem_iff.mp (m y (List.mem_cons_of_mem _ hy))) with e | e
      · rw [e] at hy; exact absurd hy d1
      · exact e
    simp only [List.length_cons] at q ⊢
    omega
theorem perm_same {xs ys : List Str} (d : xs.Nodup) (e : ys.Nodup) (m : ∀ x, x ∈ xs ↔ x ∈ ys) : xs.Perm ys := perm_of_len e (fun x h => (m x).mpr h) (nodup_len d fun x h => (m x).mp h)
/-- sorted(set(xs)) -/
def ssetT (xs : List Str) : List Str := sortT (onceL xs)
theorem mem_ssetT {x : Str} {xs : List Str} : x ∈ ssetT xs ↔ x ∈ xs := (sortT_perm _).mem_iff.trans mem_onceL
theorem ssetT_nodup (xs : List Str) : (ssetT xs).Nodup := (sortT_perm _).nodup_iff.mpr nodup_onceL
theorem ssetT_up (xs : List Str) : (ssetT xs).Pairwise (fun a b => leT a b = true) := sortT_up _
theorem ssetT_is {xs ys : List Str} (d : ys.Nodup) (u : ys.Pairwise (fun a b => leT a b = true)) (m : ∀ x, x ∈ ys ↔ x ∈ xs) : ys = ssetT xs :=
  up_one u (ssetT_up xs) (perm_same d (ssetT_nodup xs) fun x => (m x).trans mem_ssetT.symm)
theorem ssetT_congr {xs ys : List Str} (m : ∀ x, x ∈ xs ↔ x ∈ ys) : ssetT xs = ssetT ys := ssetT_is (ssetT_nodup xs) (ssetT_up xs) fun x => mem_ssetT.trans (m x)
end Ml
namespace L2
open PySem PySem.Spec PyProof.Rows PySem.Froz Ml
def OrdOk (w : World) (D : SD) : Prop := Ris D.2.2.place.toList ∧ (w.params.followText "set-order" = true ∨ D.2.2.led = true)
theorem ord_tail {w : World} {ep : Nat} {es : Array (Int × Value)} {t : SetTable} {b : Bool} (r : Ris t.place.toList) (l : w.params.followText "set-order" = true ∨ t.led = true) : OrdOk w (tailTx ep es t b) := by
  unfold tailTx
  split
  · exact ⟨relayAll_ris t es _, l.imp id fun z => by rw [relayAll_led]; exact z⟩
  · exact ⟨r, l⟩
theorem ord_add {w : World} {D : SD} {h : Int} {v : Value} (o : OrdOk w D) : OrdOk w (addTx h v D) := by
  obtain ⟨es, ep, t⟩ := D
  have r := layNew_ris t es h v o.1
  have l : w.params.followText "set-order" = true ∨ (layNew t es h v).2.1.led = true := o.2.imp id fun z => by rw [layNew_led]; exact z
  unfold addTx
  dsimp only
  split
  · exact ord_tail r l
  · exact ord_tail r l
structure SX (P : Program) (w : World) (D : SD) (l : List Str) : Prop where
  ok : TxOk P w D l
  nd : l.Nodup
  od : OrdOk w D
section
variable {P : Program} {w : World} {A : Around} {E : Value → Shared → Prop} {s : Shared}
theorem add_had {a : Addr} {T : String} {D : SD} {l : List Str} {k : Str} {u : Tok} {Q : Bool → Shared → Prop} (ho : s.heap.get? a = some (sObj T D)) (F : TxOk P w D l) (hk : k ∈ l) (hb : l.length < scanBound)
    (h : Q false s) : wpAny (model P w) A (setAddHashed a (.str k u) (hashStr w k)) Q E s := by
  obtain ⟨es, ep, t⟩ := D
  have few : es.size < scanBound := by rw [show es.size = l.length from F.sz]; exact hb
  unfold setAddHashed setAddHashedIn
  refine wpAny_holding (wpAny_bind (wpAny_setState_of ho rfl F.fit ?_))
  dsimp only
  rw [byScan_of rfl few F.el]
  simp only [↓reduceIte]
  unfold setAddByScan
  refine wpAny_bind (wpAny_bind (wpAny_rule (wpAny_bind (wpAny_setScan_of (knd := strKind P w) (k := k) (is_str k u) ho rfl F.fit F.el ?_))))
  cases hr : List.findIdx? (fun e => (strKind P w).is k e.2) es.toList with
  | none =>
    obtain ⟨e, he, z⟩ := (F.mem k).mp hk
    have c := List.findIdx?_eq_none_iff.mp hr e he
    rw [z] at c
    cases c
  | some j =>
    dsimp only
    exact wpAny_pure (wpAny_pure h)
/-- one text more, had or new -/
theorem add_any {a : Addr} {T : String} {D : SD} {l : List Str} {k : Str} {u : Tok} {Q : Bool → Shared → Prop} (ho : s.heap.get? a = some (sObj T D)) (F : SX P w D l) (hb : l.length + 1 < scanBound)
    (h : ∀ b h' D' l', (∀ x, x ∈ l' ↔ x ∈ l ∨ x = k) → l'.length ≤ l.length + 1 → SX P w D' l' → h'.get? a = some (sObj T D') → (∀ c o, c ≠ a → s.heap.get? c = some o → h'.get? c = some o) → Q b { s with heap := h' }) :
    wpAny (model P w) A (setAddHashed a (.str k u) (hashStr w k)) Q E s := by
  by_cases c : k ∈ l
  · exact add_had ho F.ok c (Nat.lt_of_succ_lt hb) (h false s.heap D l (fun x => ⟨.inl, fun z => z.elim id fun e => e ▸ c⟩) (Nat.le_succ _) F ho fun _ _ _ e => e)
  · refine add_x ho F.ok c hb (h true _ _ (k :: l) (fun x => List.mem_cons.trans Or.comm) (Nat.le_refl _) ⟨add_ok u F.ok, List.nodup_cons.mpr ⟨c, F.nd⟩, ord_add F.od⟩ (get_upd _ ho rfl) fun d o hd e => ?_)
    exact (PySem.Heap.get?_update_of_ne _ (Ne.symm hd) e)
theorem set_fill {I : Addr} {fp wr : List Addr} {GG : Array GenState → Array GenState → Prop} {n : Nat} {Pv : Nat → Value → Prop} {St : Nat → Shared → Prop} {R : Result → Shared → Prop}
    (W : WalksS P w A.in1 I fp wr GG n Pv St) (S : Addr) (out : S ∉ fp) (xs : List Str) (hn : n = xs.length) (few : xs.length + 1 < scanBound) (val : ∀ i v, Pv i v → ∃ x t, xs[i]? = some x ∧ v = .str x t) :
    ∀ (k i : Nat) (s : Shared), n - i = k → i ≤ n → St i s → (∃ D l, l.length ≤ i ∧ (∀ x, x ∈ l ↔ x ∈ xs.take i) ∧ SX P w D l ∧ s.heap.get? S = some (sObj "set" D)) →
      (∀ s' D l, Moved (S :: wr) GG s s' → (∀ x, x ∈ l ↔ x ∈ xs) → l.length ≤ n → SX P w D l → s'.heap.get? S = some (sObj "set" D) → R (.ok (.ret .none)) s') →
      codeAny (model P w) A (.builtin "set.update.loop" ⟨[.ref S, .ref I], []⟩) R s := by
  have nw : S ∉ wr := fun h => out (W.sub _ h)
  have sub : ∀ b ∈ wr, b ∈ S :: wr := fun b hb => List.mem_cons_of_mem _ hb
  intro k
  induction k with
  | zero =>
    intro i s hk hi st ⟨D, l, hl, hm, F, ho⟩ fin
    have hin : i = n := by omega
    subst hin
    rw [List.take_of_length_le (by omega)] at hm
    refine codeAny_builtin PyProof.Rows.F.entry_set_update_loop ?_
    rw [Around.under_plainId PyProof.Rows.F.plain_set_update_loop _]
    show wpAny _ A.in1 (pyNext (.ref I) >>= _) _ _ s
    refine wpAny_bind (W.done s _ _ st fun s' mv => ?_)
    exact wpAny_pure (fin s' D l (mv.mono sub) hm hl F (mv.heap S _ nw ho))
  | succ k ih =>
    intro i s hk hi st ⟨D, l, hl, hm, F, ho⟩ fin
    have lt : i < n := by omega
    refine codeAny_builtin PyProof.Rows.F.entry_set_update_loop ?_
    rw [Around.under_plainId PyProof.Rows.F.plain_set_update_loop _]
    show wpAny _ A.in1 (pyNext (.ref I) >>= _) _ _ s
    refine wpAny_bind (W.item i s _ _ lt st fun v s' pv st' mv => ?_)
    obtain ⟨z, t, hz, rfl⟩ := val i v pv
    show wpAny _ A.in1 (holding [Value.str z t] (setAdd S (.str z t)) >>= _) _ _ s'
    refine wpAny_bind (wpAny_holding ?_)
    unfold setAdd
    refine wpAny_holding ?_
    refine wpAny_bind ((strKind P w).pyHash (k := z) (is_str z t) ?_)
    refine add_any (s := { s' with toks := s'.toks + 1 }) (mv.heap S _ nw ho) F (by omega) fun b h' D' l' hm' hl' F' ho' same => ?_
    have hm2 : ∀ x, x ∈ l' ↔ x ∈ xs.take (i + 1) := fun x => by
      rw [hm' x, hm x, List.take_add_one, hz]
      simp [List.mem_append]
    refine wpAny_pure ⟨plainId_quiet PyProof.Rows.F.plain_set_update_loop _, ih (i + 1) _ (by omega) lt (W.frame _ s' _ _ st' (Nat.le_succ _) fun b hb o e => ?_) ⟨D', l', by omega, hm2, F', ho'⟩ fun s'' D2 l2 mv2 h1 h2 h3 h4 => ?_⟩
    · exact same b o (fun q => out (q ▸ hb)) e
    · exact fin s'' D2 l2 (Moved.trans W.gtrans ((mv.mono sub).then_heap (Nat.le_succ _) fun b o hb e => same b o (fun q => hb (by rw [q]; exact List.mem_cons_self)) e) mv2) h1 h2 h3 h4
theorem sx_new {led : Bool} (hl : w.params.followText "set-order" = true ∨ led = true) : SX P w (#[], 0, .fresh 0 0 led) [] := ⟨TxOk.nil (by rfl), List.nodup_nil, List.Pairwise.nil, hl⟩
def newSet (w : World) : Obj := { cls := .type "set", dict := none, data := .set #[] 0 (.fresh 0 0 (!w.params.followText "set-order")) }
set_option maxRecDepth 100000 in
theorem set_of_list {l : Addr} {items : Array Value} (xs : List Str) {Q : Value → Shared → Prop} (calm : A.handled = none) (hl : s.heap.IsList l items) (hit : StrsAre items.toList xs) (few : xs.length + 1 < scanBound)
    (fin : ∀ (h' : Heap) (tk : Nat) (D : SD) (m : List Str), SX P w D m → (∀ x, x ∈ m ↔ x ∈ xs) → m.length ≤ xs.length → h'.get? s.heap.objs.size = some (sObj "set" D) → (∀ b o, s.heap.get? b = some o → h'.get? b = some o) → Q (.ref s.heap.objs.size) { s with heap := h', toks := tk }) :
    wpAny (model P w) A (call (.type "set") [.ref l]) Q E s := by
  have isz : items.size = xs.length := by rw [← StrsAre.len_eq hit, Array.length_toList]
  obtain ⟨hd, tl, m_⟩ := PySem.F.called_set.mro
  have m1 := PySem.F.called_set.made
  have m2 := PySem.F.called_set.sub
  refine wpAny_call (codeAny_of_tree ?_)
  show wpAny _ _ (callAny (.type "set") _) _ _ _
  refine wpAny_pure ⟨Code.quiet_builtin _ (by decide +kernel), codeAny_builtin PySem.F.entry_type_call ?_⟩
  rw [Around.under_plain (weight_type_call_type "set" [.ref l] []) rfl]
  have n1 := PySem.F.called_set.notType
  have n2 := PySem.F.called_set.canCreate
  have n3 := PySem.F.typeCall_set_1 (.ref l)
  repeat (any_goals (first | assumption | wp_step))

  refine codeAny_mono (code_set_led1 (.ref l) (E := E) (Q₁ := fun x s₁ => x = .ref s.heap.objs.size ∧ s₁ = { s with heap := s.heap.push (newSet w) }) ⟨rfl, rfl⟩) fun r s₁ hr => ?_
  cases r with
  | error e => exact hr
  | ok fl =>
    cases fl with
    | ret obj =>
      obtain ⟨rfl, rfl⟩ := hr
      have gS : (s.heap.push (newSet w)).get? s.heap.objs.size = some (newSet w) := Heap.get?_push_size _ rfl
      have tS : Shared.TypeIs { s with heap := s.heap.push (newSet w) } (.ref s.heap.objs.size) "set" := ⟨_, gS, rfl⟩
      have i1 := PySem.F.called_set.init.lookup
      have i2 := PySem.F.called_set.init.bind (.ref s.heap.objs.size)
      repeat (any_goals (first | assumption | wp_step))

      refine codeAny_mono (codeAny_call_builtin (R := wants (fun r s₂ => r = .none ∧ ∃ h' tk D m, s₂ = { s with heap := h', toks := tk } ∧ SX P w D m ∧ (∀ x, x ∈ m ↔ x ∈ xs) ∧ m.length ≤ xs.length ∧
          h'.get? s.heap.objs.size = some (sObj "set" D) ∧ (∀ b o, s.heap.get? b = some o → h'.get? b = some o)) E) PySem.F.called_set.init.plain PySem.F.entry_set_init (check_set_init_1 tS ?_)) fun r₂ s₂ hr₂ => ?_
      · obtain ⟨ol, ho, hc, nl, hd⟩ := hl
        obtain ⟨cl_, dc_, dt_, sl_⟩ := ol
        simp only at hc hd
        subst hc; subst hd
        have ho' : (s.heap.push (newSet w)).get? l = some { cls := .type "list", dict := dc_, data := .seq items nl, slots := sl_ } := Heap.get?_push_of_some _ ho
        have s1 := PySem.F.sub_list_set
        have s2 := PySem.F.sub_list_frozenset
        have s3 : (Value.type "list" == Value.type "dict") = false := by decide
        have il : (s.heap.push (newSet w)).IsList l items := ⟨_, ho', rfl, nl, rfl⟩
        unfold Builtin.«set.__init__» noKeywords Builtin.Frozenset.updateFrom
        generalize hPI : pyIter = PI
        wp_walk
        subst hPI

        refine wpAny_pyIter_list il ?_
        refine wpAny_bind (wpAny_runValue ?_)
        have lS : l < s.heap.objs.size := Heap.lt_size ho
        have c3 : A.in1.in1.in1.handled = none := by simp [calm]
        have nI : l ≠ (s.heap.push (newSet w)).objs.size := by
          rw [Heap.size_push]; exact Nat.ne_of_lt (Nat.lt_succ_of_lt lS)
        have nS : s.heap.objs.size ∉ [(s.heap.push (newSet w)).objs.size, l] := by
          rw [Heap.size_push]; simp only [List.mem_cons, List.mem_singleton, List.not_mem_nil, or_false, not_or]
          exact ⟨Nat.ne_of_lt (Nat.lt_succ_self _), Nat.ne_of_gt lS⟩
        have val : ∀ (i : Nat) (v : Value), items[i]? = some v → ∃ x t, xs[i]? = some x ∧ v = .str x t := fun i v hv => by
          have hi : i < xs.length := by rw [← isz]; exact (Array.getElem?_eq_some_iff.mp hv).1
          obtain ⟨t, e⟩ := SS.strs_at hit i v (by rw [Array.getElem?_toList]; exact hv)
          refine ⟨xs[i], t, List.getElem?_eq_getElem hi, ?_⟩
          rw [e, List.getD_eq_getElem?_getD, List.getElem?_eq_getElem hi] <;> rfl
        refine set_fill ((Walks.list c3 _ l nI items).toS) s.heap.objs.size nS xs isz few val (items.size - 0) 0 _ (by omega) (Nat.zero_le _) ⟨⟨_, Heap.get?_push_size _ rfl, rfl, rfl⟩, (il.push _)⟩ ?at0 ?end0
        case at0 =>
          have g0 : ((s.heap.push (newSet w)).push { cls := .type "list_iterator", data := .fields #[.ref l, .int 0 0] }).get? s.heap.objs.size = some (newSet w) := Heap.get?_push_of_some _ gS
          refine ⟨(#[], 0, .fresh 0 0 (!w.params.followText "set-order")), [], Nat.le_refl 0, fun x => by simp, sx_new ?_, g0⟩
          cases w.params.followText "set-order"
          · exact .inr rfl
          · exact .inl rfl
        case end0 =>
          intro s' D m mv hm hlen F hS
          obtain ⟨h', g', d', tk', os'⟩ := s'
          have eg : g' = s.gens := mv.gens
          have ed : d' = s.drawn := mv.drawn
          have eo : os' = s.os := mv.os
          subst eg; subst ed; subst eo
          show wpAny _ _ _ _ _ _
          refine wpAny_pure ?_
          show wpAny _ _ (ret Value.none) _ _ _
          refine wpAny_pure ⟨rfl, h', tk', D, m, rfl, F, hm, by rw [← isz]; exact hlen, hS, fun b o e => ?_⟩
          have b0 : b < s.heap.objs.size := Heap.lt_size e
          have b2 : b ≠ (s.heap.push (newSet w)).objs.size := by
            rw [Heap.size_push]; exact Nat.ne_of_lt (Nat.lt_succ_of_lt b0)
          exact mv.heap b o (by simp only [List.mem_cons, List.mem_singleton, List.not_mem_nil, or_false, not_or]; exact ⟨Nat.ne_of_lt b0, b2⟩) (Heap.get?_push_of_some _ (Heap.get?_push_of_some _ e))
      · cases r₂ with
        | error e => exact hr₂
        | ok fl₂ =>
          cases fl₂ with
          | ret r =>
            obtain ⟨rfl, h', tk, D, m, rfl, F, hm, hlen, hS, hk⟩ := hr₂
            repeat (any_goals (first | assumption | wp_step))
            exact fin _ _ D m F hm hlen hS hk
          | _ => exact hr₂.elim
    | _ => exact hr.elim
set_option maxRecDepth 100000 in
theorem set_of_tuple {l : Addr} {items : Array Value} (xs : List Str) {Q : Value → Shared → Prop} (calm : A.handled = none) (hl : s.heap.IsTuple l items) (hit : StrsAre items.toList xs) (few : xs.length + 1 < scanBound)
    (fin : ∀ (h' : Heap) (tk : Nat) (D : SD) (m : List Str), SX P w D m → (∀ x, x ∈ m ↔ x ∈ xs) → m.length ≤ xs.length → h'.get? s.heap.objs.size = some (sObj "set" D) → (∀ b o, s.heap.get? b = some o → h'.get? b = some o) → Q (.ref s.heap.objs.size) { s with heap := h', toks := tk }) :
    wpAny (model P w) A (call (.type "set") [.ref l]) Q E s := by
  have isz : items.size = xs.length := by rw [← StrsAre.len_eq hit, Array.length_toList]
  obtain ⟨hd, tl, m_⟩ := PySem.F.called_set.mro
  have m1 := PySem.F.called_set.made
  have m2 := PySem.F.called_set.sub
  refine wpAny_call (codeAny_of_tree ?_)
  show wpAny _ _ (callAny (.type "set") _) _ _ _
  refine wpAny_pure ⟨Code.quiet_builtin _ (by decide +kernel), codeAny_builtin PySem.F.entry_type_call ?_⟩
  rw [Around.under_plain (weight_type_call_type "set" [.ref l] []) rfl]
  have n1 := PySem.F.called_set.notType
  have n2 := PySem.F.called_set.canCreate
  have n3 := PySem.F.typeCall_set_1 (.ref l)
  repeat (any_goals (first | assumption | wp_step))

  refine codeAny_mono (code_set_led1 (.ref l) (E := E) (Q₁ := fun x s₁ => x = .ref s.heap.objs.size ∧ s₁ = { s with heap := s.heap.push (newSet w) }) ⟨rfl, rfl⟩) fun r s₁ hr => ?_
  cases r with
  | error e => exact hr
  | ok fl =>
    cases fl with
    | ret obj =>
      obtain ⟨rfl, rfl⟩ := hr
      have gS : (s.heap.push (newSet w)).get? s.heap.objs.size = some (newSet w) := Heap.get?_push_size _ rfl
      have tS : Shared.TypeIs { s with heap := s.heap.push (newSet w) } (.ref s.heap.objs.size) "set" := ⟨_, gS, rfl⟩
      have i1 := PySem.F.called_set.init.lookup
      have i2 := PySem.F.called_set.init.bind (.ref s.heap.objs.size)
      repeat (any_goals (first | assumption | wp_step))

      refine codeAny_mono (codeAny_call_builtin (R := wants (fun r s₂ => r = .none ∧ ∃ h' tk D m, s₂ = { s with heap := h', toks := tk } ∧ SX P w D m ∧ (∀ x, x ∈ m ↔ x ∈ xs) ∧ m.length ≤ xs.length ∧
          h'.get? s.heap.objs.size = some (sObj "set" D) ∧ (∀ b o, s.heap.get? b = some o → h'.get? b = some o)) E) PySem.F.called_set.init.plain PySem.F.entry_set_init (check_set_init_1 tS ?_)) fun r₂ s₂ hr₂ => ?_
      · obtain ⟨ol, ho, hc, nl, hd⟩ := hl
        obtain ⟨cl_, dc_, dt_, sl_⟩ := ol
        simp only at hc hd
        subst hc; subst hd
        have ho' : (s.heap.push (newSet w)).get? l = some { cls := .type "tuple", dict := dc_, data := .seq items nl, slots := sl_ } := Heap.get?_push_of_some _ ho
        have s1 := PySem.F.sub_tuple_set
        have s2 := PySem.F.sub_tuple_frozenset
        have s3 : (Value.type "tuple" == Value.type "dict") = false := by decide
        have il : (s.heap.push (newSet w)).IsTuple l items := ⟨_, ho', rfl, nl, rfl⟩
        unfold Builtin.«set.__init__» noKeywords Builtin.Frozenset.updateFrom
        generalize hPI : pyIter = PI
        wp_walk
        subst hPI

        refine wpAny_pyIter_tuple il ?_
        refine wpAny_bind (wpAny_runValue ?_)
        have lS : l < s.heap.objs.size := Heap.lt_size ho
        have c3 : A.in1.in1.in1.handled = none := by simp [calm]
        have nI : l ≠ (s.heap.push (newSet w)).objs.size := by
          rw [Heap.size_push]; exact Nat.ne_of_lt (Nat.lt_succ_of_lt lS)
        have nS : s.heap.objs.size ∉ [(s.heap.push (newSet w)).objs.size, l] := by
          rw [Heap.size_push]; simp only [List.mem_cons, List.mem_singleton, List.not_mem_nil, or_false, not_or]
          exact ⟨Nat.ne_of_lt (Nat.lt_succ_self _), Nat.ne_of_gt lS⟩
        have val : ∀ (i : Nat) (v : Value), items[i]? = some v → ∃ x t, xs[i]? = some x ∧ v = .str x t := fun i v hv => by
          have hi : i < xs.length := by rw [← isz]; exact (Array.getElem?_eq_some_iff.mp hv).1
          obtain ⟨t, e⟩ := SS.strs_at hit i v (by rw [Array.getElem?_toList]; exact hv)
          refine ⟨xs[i], t, List.getElem?_eq_getElem hi, ?_⟩
          rw [e, List.getD_eq_getElem?_getD, List.getElem?_eq_getElem hi] <;> rfl
        refine set_fill ((Walks.tuple c3 _ l nI items).toS) s.heap.objs.size nS xs isz few val (items.size - 0) 0 _ (by omega) (Nat.zero_le _) ⟨⟨_, Heap.get?_push_size _ rfl, rfl, rfl⟩, (il.push _)⟩ ?at0 ?end0
        case at0 =>
          have g0 : ((s.heap.push (newSet w)).push { cls := .type "tuple_iterator", data := .fields #[.ref l, .int 0 0] }).get? s.heap.objs.size = some (newSet w) := Heap.get?_push_of_some _ gS
          refine ⟨(#[], 0, .fresh 0 0 (!w.params.followText "set-order")), [], Nat.le_refl 0, fun x => by simp, sx_new ?_, g0⟩
          cases w.params.followText "set-order"
          · exact .inr rfl
          · exact .inl rfl
        case end0 =>
          intro s' D m mv hm hlen F hS
          obtain ⟨h', g', d', tk', os'⟩ := s'
          have eg : g' = s.gens := mv.gens
          have ed : d' = s.drawn := mv.drawn
          have eo : os' = s.os := mv.os
          subst eg; subst ed; subst eo
          show wpAny _ _ _ _ _ _
          refine wpAny_pure ?_
          show wpAny _ _ (ret Value.none) _ _ _
          refine wpAny_pure ⟨rfl, h', tk', D, m, rfl, F, hm, by rw [← isz]; exact hlen, hS, fun b o e => ?_⟩
          have b0 : b < s.heap.objs.size := Heap.lt_size e
          have b2 : b ≠ (s.heap.push (newSet w)).objs.size := by
            rw [Heap.size_push]; exact Nat.ne_of_lt (Nat.lt_succ_of_lt b0)
          exact mv.heap b o (by simp only [List.mem_cons, List.mem_singleton, List.not_mem_nil, or_false, not_or]; exact ⟨Nat.ne_of_lt b0, b2⟩) (Heap.get?_push_of_some _ (Heap.get?_push_of_some _ e))
      · cases r₂ with
        | error e => exact hr₂
        | ok fl₂ =>
          cases fl₂ with
          | ret r =>
            obtain ⟨rfl, h', tk, D, m, rfl, F, hm, hlen, hS, hk⟩ := hr₂
            repeat (any_goals (first | assumption | wp_step))
            exact fin _ _ D m F hm hlen hS hk
          | _ => exact hr₂.elim
    | _ => exact hr.elim
theorem elems_strs {l : List (Int × Value)} (g : ElemsOf (strKind P w) l) : ∀ v ∈ l.map (·.2), ∃ k t, v = Value.str k t := fun v hv => by
  obtain ⟨e, he, rfl⟩ := List.mem_map.mp hv
  obtain ⟨⟨k, h1, _⟩, _⟩ := g e he
  obtain ⟨t, ev⟩ := Value.isStrOf_shape (x := k) (v := e.2) h1
  exact ⟨k, t, ev⟩
theorem strs_all : ∀ {vs : List Value}, (∀ v ∈ vs, ∃ k t, v = Value.str k t) → ∃ ks, StrsAre vs ks
  | [], _ => ⟨[], .nil⟩
  | v :: r, h => by
    obtain ⟨k, t, rfl⟩ := h v List.mem_cons_self
    obtain ⟨ks, hk⟩ := strs_all (vs := r) fun u hu => h u (List.mem_cons_of_mem _ hu)
    exact ⟨k :: ks, .cons k t hk⟩
theorem mem_strs {k : Str} : ∀ {vs : List Value} {ks : List Str}, StrsAre vs ks → (k ∈ ks ↔ ∃ t, Value.str k t ∈ vs)
  | _, _, .nil => ⟨fun h => (by cases h), fun ⟨_, h⟩ => (by cases h)⟩
  | _, _, .cons x t h => by
    rw [List.mem_cons, mem_strs h]
    constructor
    · rintro (e | ⟨u, e⟩)
      · exact ⟨t, by rw [e]; exact List.mem_cons_self⟩
      · exact ⟨u, List.mem_cons_of_mem _ e⟩
    · rintro ⟨u, e⟩
      rcases List.mem_cons.mp e with e | e
      · injection e with e1 e2
        exact .inl e1
      · exact .inr ⟨u, e⟩
/-- sorted of a set of fewer than 64 texts -/
theorem sorted_of_set {a : Addr} {D : SD} {l : List Str} {Q : Value → Shared → Prop} (ho : s.heap.get? a = some (sObj "set" D)) (F : SX P w D l) (calm : A.handled = none) (few : l.length < 64)
    (fin : ∀ s' p (out : Array Value) (c : Nat), (∀ b o, s.heap.get? b = some o → s'.heap.get? b = some o) → s'.gens = s.gens → s'.os = s.os → s.heap.objs.size ≤ p →
      s'.heap.get? p = some (seqObj "list" out c) → StrsAre out.toList (sortT l) → Q (.ref p) s') :
    wpAny (model P w) A (call (.builtin "sorted") [.ref a]) Q E s := by
  obtain ⟨es, ep, t⟩ := D
  have sz : es.size = l.length := F.ok.sz
  refine Calls.call_function_entry kind_sorted plain_sorted entry_sorted (args_sorted1 _) ?_
  unfold Builtin.«sorted»
  refine wpAny_bind (m := checkCount "sorted" 1 1 _) (wpAny_pure ?_)
  refine wpAny_bind (collect_set (A := A.in1) calm ⟨_, ho, rfl, rfl⟩ F.ok.fit (by rw [sz]; unfold scanBound; omega) F.od.1 F.od.2 fun s1 vs k1 hz g1 o1 pm => ?_)
  have vl : vs.length = l.length := by rw [pm.length_eq, List.length_map, Array.length_toList]; exact sz
  obtain ⟨ks, hS⟩ := strs_all (vs := vs) fun v hv => elems_strs F.ok.el v (pm.mem_iff.mp hv)
  have kl : ks.length = l.length := by rw [← StrsAre.len_eq hS]; exact vl
  have kp : ks.Perm l := by
    refine perm_of_len F.nd (fun x hx => ?_) (Nat.le_of_eq kl)
    obtain ⟨e, he, z⟩ := (F.ok.mem x).mp hx
    obtain ⟨t', ev⟩ := Value.isStrOf_shape (x := x) (v := e.2) z
    exact (mem_strs hS).mpr ⟨t', pm.mem_iff.mpr (List.mem_map.mpr ⟨e, he, ev⟩)⟩
  refine wpAny_bind (wpAny_newList ?_ (by rw [vl, sizeLine_eq]; omega))
  have oL : (s1.heap.push (seqObj "list" vs.toArray 0)).get? s1.heap.objs.size = some (seqObj "list" vs.toArray 0) := Heap.get?_push_size _ rfl
  refine wpAny_bind (wpAny_holding (wpAny_call_entry slot_list_sort ⟨_, oL, rfl⟩ entry_list_sort
    (list_sort_treeK strKind_oneLt oL hS.keysOf (fun v₁ v₂ rest e => keyKind_strs (by rw [← e]; exact hS)) (by rw [vl]; exact few) fun st' hp hs => ⟨_, rfl, ?_⟩) (args_list_sort _)))
  obtain ⟨ys, g2, g3, g4⟩ := sorted_out_str hS hp hs
  have ey : ys = sortT l := sortT_of (g3.trans kp) (sorted_leT g4)
  rw [ey] at g2
  obtain ⟨c, hc⟩ := sortedHeap_at (vs := vs) (out := (arrOf st').map (·.2)) oL
  refine wpAny_pure ⟨_, rfl, fin _ s1.heap.objs.size _ c (fun b u e => ?_) g1 o1 hz hc g2⟩
  have q := k1 b u e
  have lt := Heap.lt_size q
  show (sortedHeap (s1.heap.push (seqObj "list" vs.toArray 0)) s1.heap.objs.size vs _).get? b = some u
  rw [sortedHeap_old (Nat.ne_of_lt lt) (by rw [size_push']; exact Nat.lt_succ_of_lt lt)]
  exact Heap.get?_push_of_some _ q
end
/-- sorted(set(a)), a a list or a tuple of fewer than 64 texts -/
def rSortSet (K : PySem.W.Frag) : V → Hp → VK → Prop := fun x H Q => ∃ l, ∃ xs : List Str, x = .ref l ∧ (SqL K H l (xs.map V.str) ∨ SqT K H l (xs.map V.str)) ∧ xs.length < 64 ∧ ∀ p, H p = none → Q (.ref p) (upd H p (.lst ((ssetT xs).map V.str)))
def tSortSet (K : PySem.W.Frag) (ta : TE) : TE := fun σ H Q => ta σ H fun x H1 => rSortSet K x H1 Q
section
variable {X : Cx}
theorem pe_sortSet {a : Expr} {ta : TE} {p p2 q pos : Pos} (calm : X.calm = true) (hg : Gl X "sorted") (hm : X.mg "sorted" = none) (hg2 : Gl X "set") (hm2 : X.mg "set" = none) (ha : PE X a ta)
    (na : starEach [a] X.env = (false, eval a X.env) :: starEach [] X.env := by rfl) : PE X (.Call (.Name "sorted" p) [.Call (.Name "set" p2) [a] [] q] [] pos) (tSortSet X.K ta) := by
  have bs : bootBuiltins "set" = some (.type "set") := by decide +kernel
  have bo : bootBuiltins "sorted" = some (.builtin "sorted") := by decide +kernel
  refine ⟨fun pins s σ H Q I h => ?_⟩
  refine Call_ (ld_blt I hg hm bo ?_)
  refine PyProof.Rows.callWith_builtin1 (PyProof.Rows.args_cons ?_ rfl) rfl rfl
  refine Call_ (ld_blt I hg2 hm2 bs ?_)
  refine PyProof.Rows.callWith_type1 (PyProof.Rows.args_cons (thn (ha.run pins s σ H _ I h) fun v s1 ⟨x, H1, I1, r1, q1⟩ => PyProof.Rows.args_nil ?_) na) na rfl
  obtain ⟨l, xs, rfl, hq, few, q1⟩ := q1
  cases r1
  have fin : ∀ (h' : Heap) (tk : Nat) (D : SD) (m : List Str), SX X.prog X.w D m → (∀ x, x ∈ m ↔ x ∈ xs) → m.length ≤ xs.length → h'.get? s1.heap.objs.size = some (sObj "set" D) →
      (∀ b o, s1.heap.get? b = some o → h'.get? b = some o) →
      wpAny (model X.prog X.w) X.A (spliced (backTo pos (starEach [] X.env))) (fun vs s₂ => wpAny (model X.prog X.w) X.A (call (.builtin "sorted") (Value.ref s1.heap.objs.size :: vs)) (EP X pins σ Q) X.xe s₂) X.xe { s1 with heap := h', toks := tk } := fun h' tk D m F mem ml hS same => by
    refine PyProof.Rows.args_nil ?_
    have I2 : Inv X pins σ H1 { s1 with heap := h', toks := tk } := I1.kept same
    refine sorted_of_set (s := { s1 with heap := h', toks := tk }) hS F (I1.ok.hd calm) (by omega) fun s' p out c k g o hz hp hs => ?_
    have em : sortT m = ssetT xs := sortT_congr (perm_same F.nd nodup_onceL fun x => (mem x).trans mem_onceL.symm)
    rw [em] at hs
    have fresh : H1 p = none := I2.hok.fresh hz
    have len : ((ssetT xs).map V.str).length ≤ sizeLine := by
      have z : (ssetT xs).length = m.length := by rw [← em]; exact (sortT_perm m).length_eq
      rw [List.length_map, z, sizeLine_eq]
      omega
    have J : Inv X pins σ (upd H1 p (.lst ((ssetT xs).map V.str))) { ({ s1 with heap := h', toks := tk } : Shared) with heap := s'.heap, gens := s'.gens, drawn := s'.drawn, toks := s'.toks } :=
      I2.call (ch := []) (Un.laid k hz fresh) (I2.hok.laid k hz ⟨len, out.toList, c, vals_of_strs hs, hp⟩) (by rw [g]; exact I2.bare) (fun _ z => nomatch z)
    have e : s' = { ({ s1 with heap := h', toks := tk } : Shared) with heap := s'.heap, gens := s'.gens, drawn := s'.drawn, toks := s'.toks } := by
      cases s'
      cases s1
      cases o
      rfl
    rw [e]
    exact ⟨.ref p, _, J, rfl, q1 p fresh⟩
  rcases hq with hq | hq
  · obtain ⟨its, r, pl, hz⟩ := I1.list hq
    exact set_of_list xs (I1.ok.hd calm) pl.isList (by simpa using strsAre_of r) (by unfold scanBound; omega) fin
  · obtain ⟨its, r, pl, hz⟩ := I1.tuple hq
    exact set_of_tuple xs (I1.ok.hd calm) pl (by simpa using strsAre_of r) (by unfold scanBound; omega) fin
end
end L2
namespace L2
open PySem PySem.Spec PyProof.Rows Ml
section
variable {X : Cx}
theorem pe_sortSetK {a : Expr} {ta : TE} {p p2 q pos : Pos} (K : PySem.W.Frag) (calm : X.calm = true) (hg : Gl X "sorted") (hm : X.mg "sorted" = none) (hg2 : Gl X "set") (hm2 : X.mg "set" = none) (ha : PE X a ta) (hK : X.K = K := by rfl)
    (na : starEach [a] X.env = (false, eval a X.env) :: starEach [] X.env := by rfl) : PE X (.Call (.Name "sorted" p) [.Call (.Name "set" p2) [a] [] q] [] pos) (tSortSet K ta) := by
  subst hK
  exact pe_sortSet calm hg hm hg2 hm2 ha na
theorem sortedSK (K : PySem.W.Frag) (hK : X.K = K := by rfl) : CallR X (.builtin "sorted") (rSortedS K) := by subst hK; exact cr_sortedS
end
end L2
namespace Ml
open PySem PySem.Spec PyProof.Rows L2
variable {G : Gx} {σ : L2.St} {H : Hp} {L : List (Asn G)} {Q : VK} {te : TE} {D : Ends}
def sortSetK (K : PySem.W.Frag) (Q : VK) : VK := fun x H1 => rSortSet K x H1 Q
theorem c_sortSet {K : PySem.W.Frag} (h : te σ H (sortSetK K Q)) : tSortSet K te σ H Q := h
theorem k_sortSet {a : Addr} {xs : List Str} (hS : Sep H L) (hq : SqL G.K H a (xs.map (Fv.enc G)) ∨ SqT G.K H a (xs.map (Fv.enc G))) (few : xs.length < 64) (k : ∀ p H', Sep H' (lstA p (ssetT xs) :: L) → Q (.ref p) H') : sortSetK G.K Q (.ref a) H :=
  ⟨a, xs, rfl, hq, few, fun p hp => k p _ (hS.newL hp (imL_strs _))⟩
def strsR : List Any → R (List Str)
  | [] => .ok []
  | .str s :: r => (strsR r).bind fun l => .ok (s :: l)
  | _ => .bad
def Any.asStrs : Any → R (List Str)
  | .lst xs => strsR xs
  | .tup xs => strsR xs
  | _ => .bad
theorem strsR_im {ρ : Type} {q : ρ → Prop} {e : Exc → Prop} : ∀ {xs : List Any} {f : List Str → R ρ}, R.wp ((strsR xs).bind f) q e → ∃ ss, xs = ss.map Any.str ∧ R.wp (f ss) q e
  | [], f, h => ⟨[], rfl, h⟩
  | .str s :: r, f, h => by
    have h' : R.wp ((strsR r).bind fun l => f (s :: l)) q e := by
      have z : ((strsR r).bind fun l => R.ok (s :: l)).bind f = (strsR r).bind fun l => f (s :: l) := by
        cases strsR r <;> rfl
      rw [← z]
      exact h
    obtain ⟨ss, rfl, hw⟩ := strsR_im h'
    exact ⟨s :: ss, rfl, hw⟩
  | .int _ :: _, _, h => h.elim
  | .bl _ :: _, _, h => h.elim
  | .non :: _, _, h => h.elim
  | .tup _ :: _, _, h => h.elim
  | .lst _ :: _, _, h => h.elim
  | .oth _ :: _, _, h => h.elim
theorem wp_asStrs {x : Any} {ρ : Type} {f : List Str → R ρ} {q : ρ → Prop} {e : Exc → Prop} (h : R.wp (x.asStrs.bind f) q e) : ∃ ss, (x = .lst (ss.map Any.str) ∨ x = .tup (ss.map Any.str)) ∧ R.wp (f ss) q e := by
  cases x with
  | lst xs => obtain ⟨ss, rfl, hw⟩ := strsR_im (xs := xs) h; exact ⟨ss, .inl rfl, hw⟩
  | tup xs => obtain ⟨ss, rfl, hw⟩ := strsR_im (xs := xs) h; exact ⟨ss, .inr rfl, hw⟩
  | _ => exact h.elim
theorem imL_ofStr : ∀ {vs : List V} {ss : List Str}, imL (G := G) H vs (ss.map Any.str) → vs = ss.map V.str
  | [], [], _ => rfl
  | v :: vs, s :: ss, h => by rw [any_str.mp h.1, imL_ofStr h.2]; rfl
theorem strs_at {v : V} {x : Any} {ss : List Str} (h : Im.im G H v x) (e : x = .lst (ss.map Any.str) ∨ x = .tup (ss.map Any.str)) : ∃ a, v = .ref a ∧ (SqL G.K H a (ss.map (Fv.enc G)) ∨ SqT G.K H a (ss.map (Fv.enc G))) := by
  rcases e with e | e
  · subst e
    obtain ⟨a, vs, rfl, ⟨o, ho⟩, m⟩ := any_lsts.mp h
    rw [imL_ofStr m] at ho
    exact ⟨a, rfl, .inl (.inl (.inr ⟨o, ho⟩))⟩
  · subst e
    obtain ⟨a, vs, rfl, ho, m⟩ := any_tup.mp h
    rw [imL_ofStr m] at ho
    exact ⟨a, rfl, .inr (.inl (.inl ho))⟩
theorem k_sortSetA {v : V} {x : Any} {ss : List Str} (hS : Sep H L) (h : Im.im G H v x) (e : x = .lst (ss.map Any.str) ∨ x = .tup (ss.map Any.str)) (few : ss.length < 64) (k : ∀ p H', Sep H' (lstA p (ssetT ss) :: L) → Q (.ref p) H') : sortSetK G.K Q v H := by
  obtain ⟨a, rfl, hq⟩ := strs_at h e
  exact k_sortSet hS hq few k
theorem k_sorted {a : Addr} {xs : List Str} (hS : Sep H L) (hq : SqL G.K H a (xs.map (Fv.enc G))) (few : xs.length < 64) (k : ∀ p H', Sep H' (lstA p (sortT xs) :: L) → Q (.ref p) H') : rSortedS G.K [.ref a] H Q :=
  ⟨a, xs, rfl, hq, few, fun ys p pm up hp => by rw [sortT_of pm (sorted_leT up)]; exact k p _ (hS.newL hp (imL_strs _))⟩
theorem Sep.rdL {α : Type} [Im G α] {i : Nat} {a : Addr} {xs : List α} (hS : Sep H L) (e : L[i]? = some (lstA a xs)) : ∃ vs, Rd H a (.lst vs) ∧ imL (G := G) H vs xs := by
  obtain ⟨vs, h, m⟩ := hS.lst e
  exact ⟨vs, .inl h, m⟩
theorem imPlR {α : Type} [Im G α] {a : Addr} {xs : List α} (h : Im.im G H (.ref a) xs) : ∃ vs, Rd H a (.lst vs) ∧ imL (G := G) H vs xs := by
  obtain ⟨b, vs, e, ho, m⟩ := h
  cases e
  exact ⟨vs, .inr ho, m⟩
theorem k_tupleS {a : Addr} {xs : List Str} (hS : Sep H L) (hq : ∃ vs, SqL G.K H a vs ∧ imL (G := G) H vs xs) (k : ∀ p H', Sep H' (imA (.ref p) (Any.tup (xs.map Any.str)) :: L) → Q (.ref p) H') : rTupleOf G.K [.ref a] H Q := by
  obtain ⟨vs, h, m⟩ := hq
  exact ⟨a, vs, rfl, .inl ⟨h, fun p hp => k p _ ((hS.more (same_new hp)).addIm (any_tup.mpr ⟨p, vs, rfl, upd_same, (imL_str m).st (.of_same (same_new hp))⟩))⟩⟩
end Ml
namespace L2
open PySem PySem.Spec PyProof.Rows PySem.W
end L2
namespace Ml
open PySem PySem.Spec PyProof.Rows L2
variable {G : Gx} {σ : L2.St} {H H' : Hp} {L L' : List (Asn G)} {Q : VK} {te td ty : TE} {D : Ends}
structure Kt where
  l : List Str
  deriving DecidableEq
def Kt.ks (k : Kt) : List Key := k.l.map Sum.inr
theorem Kt.kv (k : Kt) : k.ks.map kV = k.l.map V.str := by unfold Kt.ks; rw [List.map_map]; rfl
theorem inr_inj : ∀ {xs ys : List Str}, xs.map (Sum.inr : Str → Key) = ys.map Sum.inr → xs = ys
  | [], [], _ => rfl
  | [], _ :: _, h => by cases h
  | _ :: _, [], h => by cases h
  | x :: xs, y :: ys, h => by
    simp only [List.map_cons, List.cons.injEq] at h
    rw [Sum.inr.inj h.1, inr_inj h.2]
theorem Kt.inj {a b : Kt} (h : a.ks = b.ks) : a = b := by
  obtain ⟨xs⟩ := a
  obtain ⟨ys⟩ := b
  have : xs = ys := inr_inj h
  rw [this]
instance imKt : Im G Kt := ⟨fun H v x => ∃ a, v = .ref a ∧ H a = some (.tup (x.l.map V.str)), fun ⟨a, e, h⟩ s => ⟨a, e, s.1 a _ h rfl⟩⟩
instance : IsRef G Kt := ⟨fun h => by obtain ⟨a, e, _⟩ := h; exact ⟨a, e⟩⟩
theorem kt_at {a : Addr} {k : Kt} (h : Im.im G H (.ref a) k) : H a = some (.tup (k.l.map V.str)) := by
  obtain ⟨b, e, h⟩ := h
  cases e
  exact h
instance : Lay Kt := ⟨fun x => layAllB x.l⟩
theorem dpStrs {K : PySem.W.Frag} : ∀ xs : List Str, DpAll K H (xs.map V.str) (xs.map PyData.str)
  | [] => .nil
  | x :: r => .cons (.str x) (dpStrs r)
theorem depStrs : ∀ xs : List Str, PyData.depthAll (xs.map PyData.str) = 0
  | [] => rfl
  | x :: r => by
    show max (PyData.depth (.str x)) (PyData.depthAll (r.map PyData.str)) = 0
    rw [depStrs r]; rfl
def pdKt (k : Kt) : PyData := .tuple (k.l.map PyData.str)
theorem canStrs : ∀ xs : List Str, layAllB xs = true → PyData.canLayAll0 (xs.map PyData.str) = true
  | [], _ => rfl
  | x :: r, h => by
    have h : (Lay.lay x && layAllB r) = true := h
    rw [Bool.and_eq_true] at h
    show ((PyData.str x).canLay0 && PyData.canLayAll0 (r.map PyData.str)) = true
    rw [canStrs r h.2, show (PyData.str x).canLay0 = true from h.1]; rfl
theorem eqvStrs : ∀ xs ys : List Str, PyData.eqvAll (xs.map PyData.str) (ys.map PyData.str) = decide (xs = ys)
  | [], [] => rfl
  | [], _ :: _ => rfl
  | _ :: _, [] => rfl
  | x :: xs, y :: ys => by
    show (PyData.eqv (.str x) (.str y) && PyData.eqvAll (xs.map PyData.str) (ys.map PyData.str)) = _
    rw [eqvStrs xs ys, show PyData.eqv (.str x) (.str y) = decide (x = y) from str_beq x y]
    simp
instance pdKtI : Pd G Kt where
  pd := pdKt
  dep := 1
  dp := fun {H v x} h => by
    obtain ⟨a, rfl, g⟩ := h
    exact .tup (SqT.of g) (dpStrs x.l)
  lay_ok := fun x h => canStrs x.l h
  dep_ok := fun x => by
    show PyData.depthAll (x.l.map PyData.str) + 1 ≤ 1
    rw [depStrs]
    exact Nat.le_refl _
  eqv := fun x y => by
    show PyData.eqvAll (x.l.map PyData.str) (y.l.map PyData.str) = _
    rw [eqvStrs]
    obtain ⟨a⟩ := x; obtain ⟨b⟩ := y
    simp
end Ml
namespace Ml
open PySem PySem.Spec PyProof.Rows L2
variable {G : Gx}
section
variable {β : Type} [Im G β]
def imDT (H : Hp) : List (List Key × V) → List (Kt × β) → Prop
  | [], [] => True
  | p :: ps, q :: qs => (p.1 = q.1.ks ∧ Im.im G H p.2 q.2 ∧ ∃ b, H b = some (.tup (q.1.ks.map kV))) ∧ imDT H ps qs
  | _, _ => False
variable {H H' : Hp}
theorem imDT.st : ∀ {ps : List (List Key × V)} {qs : List (Kt × β)}, imDT (G := G) H ps qs → Stab G H H' → imDT (G := G) H' ps qs
  | [], [], _, _ => True.intro
  | _ :: _, _ :: _, h, s => ⟨⟨h.1.1, Im.st h.1.2.1 s, by obtain ⟨b, e⟩ := h.1.2.2; exact ⟨b, s.1 b _ e rfl⟩⟩, imDT.st h.2 s⟩
  | [], _ :: _, h, _ => h
  | _ :: _, [], h, _ => h
theorem imDT.len : ∀ {ps : List (List Key × V)} {qs : List (Kt × β)}, imDT (G := G) H ps qs → ps.length = qs.length
  | [], [], _ => rfl
  | _ :: _, _ :: _, h => by rw [List.length_cons, List.length_cons, imDT.len h.2]
  | [], _ :: _, h => h.elim
  | _ :: _, [], h => h.elim
theorem kt_dec (a b : Kt) : decide (a.ks = b.ks) = decide (a = b) := by
  by_cases h : a = b
  · subst h; simp
  · have : ¬ a.ks = b.ks := fun e => h (Kt.inj e)
    simp [h, this]
theorem imDT.val : ∀ {ps : List (List Key × V)} {qs : List (Kt × β)} (k : Kt), imDT (G := G) H ps qs → (∀ y, dget qs k = some y → ∃ v, valV ps k.ks = some v ∧ Im.im G H v y) ∧ (dget qs k = none → valV ps k.ks = none)
  | [], [], _, _ => ⟨fun y e => (by cases (show (none : Option β) = some y from e)), fun _ => rfl⟩
  | p :: ps, q :: qs, k, ⟨⟨e1, e2, _⟩, h⟩ => by
    have ih := imDT.val k h
    by_cases c : q.1 = k
    · have c1 : p.1 = k.ks := by rw [e1, c]
      have d : dget (q :: qs) k = some q.2 := by simp [dget, List.find?_cons, c]
      rw [d, valV_pos c1]
      exact ⟨fun y e => ⟨p.2, rfl, by cases e; exact e2⟩, fun e => by cases e⟩
    · have c1 : ¬ p.1 = k.ks := fun z => c (Kt.inj (e1.symm.trans z))
      have d : dget (q :: qs) k = dget qs k := by simp [dget, List.find?_cons, c]
      rw [d, valV_neg c1]
      exact ih
  | [], _ :: _, _, h => h.elim
  | _ :: _, [], _, h => h.elim
theorem imDT.any : ∀ {ps : List (List Key × V)} {qs : List (Kt × β)} (k : Kt), imDT (G := G) H ps qs → (ps.any fun kv => decide (kv.1 = k.ks)) = qs.any fun kv => decide (kv.1 = k)
  | [], [], _, _ => rfl
  | p :: ps, q :: qs, k, ⟨⟨e1, _⟩, h⟩ => by
    rw [List.any_cons, List.any_cons, imDT.any k h, e1, kt_dec]
  | [], _ :: _, _, h => h.elim
  | _ :: _, [], _, h => h.elim
theorem imDT.app : ∀ {ps rs : List (List Key × V)} {qs ts : List (Kt × β)}, imDT (G := G) H ps qs → imDT (G := G) H rs ts → imDT (G := G) H (ps ++ rs) (qs ++ ts)
  | [], _, [], _, _, h => h
  | _ :: _, _, _ :: _, _, h, k => ⟨h.1, imDT.app h.2 k⟩
  | [], _, _ :: _, _, h, _ => h.elim
  | _ :: _, _, [], _, h, _ => h.elim
theorem imDT.rep : ∀ {ps : List (List Key × V)} {qs : List (Kt × β)} {k : Kt} {v : V} {y : β}, imDT (G := G) H ps qs → Im.im G H v y →
    imDT (G := G) H (ps.map fun kv => if kv.1 = k.ks then (kv.1, v) else kv) (qs.map fun kv => if kv.1 = k then (kv.1, y) else kv)
  | [], [], _, _, _, _, _ => True.intro
  | p :: ps, q :: qs, k, v, y, ⟨⟨e1, e2, e3⟩, h⟩, hv => by
    refine ⟨?_, imDT.rep h hv⟩
    dsimp only
    by_cases c : q.1 = k
    · have c1 : p.1 = k.ks := by rw [e1, c]
      rw [if_pos c, if_pos c1]; exact ⟨e1, hv, e3⟩
    · have c1 : ¬ p.1 = k.ks := fun z => c (Kt.inj (e1.symm.trans z))
      rw [if_neg c, if_neg c1]; exact ⟨e1, e2, e3⟩
  | [], _ :: _, _, _, _, h, _ => h.elim
  | _ :: _, [], _, _, _, h, _ => h.elim
theorem imDT.put {ps : List (List Key × V)} {qs : List (Kt × β)} {k : Kt} {v : V} {y : β} (h : imDT (G := G) H ps qs) (hv : Im.im G H v y) (hb : ∃ b, H b = some (.tup (k.ks.map kV))) : imDT (G := G) H (putK ps k.ks v) (dput qs k y) := by
  unfold putK dput
  rw [h.any k]
  split
  · exact h.rep hv
  · exact h.app (rs := [(k.ks, v)]) (ts := [(k, y)]) ⟨⟨rfl, hv, hb⟩, True.intro⟩
theorem imDT.at : ∀ {ps : List (List Key × V)} {qs : List (Kt × β)} {j : Nat} {k : List Key} {v : V} {x : Kt}, imDT (G := G) H ps qs → ps[j]? = some (k, v) → (qs.map (·.1))[j]? = some x → k = x.ks
  | p :: _, q :: _, 0, k, v, x, h, e1, e2 => by
    have e1 : p = (k, v) := by simpa using e1
    have e2 : q.1 = x := by simpa using e2
    have := h.1.1
    rw [e1, e2] at this
    exact this
  | _ :: ps, _ :: qs, j + 1, k, v, x, h, e1, e2 => imDT.at (ps := ps) (qs := qs) (j := j) h.2 (by simpa using e1) (by simpa using e2)
  | [], _, _, _, _, _, _, e1, _ => by simp at e1
  | _ :: _, [], _, _, _, _, h, _, _ => h.elim
def dictT (a : Addr) (kvs : List (Kt × β)) : Asn G := ⟨fun H fp => fp = [a] ∧ ∃ ps, H a = some (.dT ps) ∧ imDT (G := G) H ps kvs,
  fun H H' fp ⟨e, ps, h, m⟩ k s => ⟨e, ps, by rw [k a (by rw [e]; simp)]; exact h, m.st s⟩⟩
variable {L L' : List (Asn G)} {σ : L2.St} {Q : VK} {te td ty tx : TE} {k : Kt} {a b : Addr} {xs : List (Kt × β)} {i : Nat}
theorem Sep.dictT (h : Sep H L) (e : L[i]? = some (dictT a xs)) : ∃ ps, H a = some (.dT ps) ∧ imDT (G := G) H ps xs := by
  obtain ⟨fp, _, x⟩ := h.at e
  exact x
theorem Sep.newT (h : Sep H L) {p : Addr} (hp : H p = none) : Sep (upd H p (.dT [])) (Ml.dictT p ([] : List (Kt × β)) :: L) :=
  (h.new (o := .dT []) hp rfl).view fun fp ⟨q, r⟩ => ⟨q, [], r, True.intro⟩
theorem Sep.turnT {o : HO} {ps : List (List Key × V)} {A : Asn G} (h : Sep H L) (e : L[i]? = some A) (hA : ∀ fp, A.sat H fp → fp = [a] ∧ H a = some o) (n : per G o = false) (o' : HO) (n' : per G o' = false) (kd : kindOf o' = kindOf o) (B : Asn G)
    (hB : ∀ H', Stab G H H' → H' a = some o' → B.sat H' [a]) : Sep (upd H a o') (L.set i B) := by
  have h1 : Sep H (L.set i (cell a o)) := h.viewAt e fun fp s => ⟨(hA fp s).1, (hA fp s).2⟩
  have e1 := get_set (y := cell (G := G) a o) e
  have h2 := h1.put (o' := o') e1 n' kd
  rw [set_set] at h2
  have st : Stab G H (upd H a o') := stab_put (h1.getCell e1) n kd
  have h3 := h2.viewAt (B := B) (get_set e) fun fp ⟨q, r⟩ => by subst q; exact hB _ st r
  rw [set_set] at h3
  exact h3
theorem Sep.putT {ys : List (Kt × β)} {ps : List (List Key × V)} (h : Sep H L) (e : L[i]? = some (Ml.dictT a xs)) (m : imDT (G := G) H ps ys) : Sep (upd H a (.dT ps)) (L.set i (Ml.dictT a ys)) := by
  obtain ⟨us, e0, mu⟩ := h.dictT e
  exact h.turnT (ps := ps) (o := .dT us) e (fun fp ⟨q, _⟩ => ⟨q, e0⟩) rfl (.dT ps) rfl rfl _ fun H' st r => ⟨rfl, ps, r, m.st st⟩
theorem k_dnewT (hS : Sep H L) (q : ∀ p H', Sep H' (dictT p ([] : List (Kt × β)) :: L) → Q (.ref p) H') : tDNewT σ H Q := fun p hp => q p _ (hS.newT hp)
theorem kt_kv (hk : Im.im G H (.ref b) k) : H b = some (.tup (k.ks.map kV)) := by rw [k.kv]; exact kt_at hk
theorem dget_atT (hS : Sep H L) (e : L[i]? = some (dictT a xs)) (hk : Im.im G H (.ref b) k) : ∃ r, DGet H a (.ref b) r ∧ (∀ y, dget xs k = some y → ∃ v, r = some v ∧ Im.im G H v y) ∧ (dget xs k = none → r = none) := by
  obtain ⟨ps, h, m⟩ := hS.dictT e
  obtain ⟨v1, v2⟩ := m.val k
  exact ⟨_, DGet.t h (kt_kv hk), v1, v2⟩
theorem dget_someT {y : β} (hS : Sep H L) (e : L[i]? = some (dictT a xs)) (hk : Im.im G H (.ref b) k) (h : dget xs k = some y) : ∃ v, DGet H a (.ref b) (some v) ∧ Im.im G H v y := by
  obtain ⟨r, g, h1, _⟩ := dget_atT hS e hk
  obtain ⟨v, rfl, m⟩ := h1 y h
  exact ⟨v, g, m⟩
def dinK2 (y : V) (Q : VK) : VK := fun x H2 => ∃ a o, x = .ref a ∧ DGet H2 a y o ∧ Q (.bl o.isSome) H2
def dniK2 (y : V) (Q : VK) : VK := fun x H2 => ∃ a o, x = .ref a ∧ DGet H2 a y o ∧ Q (.bl (!o.isSome)) H2
def dniK (td : TE) (σ : L2.St) (Q : VK) : VK := fun y H1 => td σ H1 (dniK2 y Q)
def dgetK2 (x : V) (Q : VK) : VK := fun y H2 => ∃ a v, x = .ref a ∧ DGet H2 a y (some v) ∧ Q v H2
def dgetK (ty : TE) (σ : L2.St) (Q : VK) : VK := fun x H1 => ty σ H1 (dgetK2 x Q)
theorem c_dni (h : ty σ H (dniK td σ Q)) : tDNotIn ty td σ H Q := h
theorem c_dget (h : td σ H (dgetK ty σ Q)) : tDGet td ty σ H Q := h
theorem k_dni1 {y : V} (h : td σ H (dniK2 y Q)) : dniK td σ Q y H := h
theorem k_dget1 {x : V} (h : ty σ H (dgetK2 x Q)) : dgetK ty σ Q x H := h
theorem k_setDT {v : V} {y : β} {P : Hp → Prop} (hS : Sep H L) (e : L[i]? = some (dictT a xs)) (hk : Im.im G H (.ref b) k) (hv : Im.im G H v y) (hl : xs.length < sizeLine) (e2 : L.set i (dictT a (dput xs k y)) = L') (q : ∀ H', Sep H' L' → P H') : rSetD (.ref a) (.ref b) v H P := by
  obtain ⟨ps, h, m⟩ := hS.dictT e
  refine ⟨a, _, rfl, DPut.t h (kt_kv hk) (by rw [m.len]; exact hl), q _ ?_⟩
  subst e2
  exact hS.putT e (m.put hv ⟨b, kt_kv hk⟩)
def keysK (R : It → Hp → Prop) : VK := fun x H1 => ∃ d o, x = .ref d ∧ ((∃ kvs, H1 d = some (.frz o (.dK kvs)) ∧ R (Itk d o kvs) H1) ∨ ∃ kvs, H1 d = some (.frz o (.dT kvs)) ∧ R (Itkt d o kvs) H1)
theorem c_keys {R : It → Hp → Prop} (h : td σ H (keysK R)) : iKeys td σ H R := h
end
end Ml
namespace Ml
open PySem PySem.Spec PyProof.Rows L2
variable {G : Gx} {σ : L2.St} {H : Hp} {M L : List (Asn G)} {Q : VK}
def bind2 {α β ρ : Type} (m : R (α × β)) (f : α → β → R ρ) : R ρ := m.bind fun t => f t.1 t.2
theorem bind2_wp {α β ρ : Type} {m : R (α × β)} {f : α → β → R ρ} {q : ρ → Prop} {e : Exc → Prop} (h : R.wp (bind2 m f) q e) : R.wp (m.bind fun t => f t.1 t.2) q e := h
theorem Ok.bind2 {α β ρ : Type} {m : R (α × β)} {f : α → β → R ρ} {P : ρ → Prop} {Z : α × β → Prop} (h : Ok m Z) (k : ∀ a b, Z (a, b) → Ok (f a b) P) : Ok (Ml.bind2 m f) P := .bind h fun r hr => k r.1 r.2 hr
theorem wp_dgetG {κ β ρ : Type} [DecidableEq κ] {xs : List (κ × β)} {k : κ} {q : ρ → Prop} {e : Exc → Prop} {f : β → R ρ} (h : R.wp ((dgetR xs k).bind f) q e) : ∃ y, dget xs k = some y ∧ R.wp (f y) q e := by
  unfold dgetR at h
  cases c : dget xs k with
  | none => rw [c] at h; exact h.elim
  | some y => rw [c] at h; exact ⟨y, rfl, h⟩
theorem k_tupKt {xs : List Str} (hS : Sep H L) (z : xs.length ≤ sizeLine) (k : ∀ p H', Sep H' (imA (.ref p) (⟨xs⟩ : Kt) :: L) → Q (.ref p) H') : tupK Q (xs.map V.str) H :=
  ⟨by rw [List.length_map]; exact z, fun p hp => k p _ ((hS.more (same_new hp)).addIm ⟨p, rfl, upd_same⟩)⟩
end Ml
namespace L2
open PySem PySem.Spec PyProof.Rows
end L2
namespace Ml
open PySem PySem.Spec PyProof.Rows L2
variable {G : Gx}
section
variable {κ β : Type} [Kx κ] [DecidableEq κ] {H : Hp} {M L : List (Asn G)} {σ : L2.St} {Q : VK} {td ty : TE} {k : κ} {a : Addr} {kvs : List (κ × β)} {E : Addr → β → Asn G}
theorem dget_idx {κ β : Type} [DecidableEq κ] {k : κ} {kvs : List (κ × β)} {y : β} (h : dget kvs k = some y) : ∃ j : Nat, kvs[j]? = some (k, y) := by
  unfold dget at h
  obtain ⟨p, hp, e⟩ := Option.map_eq_some_iff.mp h
  have h1 := List.find?_some hp
  have h1 : p.1 = k := of_decide_eq_true h1
  obtain ⟨j, hj⟩ := List.getElem?_of_mem (List.mem_of_find?_eq_some hp)
  refine ⟨j, ?_⟩
  rw [hj, ← h1, ← e]
/-- the cell of a dict of own things -/
theorem cellE (h : Sep H (dictE E a kvs :: M)) : ∃ ps : List Addr, (ps.length = kvs.length ∧ (kvs.map (·.1)).Nodup) ∧ H a = some (.dK (refsD kvs ps)) ∧ Sep H ((cell a (.dK (refsD kvs ps)) :: elemsE E (ps.zip (kvs.map (·.2)))) ++ M) := by
  obtain ⟨ps, h⟩ := Sep.ex h
  obtain ⟨hl, h⟩ := Sep.and h
  have h := Sep.star1 h
  exact ⟨ps, hl, h.getCell (i := 0) rfl, h⟩
end
end Ml
namespace L2
open PySem PySem.Spec PyProof.Rows
def Dsp (P : Program) (w : World) (K : PySem.W.Frag) (mg : Str → Option Value) (base : Heap) (CX : CXT) (k : Nat) (fam : Nat → Bool) (cl : Nat → Addr) (m : Str) (ps : List Str) (sp : Nat → Sp) : Prop :=
  ∀ i, fam i = true → ∃ f fd, Cls K (cl i) ∧ Meth K (cl i) m f ∧ Binds K fd ps [] ∧ FnOk P w K mg base CX k f fd ps (sp i)
theorem Dsp.mono {P : Program} {w : World} {K : PySem.W.Frag} {mg : Str → Option Value} {base : Heap} {CX : CXT} {j k : Nat} {fam : Nat → Bool} {cl : Nat → Addr} {m : Str} {ps : List Str} {sp : Nat → Sp} (D : Dsp P w K mg base CX j fam cl m ps sp) (h : j ≤ k) : Dsp P w K mg base CX k fam cl m ps sp := fun i hi => by
  obtain ⟨f, fd, a, b, c, F⟩ := D i hi
  exact ⟨f, fd, a, b, c, F.mono h⟩
end L2
namespace L2
open PySem PySem.Spec PyProof.Rows
end L2
namespace Ml
open PySem PySem.Spec PyProof.Rows L2
end Ml
namespace Ml
open PySem PySem.Spec PyProof.Rows L2
variable {G : Gx} {σ : L2.St} {H : Hp} {L L' : List (Asn G)} {Q : VK} {te : TE} {D : Ends}
def itK (K : PySem.W.Frag) (R : It → Hp → Prop) : VK := fun x H1 => ∃ a, x = .ref a ∧ (∃ xs, SqT K H1 a xs) ∧ R (Itt K a) H1
theorem R.wp_ifY {α : Type} {c : Prop} [Decidable c] {a b : R α} {q : α → Prop} {e : Exc → Prop} (h : R.wp (if c then a else b) q e) (x : c) : R.wp a q e := (R.wp_if h).1 x
theorem R.wp_ifN {α : Type} {c : Prop} [Decidable c] {a b : R α} {q : α → Prop} {e : Exc → Prop} (h : R.wp (if c then a else b) q e) (x : ¬ c) : R.wp b q e := (R.wp_if h).2 x
theorem c_it {K : PySem.W.Frag} {R : It → Hp → Prop} (h : te σ H (itK K R)) : iTup K te σ H R := h
theorem k_itA {a : Addr} {xs : List Any} {R : It → Hp → Prop} (h : Im.im G H (.ref a) (Any.tup xs)) (k : R (Itt G.K a) H) : itK G.K R (.ref a) H := by
  obtain ⟨b, vs, e, g, m⟩ := any_tup.mp h
  cases e
  exact ⟨a, rfl, ⟨vs, SqT.of g⟩, k⟩
theorem any_addr {v : V} {xs : List Any} (h : Im.im G H v (Any.tup xs)) : ∃ a, v = .ref a := by
  obtain ⟨a, vs, e, _⟩ := any_tup.mp h
  exact ⟨a, e⟩
theorem wk_tupA {I : L2.St → Hp → Prop} {a : Addr} {xs : List Any} (f : ∀ σ H, I σ H → Im.im G H (.ref a) (Any.tup xs)) : Wk (Itt G.K a) I (Im.im G) xs where
  go := fun i σ H h hi => by
    obtain ⟨b, vs, e, g, m⟩ := any_tup.mp (f σ H h)
    cases e
    have hl : i < vs.length := by rw [m.len]; exact hi
    exact ⟨vs, vs[i], SqT.of g, List.getElem?_eq_getElem hl⟩
  yl := fun i σ H v H' x h hx y => by
    obtain ⟨b, vs, e, g, m⟩ := any_tup.mp (f σ H h)
    cases e
    obtain ⟨rfl, y⟩ := y
    obtain ⟨u, hu, im⟩ := m.get hx
    have e := y vs (SqT.of g)
    rw [hu] at e; cases e
    exact ⟨h, im⟩
  sp := fun σ H h => by
    obtain ⟨b, vs, e, g, m⟩ := any_tup.mp (f σ H h)
    cases e
    exact ⟨vs, SqT.of g, by rw [m.len]; exact Nat.le_refl _⟩
theorem pi_tupK {X : Cx} {tg l : Expr} {tl : TE} (K : PySem.W.Frag) (hl : PE X l tl) (hK : X.K = K := by rfl) : PI X tg l (iTup K tl) := by subst hK; exact pi_tup hl
end Ml
namespace Ml
open PySem PySem.Spec PyProof.Rows L2
end Ml
namespace Ml
open PySem PySem.Spec PyProof.Rows L2
variable {G : Gx} {σ : L2.St} {H : Hp} {L L' : List (Asn G)} {Q : VK} {te ta tb : TE} {D : Ends}
theorem imE {α : Type} [Im G α] {v : V} {x y : α} (e : x = y) (h : Im.im G H v x) : Im.im G H v y := e ▸ h
theorem k_itE {v : V} {x : Any} {xs : List Any} {R : It → Hp → Prop} (h : Im.im G H v x) (e : x = .tup xs) (k : ∀ a, v = .ref a → R (Itt G.K a) H) : itK G.K R v H := by
  obtain ⟨a, rfl⟩ := any_addr (imE e h)
  exact k_itA (imE e h) (k a rfl)
end Ml
namespace Ml
open PySem L2
variable {G : Gx} {H : Hp} {L : List (Asn G)} {Q : VK}
/-- list(x) of a tuple of texts, of any sort -/
theorem k_listS {v : V} {x : Any} {ss : List Str} (hS : Sep H L) (h1 : Im.im G H v x) (e : x = .lst (ss.map Any.str) ∨ x = .tup (ss.map Any.str)) (k : ∀ p H', Sep H' (lstA p ss :: L) → Q (.ref p) H') : rListSq G.K [v] H Q := by
  obtain ⟨a, rfl, g⟩ := strs_at h1 e
  exact ⟨a, _, rfl, g, fun p hp => k p _ (hS.newL hp (imL.flat.mpr rfl))⟩
end Ml
namespace Ml
open PySem PySem.Spec PyProof.Rows L2
end Ml
namespace L2
open PySem PySem.Spec PyProof.Rows
end L2
namespace Ml
open PySem PySem.Spec PyProof.Rows L2
end Ml
namespace Ml
open PySem L2
section
variable {G : Gx} {H : Hp} {σ σ' : L2.St} {tt : TT} {te : TE} {vs : List Nat} {Q : VK} {α β τ ρ : Type} {g : TG}
/-- a comprehension over any target -/
theorem lc_sepG [Im G β] {J : It} {im : Hp → V → α → Prop} {xs : List α} {f : τ → α → R (τ × Option β)} {rest : τ × List β → R ρ} {q : ρ → Prop} {e : Exc → Prop} {s : τ} (M : τ → List (Asn G))
    (hS : Sep H (M s)) (w : ∀ (Dr : Addr) (s : τ) (ys : List β), Wk J (fun (_ : St) H => Sep H (lstA Dr ys :: M s)) im xs) (hl : xs.length ≤ sizeLine) (hm : R.wp ((compR f xs s).bind rest) q e)
    (turn : ∀ (Dr : Addr) (s : τ) (ys : List β) (x : α) (v : V) (H : Hp) (q : τ × Option β → Prop) (Nx : Hp → Prop), Sep H (lstA Dr ys :: M s) → im H v x → R.wp (f s x) q e →
      (∀ s' y u H', q (s', some y) → Im.im G H' u y → Sep H' (lstA Dr ys :: M s') → ∃ acc, H' Dr = some (.lst acc) ∧ acc.length < sizeLine ∧ Nx (upd H' Dr (.lst (acc ++ [u])))) → (∀ s' H', q (s', none) → Sep H' (lstA Dr ys :: M s') → Nx H') →
      g v (wipe σ vs) H fun σ2 H2 => wipe σ2 vs = wipe σ vs ∧ tt σ2 H2 fun b H3 => if b = true then te σ2 H3 fun y H4 => ∃ acc, H4 Dr = some (.lst acc) ∧ acc.length < sizeLine ∧ Nx (upd H4 Dr (.lst (acc ++ [y]))) else Nx H3)
    (done : ∀ (Dr : Addr) (t : τ × List β) H, R.wp (rest t) q e → Sep H (lstA Dr t.2 :: M t.1) → Q (.ref Dr) H) :
    lcK g tt te vs σ Q J H := fun Dr hD =>
  lc_walk (G := G) (I := fun Dr s ys H => Sep H (lstA Dr ys :: M s)) (im := im) (xs := xs) (f := f) (k := fun t => R.wp (rest t) q e) (e := e) (s := s) (w Dr)
    (hS.newL (vs := []) (xs := ([] : List β)) hD True.intro) (R.wp_bind hm) hl
    (fun s ys x v H q Nx hI hv hw _ k1 k2 => turn Dr s ys x v H q Nx hI hv hw k1 k2)
    (fun s ys y u H hI hu => lc_app hI hu)
    (fun s ys H hk hI => done Dr (s, ys) H hk hI)
theorem c_gLT {P : Bool → Hp → Prop} (hw : wipe σ' vs = wipe σ vs) (h : tt σ' H P) : wipe σ' vs = wipe σ vs ∧ tt σ' H P := ⟨hw, h⟩
end
end Ml
namespace L2
open PySem PySem.Spec PyProof.Rows
end L2
namespace Ml
open PySem L2
end Ml
namespace L2
open PySem PySem.Spec PyProof.Rows
end L2
namespace Ml
open PySem L2
end Ml
namespace Ml
open PySem L2
end Ml
namespace L2
open PySem PySem.Spec PyProof.Rows
end L2
namespace Ml
open PySem L2
end Ml
namespace Ml
open PySem L2
end Ml
namespace Ml
open PySem PySem.Spec PyProof.Rows L2
end Ml
namespace Ml
open PySem PySem.Spec PyProof.Rows L2
/-- a tuple, its values told -/
structure TupV where
  vs : List V
section
variable {G : Gx} {α β : Type} {H : Hp} {L M : List (Asn G)} {Q : VK} {p : Addr}
instance imTupV : Im G TupV := ⟨fun H v x => ∃ a, v = .ref a ∧ H a = some (.tup x.vs), fun ⟨a, e, h⟩ s => ⟨a, e, s.1 a _ h rfl⟩⟩
variable [Im G α] [Im G β]
end
end Ml
namespace Ml
open PySem PySem.Spec PyProof.Rows L2
end Ml
namespace Ml
open PySem L2
/-- a field, within a comprehension: its fragment told -/
theorem pe_fldK {X : Cx} {e : Expr} {f : Str} {pos : Pos} {ta : TE} (K : PySem.W.Frag) (he : PE X e ta) (hb : attributeBase e f X.env (eval e X.env) = eval e X.env := by rfl) (hK : X.K = K := by rfl) : PE X (.Attribute e f pos) (tFld K ta f) := by
  subst hK; exact pe_fld he hb
end Ml
namespace Ml
open PySem PySem.Spec PyProof.Rows L2
variable {G : Gx}
section
variable {κ β : Type} [DecidableEq κ] [Kx κ] [Im G β] {H : Hp} {L L' : List (Asn G)} {σ : L2.St} {Q : VK} {te td ty tx : TE} {k : κ} {a : Addr} {xs : List (κ × β)} {i : Nat}
theorem k_dniA (hS : Sep H L) (e : L[i]? = some (dictA a xs)) (q : Q (.bl (!dhas xs k)) H) : dniK2 (kV (Kx.key k)) Q (.ref a) H :=
  ev_dnotin (σ := []) (ty := fun _ H P => P (kV (Kx.key k)) H) (td := fun _ H P => P (.ref a) H) hS e (fun _ q => q) (fun _ q => q) Q q
def get2K (ty tx : TE) (σ : L2.St) (Q : VK) : VK := fun x H1 => ∃ a, x = .ref a ∧ IsD H1 a ∧ ty σ H1 fun y H2 => tx σ H2 fun z H3 => ∃ o, DGet H3 a y o ∧ Q (o.getD z) H3
def get2K2 (a : Addr) (tx : TE) (σ : L2.St) (Q : VK) : VK := fun y H2 => tx σ H2 fun z H3 => ∃ o, DGet H3 a y o ∧ Q (o.getD z) H3
def get2K3 (a : Addr) (y : V) (Q : VK) : VK := fun z H3 => ∃ o, DGet H3 a y o ∧ Q (o.getD z) H3
theorem c_dget2 (h : td σ H (get2K ty tx σ Q)) : tDGet2 td ty tx σ H Q := h
theorem k_get2a (d : IsD H a) (h : ty σ H (get2K2 a tx σ Q)) : get2K ty tx σ Q (.ref a) H := ⟨a, rfl, d, h⟩
theorem k_get2b {y : V} (h : tx σ H (get2K3 a y Q)) : get2K2 a tx σ Q y H := h
theorem k_get2A {z : V} {y : β} (hS : Sep H L) (e : L[i]? = some (dictA a xs)) (hz : Im.im G H z y) (q : ∀ v, Sep H (imA v ((dget xs k).getD y) :: L) → Q v H) : get2K3 a (kV (Kx.key k)) Q z H := by
  obtain ⟨r, g, h1, h2⟩ := dget_at hS e (k := k) rfl
  refine ⟨r, g, ?_⟩
  cases c : dget xs k with
  | none =>
    rw [h2 c]
    exact q z (by rw [c]; exact hS.addIm hz)
  | some w =>
    obtain ⟨v, rfl, m⟩ := h1 w c
    exact q v (by rw [c]; exact hS.addIm m)
def pop1K (ty : TE) (σ : L2.St) (Q : VK) : VK := fun x H1 => ∃ a, x = .ref a ∧ IsD H1 a ∧ ty σ H1 fun y H2 => ∃ kvs k v, H2 a = some (.dK kvs) ∧ y = kV k ∧ valV kvs k = some v ∧ Q v (upd H2 a (.dK (dropK kvs k)))
def pop1K2 (a : Addr) (Q : VK) : VK := fun y H2 => ∃ kvs k v, H2 a = some (.dK kvs) ∧ y = kV k ∧ valV kvs k = some v ∧ Q v (upd H2 a (.dK (dropK kvs k)))
theorem c_dpop1 (h : td σ H (pop1K ty σ Q)) : tDPop1 td ty σ H Q := h
theorem k_pop1a (d : IsD H a) (h : ty σ H (pop1K2 a Q)) : pop1K ty σ Q (.ref a) H := ⟨a, rfl, d, h⟩
theorem k_pop1A {y : β} (hS : Sep H L) (e : L[i]? = some (dictA a xs)) (h : dget xs k = some y) (e2 : L.set i (dictA a (ddrop xs k)) = L') (q : ∀ v H', Sep H' (imA v y :: L') → Q v H') : pop1K2 a Q (kV (Kx.key k)) H := by
  obtain ⟨ps, hp, m⟩ := hS.dict e
  obtain ⟨v, hv, hm⟩ := (m.val k).1 y h
  refine ⟨ps, Kx.key k, v, hp, rfl, hv, q v _ ?_⟩
  subst e2
  have h1 := (hS.addIm hm).putD (i := i + 1) (a := a) (xs := xs) (ys := ddrop xs k) (ps := dropK ps (Kx.key k)) (by simpa using e) (m.drop k)
  simpa using h1
def pop2K (ty tx : TE) (σ : L2.St) (Q : VK) : VK := fun x H1 => ∃ a, x = .ref a ∧ IsD H1 a ∧ ty σ H1 fun y H2 => tx σ H2 fun z H3 => ∃ kvs k, H3 a = some (.dK kvs) ∧ y = kV k ∧
  (∀ v, valV kvs k = some v → Q v (upd H3 a (.dK (dropK kvs k)))) ∧ (valV kvs k = none → Q z H3)
def pop2K2 (a : Addr) (tx : TE) (σ : L2.St) (Q : VK) : VK := fun y H2 => tx σ H2 fun z H3 => ∃ kvs k, H3 a = some (.dK kvs) ∧ y = kV k ∧
  (∀ v, valV kvs k = some v → Q v (upd H3 a (.dK (dropK kvs k)))) ∧ (valV kvs k = none → Q z H3)
def pop2K3 (a : Addr) (y : V) (Q : VK) : VK := fun z H3 => ∃ kvs k, H3 a = some (.dK kvs) ∧ y = kV k ∧
  (∀ v, valV kvs k = some v → Q v (upd H3 a (.dK (dropK kvs k)))) ∧ (valV kvs k = none → Q z H3)
theorem c_dpop2 (h : td σ H (pop2K ty tx σ Q)) : tDPop2 td ty tx σ H Q := h
theorem k_pop2a (d : IsD H a) (h : ty σ H (pop2K2 a tx σ Q)) : pop2K ty tx σ Q (.ref a) H := ⟨a, rfl, d, h⟩
theorem k_pop2b {y : V} (h : tx σ H (pop2K3 a y Q)) : pop2K2 a tx σ Q y H := h
theorem ddrop_no (h : dget xs k = none) : ddrop xs k = xs := by
  unfold dget at h
  unfold ddrop
  refine List.filter_eq_self.mpr fun p hp => ?_
  rw [Option.map_eq_none_iff] at h
  have := List.find?_eq_none.mp h p hp
  simpa using this
/-- .. what it hands back not looked at -/
theorem k_pop2A {z : V} (hS : Sep H L) (e : L[i]? = some (dictA a xs)) (e2 : L.set i (dictA a (ddrop xs k)) = L') (q : ∀ v H', Sep H' L' → Q v H') : pop2K3 a (kV (Kx.key k)) Q z H := by
  obtain ⟨ps, hp, m⟩ := hS.dict e
  obtain ⟨v1, v2⟩ := m.val k
  subst e2
  refine ⟨ps, Kx.key k, hp, rfl, fun v hv => q v _ (hS.putD e (m.drop k)), fun hn => q z _ ?_⟩
  have : dget xs k = none := by
    cases c : dget xs k with
    | none => rfl
    | some y => obtain ⟨v, e, _⟩ := v1 y c; rw [e] at hn; cases hn
  rw [ddrop_no this]
  have : L.set i (dictA a xs) = L := by
    obtain ⟨h1, h2⟩ := List.getElem?_eq_some_iff.mp e
    rw [← h2]; exact List.set_getElem_self h1
  rw [this]; exact hS
def setdK (ty tx : TE) (σ : L2.St) (Q : VK) : VK := fun x H1 => ∃ a, x = .ref a ∧ IsD H1 a ∧ ty σ H1 fun y H2 => tx σ H2 fun z H3 => ∃ (kvs : List (Key × V)) (k : Key), H3 a = some (.dK kvs) ∧ y = kV k ∧ kvs.length < sizeLine ∧
  (∀ v, valV kvs k = some v → Q v H3) ∧ (valV kvs k = none → Q z (upd H3 a (.dK (putK kvs k z))))
def setdK2 (a : Addr) (tx : TE) (σ : L2.St) (Q : VK) : VK := fun y H2 => tx σ H2 fun z H3 => ∃ (kvs : List (Key × V)) (k : Key), H3 a = some (.dK kvs) ∧ y = kV k ∧ kvs.length < sizeLine ∧
  (∀ v, valV kvs k = some v → Q v H3) ∧ (valV kvs k = none → Q z (upd H3 a (.dK (putK kvs k z))))
def setdK3 (a : Addr) (y : V) (Q : VK) : VK := fun z H3 => ∃ (kvs : List (Key × V)) (k : Key), H3 a = some (.dK kvs) ∧ y = kV k ∧ kvs.length < sizeLine ∧
  (∀ v, valV kvs k = some v → Q v H3) ∧ (valV kvs k = none → Q z (upd H3 a (.dK (putK kvs k z))))
theorem c_dsetd (h : td σ H (setdK ty tx σ Q)) : tDSetd td ty tx σ H Q := h
theorem k_setda (d : IsD H a) (h : ty σ H (setdK2 a tx σ Q)) : setdK ty tx σ Q (.ref a) H := ⟨a, rfl, d, h⟩
theorem k_setdb {y : V} (h : tx σ H (setdK3 a y Q)) : setdK2 a tx σ Q y H := h
def dsetd (xs : List (κ × β)) (k : κ) (y : β) : List (κ × β) := if dhas xs k then xs else dput xs k y
theorem k_setdA {z : V} {y : β} (hS : Sep H L) (e : L[i]? = some (dictA a xs)) (hz : Im.im G H z y) (hl : xs.length < sizeLine) (e2 : L.set i (dictA a (dsetd xs k y)) = L')
    (q : ∀ v H', Sep H' (imA v ((dget xs k).getD y) :: L') → Q v H') : setdK3 a (kV (Kx.key k)) Q z H := by
  obtain ⟨ps, h, m⟩ := hS.dict e
  obtain ⟨v1, v2⟩ := m.val k
  unfold dsetd at e2
  refine ⟨ps, Kx.key k, h, rfl, by rw [m.len]; exact hl, fun v hv => q v _ ?_, fun hn => q z _ ?_⟩
  · cases c : dget xs k with
    | none => rw [v2 c] at hv; cases hv
    | some y2 =>
      have : dhas xs k = true := by unfold dhas; rw [c]; rfl
      rw [this] at e2
      subst e2
      have : L.set i (dictA a xs) = L := by
        obtain ⟨h1, h2⟩ := List.getElem?_eq_some_iff.mp e
        rw [← h2]; exact List.set_getElem_self h1
      obtain ⟨v', ev, iv⟩ := v1 y2 c
      rw [ev] at hv; cases hv
      rw [if_pos rfl, this]; exact hS.addIm iv
  · have c : dget xs k = none := by
      cases c : dget xs k with
      | none => rfl
      | some y => obtain ⟨v, e, _⟩ := v1 y c; rw [e] at hn; cases hn
    have : dhas xs k = false := by unfold dhas; rw [c]; rfl
    rw [this] at e2
    subst e2
    rw [if_neg Bool.false_ne_true, c]
    have h1 := (hS.addIm hz).putD (i := i + 1) (a := a) (xs := xs) (ys := dput xs k y) (ps := putK ps (Kx.key k) z) (by simpa using e) (m.put hz)
    simpa using h1
def lockA (a : Addr) (od : Obj) (ps : List (Key × V)) (kvs : List (κ × β)) : Asn G := ⟨fun H fp => fp = [a] ∧ H a = some (.frz od (.dK ps)) ∧ imD (G := G) H ps kvs,
  fun H H' fp ⟨e, h, m⟩ k s => ⟨e, by rw [k a (by rw [e]; simp)]; exact h, m.st s⟩⟩
theorem Sep.turnX {o : HO} {A : Asn G} (h : Sep H L) (e : L[i]? = some A) (hA : ∀ fp, A.sat H fp → fp = [a] ∧ H a = some o) (n : per G o = false) (o' : HO) (n' : per G o' = false) (kd : kindOf o' = kindOf o) (B : Asn G)
    (hB : ∀ H', Stab G H H' → H' a = some o' → B.sat H' [a]) : Sep (upd H a o') (L.set i B) := by
  have h1 : Sep H (L.set i (cell a o)) := h.viewAt e fun fp s => ⟨(hA fp s).1, (hA fp s).2⟩
  have e1 := get_set (y := cell (G := G) a o) e
  have h2 := h1.put (o' := o') e1 n' kd
  rw [set_set] at h2
  have st : Stab G H (upd H a o') := stab_put (h1.getCell e1) n kd
  have h3 := h2.viewAt (B := B) (get_set e) fun fp ⟨q, r⟩ => by subst q; exact hB _ st r
  rw [set_set] at h3
  exact h3
def unlKA (a : Addr) (od : Obj) (ps : List (Key × V)) (Q : VK) : VK := fun v H' => H' a = some (.frz od (.dK ps)) ∧ Q v (upd H' a (.dK ps))
theorem k_lockA (hS : Sep H L) (e : L[i]? = some (dictA a xs)) (k : ∀ od ps H', Sep H' (L.set i (lockA a od ps xs)) → te σ H' (unlKA a od ps Q)) : tLockE te σ H Q := by
  obtain ⟨ps, h, m⟩ := hS.dict e
  exact ⟨a, .dK ps, h, True.intro, fun od => k od ps _ (hS.turnX (o := .dK ps) e (fun fp ⟨q, _⟩ => ⟨q, h⟩) rfl (.frz od (.dK ps)) rfl rfl _ fun H' st r => ⟨rfl, r, m.st st⟩)⟩
theorem k_unlA {od : Obj} {ps : List (Key × V)} {v : V} (hS : Sep H L) (e : L[i]? = some (lockA a od ps xs)) (k : ∀ H', Sep H' (L.set i (dictA a xs)) → Q v H') : unlKA a od ps Q v H := by
  obtain ⟨fp, q0, h, m⟩ := hS.at e
  exact ⟨h, k _ (hS.turnX (o := .frz od (.dK ps)) e (fun fp ⟨q, r, _⟩ => ⟨q, r⟩) rfl (.dK ps) rfl rfl _ fun H' st r => ⟨rfl, ps, r, m.st st⟩)⟩
theorem Sep.lockA {od : Obj} {ps : List (Key × V)} (hS : Sep H L) (e : L[i]? = some (Ml.lockA a od ps xs)) : H a = some (.frz od (.dK ps)) ∧ imD (G := G) H ps xs := by
  obtain ⟨fp, _, x⟩ := hS.at e
  exact x
/-- a statement whose dict is locked: its ends -/
def lockD (a : Addr) (od : Obj) (u : HO) (D : Ends) : Ends := ⟨fun σ' H' => H' a = some (.frz od u) ∧ D.nx σ' (upd H' a u), fun v H' => H' a = some (.frz od u) ∧ D.rt v (upd H' a u), fun σ' H' => H' a = some (.frz od u) ∧ D.bk σ' (upd H' a u), fun σ' H' => H' a = some (.frz od u) ∧ D.ct σ' (upd H' a u)⟩
theorem k_lockSA {t : TS} {D : Ends} (hS : Sep H L) (e : L[i]? = some (dictA a xs)) (k : ∀ od ps H', Sep H' (L.set i (Ml.lockA a od ps xs)) → t (lockD a od (.dK ps) D) σ H') : tLock t D σ H := by
  obtain ⟨ps, h, m⟩ := hS.dict e
  exact ⟨a, .dK ps, h, True.intro, fun od => k od ps _ (hS.turnX (o := .dK ps) e (fun fp ⟨q, _⟩ => ⟨q, h⟩) rfl (.frz od (.dK ps)) rfl rfl _ fun H' st r => ⟨rfl, r, m.st st⟩)⟩
theorem k_unlSA {D : Ends} {od : Obj} {ps : List (Key × V)} (hS : Sep H L) (e : L[i]? = some (Ml.lockA a od ps xs)) (k : ∀ H', Sep H' (L.set i (dictA a xs)) → D.nx σ H') : (lockD a od (.dK ps) D).nx σ H := by
  obtain ⟨fp, q0, h, m⟩ := hS.at e
  exact ⟨h, k _ (hS.turnX (o := .frz od (.dK ps)) e (fun fp ⟨q, r, _⟩ => ⟨q, r⟩) rfl (.dK ps) rfl rfl _ fun H' st r => ⟨rfl, ps, r, m.st st⟩)⟩
theorem k_keysA {od : Obj} {ps : List (Key × V)} {R : It → Hp → Prop} (e : H a = some (.frz od (.dK ps))) (k : R (Itk a od ps) H) : keysK R (.ref a) H := ⟨a, od, rfl, .inl ⟨ps, e, k⟩⟩
def itemsK (R : It → Hp → Prop) : VK := fun x H1 => ∃ d o kvs, x = .ref d ∧ H1 d = some (.frz o (.dK kvs)) ∧ R (Iti d o kvs) H1
theorem c_items {R : It → Hp → Prop} (h : td σ H (itemsK R)) : iItems td σ H R := h
theorem k_itemsA {od : Obj} {ps : List (Key × V)} {R : It → Hp → Prop} (e : H a = some (.frz od (.dK ps))) (k : R (Iti a od ps) H) : itemsK R (.ref a) H := ⟨a, od, ps, rfl, e, k⟩
end
section
variable {β : Type} [Im G β] {H : Hp} {a : Addr} {xs : List (Str × β)}
theorem imD.atS : ∀ {ps : List (Key × V)} {qs : List (Str × β)} {j : Nat} {k : Key} {v : V} {x : Str × β}, imD (G := G) H ps qs → ps[j]? = some (k, v) → qs[j]? = some x → kV k = .str x.1 ∧ Im.im G H v x.2
  | p :: ps, q :: qs, 0, k, v, x, h, e1, e2 => by
    simp only [List.getElem?_cons_zero, Option.some.injEq] at e1 e2
    subst e1; subst e2
    exact ⟨by rw [show k = Kx.key q.1 from h.1.1]; rfl, h.1.2⟩
  | _ :: ps, _ :: qs, j + 1, k, v, x, h, e1, e2 => imD.atS (ps := ps) (qs := qs) (j := j) h.2 (by simpa using e1) (by simpa using e2)
  | [], _, _, _, _, _, _, e1, _ => by simp at e1
  | _ :: _, [], _, _, _, _, h, _, _ => h.elim
theorem wk_keysA {od : Obj} {ps : List (Key × V)} {I : L2.St → Hp → Prop} (f : ∀ σ H, I σ H → H a = some (.frz od (.dK ps)) ∧ imD (G := G) H ps xs) : Wk (Itk a od ps) I (fun _ v (x : Str) => v = .str x) (xs.map (·.1)) where
  go := fun j σ H h l => by
    obtain ⟨h1, m⟩ := f σ H h
    rw [List.length_map] at l
    exact ⟨h1, by rw [m.len]; exact l⟩
  yl := fun j σ H v H' x h e y => by
    obtain ⟨h1, m⟩ := f σ H h
    obtain ⟨rfl, k, w, e1, rfl⟩ := y
    rw [List.getElem?_map] at e
    cases c : xs[j]? with
    | none => rw [c] at e; cases e
    | some z =>
      rw [c] at e
      cases e
      exact ⟨h, (m.atS e1 c).1⟩
  sp := fun σ H h => by
    obtain ⟨h1, m⟩ := f σ H h
    exact ⟨h1, by rw [List.length_map, m.len]; exact Nat.le_refl _⟩
/-- pairs (key, value) walked: each a new tuple -/
theorem wk_itemsA {od : Obj} {ps : List (Key × V)} {I : L2.St → Hp → Prop} (f : ∀ σ H, I σ H → H a = some (.frz od (.dK ps)) ∧ imD (G := G) H ps xs) (mo : ∀ σ H H', I σ H → Same H H' → I σ H') : Wk (Iti a od ps) I (Im.im G) xs where
  go := fun j σ H h l => by
    obtain ⟨h1, m⟩ := f σ H h
    exact ⟨h1, by rw [m.len]; exact l⟩
  yl := fun j σ H v H' x h e y => by
    obtain ⟨h1, m⟩ := f σ H h
    obtain ⟨T, k, w, e1, rfl, hT, rfl⟩ := y
    obtain ⟨e2, im⟩ := m.atS e1 e
    rw [e2]
    have sm := same_new (o := HO.tup [V.str x.1, w]) hT
    refine ⟨mo _ _ _ h sm, ?_⟩
    exact mk2 (H := H) rfl im upd_same (Stab.of_same sm)
  sp := fun σ H h => by
    obtain ⟨h1, m⟩ := f σ H h
    exact ⟨h1, by rw [m.len]; exact Nat.le_refl _⟩
end
section
variable {κ β : Type} [DecidableEq κ] [Kx κ] {H : Hp} {M : List (Asn G)} {σ : L2.St} {Q : VK} {te td ty tx : TE} {k : κ} {a : Addr} {kvs : List (κ × β)} {E : Addr → β → Asn G}
/-- the dict's own cell (locked or not), and all it holds -/
def dictX (u : HO → HO) (E : Addr → β → Asn G) (a : Addr) (ps : List Addr) (kvs : List (κ × β)) : Asn G := star (cell a (u (.dK (refsD kvs ps))) :: elemsE E (ps.zip (kvs.map (·.2))))
def dictXH (u : HO → HO) (E : Addr → β → Asn G) (a : Addr) (ps : List Addr) (kvs : List (κ × β)) (j : Nat) : Asn G := star (cell a (u (.dK (refsD kvs ps))) :: elemsE E ((ps.zip (kvs.map (·.2))).eraseIdx j))
theorem refs_get {ps : List Addr} {j : Nat} {y : β} (hl : ps.length = kvs.length) (hn : (kvs.map (·.1)).Nodup) (hj : kvs[j]? = some (k, y)) : ∃ p, ps[j]? = some p ∧ valV (refsD kvs ps) (Kx.key k) = some (.ref p) := by
  have hlt : j < kvs.length := (List.getElem?_eq_some_iff.mp hj).1
  have hp : ps[j]? = some ps[j] := List.getElem?_eq_getElem (by omega)
  exact ⟨ps[j], hp, refs_val hl hn hj hp⟩
theorem refs_none {ps : List Addr} (hl : ps.length = kvs.length) (h : dget kvs k = none) : valV (refsD kvs ps) (Kx.key k) = none := by
  induction kvs generalizing ps with
  | nil => cases ps <;> rfl
  | cons kv r ih =>
    cases ps with
    | nil => rfl
    | cons p ps =>
      have hk : ¬ kv.1 = k := fun e => by
        unfold dget at h
        rw [List.find?_cons_of_pos (by simpa using e)] at h
        cases h
      have h2 : dget r k = none := by
        unfold dget at h ⊢
        rw [List.find?_cons_of_neg (by simpa using hk)] at h
        exact h
      have hk2 : ¬ Kx.key kv.1 = Kx.key k := fun e => hk (Kx.inj e)
      show valV ((Kx.key kv.1, V.ref p) :: refsD r ps) (Kx.key k) = none
      rw [valV_neg hk2]
      exact ih (by simpa using hl) h2
theorem dictE_X (h : Sep H (dictE E a kvs :: M)) : ∃ ps, (ps.length = kvs.length ∧ (kvs.map (·.1)).Nodup) ∧ Sep H (dictX id E a ps kvs :: M) := by
  obtain ⟨ps, h⟩ := Sep.ex h
  obtain ⟨hl, h⟩ := Sep.and h
  exact ⟨ps, hl, h⟩
theorem dictX_E {ps : List Addr} (hl : ps.length = kvs.length ∧ (kvs.map (·.1)).Nodup) (h : Sep H (dictX id E a ps kvs :: M)) : Sep H (dictE E a kvs :: M) := Sep.exI ps (Sep.andI hl h)
theorem dictX_cell {u : HO → HO} {ps : List Addr} (h : Sep H (dictX u E a ps kvs :: M)) : H a = some (u (.dK (refsD kvs ps))) := (Sep.star1 h).getCell (i := 0) rfl
theorem dictE_cell (h : Sep H (dictE E a kvs :: M)) : ∃ ps, (ps.length = kvs.length ∧ (kvs.map (·.1)).Nodup) ∧ H a = some (.dK (refsD kvs ps)) := by
  obtain ⟨ps, hl, h⟩ := dictE_X h
  exact ⟨ps, hl, dictX_cell h⟩
theorem isD_E (h : Sep H (dictE E a kvs :: M)) : IsD H a := by
  obtain ⟨ps, _, hc⟩ := dictE_cell h
  exact .inl ⟨_, .inl hc⟩
theorem has_refs {ps : List Addr} (hl : ps.length = kvs.length ∧ (kvs.map (·.1)).Nodup) (k : κ) : (valV (refsD kvs ps) (Kx.key k)).isSome = dhas kvs k := by
  unfold dhas
  cases c : dget kvs k with
  | none => rw [refs_none hl.1 c]; rfl
  | some y =>
    obtain ⟨j, hj⟩ := dget_idx c
    obtain ⟨p, _, e⟩ := refs_get hl.1 hl.2 hj
    rw [e]; rfl
theorem rd_din {ks : List (Key × V)} (hc : Rd H a (.dK ks)) (q : Q (.bl (valV ks (Kx.key k)).isSome) H) : dinK2 (kV (Kx.key k)) Q (.ref a) H := ⟨a, _, rfl, .inl ⟨ks, Kx.key k, hc, rfl, rfl⟩, q⟩
theorem rd_dni {ks : List (Key × V)} (hc : Rd H a (.dK ks)) (q : Q (.bl (!(valV ks (Kx.key k)).isSome)) H) : dniK2 (kV (Kx.key k)) Q (.ref a) H := ⟨a, _, rfl, .inl ⟨ks, Kx.key k, hc, rfl, rfl⟩, q⟩
theorem k_dinE (h : Sep H (dictE E a kvs :: M)) (q : Q (.bl (dhas kvs k)) H) : dinK2 (kV (Kx.key k)) Q (.ref a) H := by
  obtain ⟨ps, hl, hc⟩ := dictE_cell h
  exact rd_din (.inl hc) (by rw [has_refs hl]; exact q)
theorem k_dniE (h : Sep H (dictE E a kvs :: M)) (q : Q (.bl (!dhas kvs k)) H) : dniK2 (kV (Kx.key k)) Q (.ref a) H := by
  obtain ⟨ps, hl, hc⟩ := dictE_cell h
  exact rd_dni (.inl hc) (by rw [has_refs hl]; exact q)
theorem outX {u : HO → HO} {ps : List Addr} {j : Nat} {y : β} {p : Addr} (h : Sep H (dictX u E a ps kvs :: M)) (hj : kvs[j]? = some (k, y)) (hp : ps[j]? = some p) : Sep H (E p y :: dictXH u E a ps kvs j :: M) := by
  have h := Sep.star1 h
  have hz : (ps.zip (kvs.map (·.2)))[j]? = some (p, y) := by
    rw [List.getElem?_zip_eq_some]; exact ⟨hp, by rw [List.getElem?_map, hj]; rfl⟩
  have hz2 : (elemsE E (ps.zip (kvs.map (·.2))))[j]? = some (E p y) := by unfold elemsE; rw [List.getElem?_map, hz]; rfl
  have e : (elemsE E (ps.zip (kvs.map (·.2)))).eraseIdx j = elemsE E ((ps.zip (kvs.map (·.2))).eraseIdx j) := by unfold elemsE; rw [erase_map]
  have P := perm_out hz2
  rw [e] at P
  have h2 : Sep H (E p y :: ((cell a (u (.dK (refsD kvs ps))) :: elemsE E ((ps.zip (kvs.map (·.2))).eraseIdx j)) ++ M)) := by
    refine h.perm ?_
    have := (P.symm.cons (cell (G := G) a (u (.dK (refsD kvs ps))))).append_right M
    exact this.trans (by exact List.Perm.swap _ _ _)
  have h3 : Sep H ((cell a (u (.dK (refsD kvs ps))) :: elemsE E ((ps.zip (kvs.map (·.2))).eraseIdx j)) ++ (E p y :: M)) := h2.perm (List.perm_middle.symm)
  exact (Sep.unstar1 h3).perm (List.Perm.swap _ _ _)
theorem set_keys {j : Nat} {y z : β} (hj : kvs[j]? = some (k, y)) : (kvs.set j (k, z)).map (·.1) = kvs.map (·.1) := by
  have hlt : j < kvs.length := (List.getElem?_eq_some_iff.mp hj).1
  have hget : kvs[j] = (k, y) := by rw [List.getElem?_eq_getElem hlt] at hj; exact Option.some.inj hj
  rw [List.map_set]
  have : (kvs.map (·.1))[j]'(by simpa using hlt) = k := by rw [List.getElem_map, hget]
  rw [← this]
  exact List.set_getElem_self _
theorem refs_same : ∀ {l l' : List (κ × β)} {qs : List Addr}, l.map (·.1) = l'.map (·.1) → refsD l qs = refsD l' qs
  | [], [], _, _ => rfl
  | x :: l, y :: l', [], _ => rfl
  | x :: l, y :: l', q :: qs, h => by
    rw [List.map_cons, List.map_cons] at h
    injection h with h1 h2
    show (Kx.key x.1, V.ref q) :: refsD l qs = (Kx.key y.1, V.ref q) :: refsD l' qs
    rw [h1, refs_same h2]
  | [], _ :: _, _, h => by simp at h
  | _ :: _, [], _, h => by simp at h
theorem inX {u : HO → HO} {ps : List Addr} {j : Nat} {y z : β} {p : Addr} (hl : ps.length = kvs.length ∧ (kvs.map (·.1)).Nodup) (hj : kvs[j]? = some (k, y)) (hp : ps[j]? = some p) (h : Sep H (E p z :: dictXH u E a ps kvs j :: M)) : Sep H (dictX u E a ps (dput kvs k z) :: M) := by
  rw [put_at hl.2 hj]
  have hlt : j < kvs.length := (List.getElem?_eq_some_iff.mp hj).1
  have er : refsD (kvs.set j (k, z)) ps = refsD kvs ps := refs_same (set_keys hj)
  have ez : (kvs.set j (k, z)).map (·.2) = (kvs.map (·.2)).set j z := by rw [List.map_set]
  have h2 : Sep H (dictXH u E a ps kvs j :: (E p z :: M)) := h.perm (List.Perm.swap _ _ _)
  have h3 := Sep.star1 h2
  have hz : (ps.zip ((kvs.set j (k, z)).map (·.2)))[j]? = some (p, z) := by
    rw [ez, List.getElem?_zip_eq_some]
    exact ⟨hp, by rw [List.getElem?_set_self (by simpa using hlt)]⟩
  have hz2 : (elemsE E (ps.zip ((kvs.set j (k, z)).map (·.2))))[j]? = some (E p z) := by unfold elemsE; rw [List.getElem?_map, hz]; rfl
  have e : (elemsE E (ps.zip ((kvs.set j (k, z)).map (·.2)))).eraseIdx j = elemsE E ((ps.zip (kvs.map (·.2))).eraseIdx j) := by
    unfold elemsE
    rw [erase_map, ez, zip_hole (by rw [List.length_map]; exact hl.1)]
  have P := perm_out hz2
  rw [e] at P
  unfold dictX
  rw [er]
  refine Sep.unstar1 (h3.perm ?_)
  have q1 : ((cell a (u (.dK (refsD kvs ps))) :: elemsE E ((ps.zip (kvs.map (·.2))).eraseIdx j)) ++ (E p z :: M)).Perm (E p z :: ((cell a (u (.dK (refsD kvs ps))) :: elemsE E ((ps.zip (kvs.map (·.2))).eraseIdx j)) ++ M)) := List.perm_middle
  refine q1.trans ?_
  have := (P.cons (cell (G := G) a (u (.dK (refsD kvs ps))))).append_right M
  exact (List.Perm.swap _ _ _).trans this
theorem keys_put {j : Nat} {y z : β} (hn : (kvs.map (·.1)).Nodup) (hj : kvs[j]? = some (k, y)) : (dput kvs k z).map (·.1) = kvs.map (·.1) := by rw [put_at hn hj, set_keys hj]
/-- d[k], an own thing: taken out -/
theorem k_dgetE (h : Sep H (dictE E a kvs :: M)) {y : β} (hk : dget kvs k = some y) (q : ∀ ps p j, (ps.length = kvs.length ∧ (kvs.map (·.1)).Nodup) → kvs[j]? = some (k, y) → ps[j]? = some p → Sep H (E p y :: dictXH id E a ps kvs j :: M) → Q (.ref p) H) : dgetK2 (.ref a) Q (kV (Kx.key k)) H := by
  obtain ⟨ps, hl, h⟩ := dictE_X h
  obtain ⟨j, hj⟩ := dget_idx hk
  obtain ⟨p, hp, e⟩ := refs_get hl.1 hl.2 hj
  exact ⟨a, .ref p, rfl, .inl ⟨_, Kx.key k, .inl (dictX_cell h), rfl, e.symm⟩, q ps p j hl hj hp (outX h hj hp)⟩
theorem unfocDE {ps : List Addr} {j : Nat} {y z : β} {p : Addr} (hl : ps.length = kvs.length ∧ (kvs.map (·.1)).Nodup) (hj : kvs[j]? = some (k, y)) (hp : ps[j]? = some p) (h : Sep H (E p z :: dictXH id E a ps kvs j :: M)) : Sep H (dictE E a (dput kvs k z) :: M) :=
  dictX_E ⟨by rw [hl.1, ← List.length_map (·.1), ← keys_put (z := z) hl.2 hj, List.length_map], by rw [keys_put hl.2 hj]; exact hl.2⟩ (inX hl hj hp h)
theorem put_same {j : Nat} {y : β} (hn : (kvs.map (·.1)).Nodup) (hj : kvs[j]? = some (k, y)) : dput kvs k y = kvs := by
  rw [put_at hn hj]
  obtain ⟨h1, h2⟩ := List.getElem?_eq_some_iff.mp hj
  rw [← h2]; exact List.set_getElem_self h1
theorem unfocDE0 {ps : List Addr} {j : Nat} {y : β} {p : Addr} (hl : ps.length = kvs.length ∧ (kvs.map (·.1)).Nodup) (hj : kvs[j]? = some (k, y)) (hp : ps[j]? = some p) (h : Sep H (E p y :: dictXH id E a ps kvs j :: M)) : Sep H (dictE E a kvs :: M) := by
  have := unfocDE hl hj hp h
  rw [put_same hl.2 hj] at this; exact this
theorem drop_map {γ : Type} (f : κ × β → γ) : ∀ {l : List (κ × β)} {j : Nat} {y : β}, (l.map (·.1)).Nodup → l[j]? = some (k, y) → ddrop l k = l.eraseIdx j
  | [], _, _, _, h => by simp at h
  | x :: r, 0, y, hn, h => by
    have e : x = (k, y) := by simpa using h
    rw [List.map_cons, List.nodup_cons] at hn
    unfold ddrop
    rw [List.filter_cons_of_neg (by simp [e])]
    refine List.filter_eq_self.mpr fun z hz => ?_
    have : z.1 ≠ k := fun ez => hn.1 (by rw [e]; exact List.mem_map.mpr ⟨z, hz, ez⟩)
    simpa using this
  | x :: r, j + 1, y, hn, h => by
    have h2 : r[j]? = some (k, y) := by simpa using h
    rw [List.map_cons, List.nodup_cons] at hn
    have ne : x.1 ≠ k := fun z => hn.1 (by rw [z]; exact List.mem_map.mpr ⟨(k, y), List.mem_of_getElem? h2, rfl⟩)
    have ih := drop_map f hn.2 h2
    unfold ddrop at ih ⊢
    rw [List.filter_cons_of_pos (by simpa using ne), ih]
    rfl
theorem dropK_refs : ∀ {l : List (κ × β)} {qs : List Addr} {j : Nat} {y : β}, qs.length = l.length → (l.map (·.1)).Nodup → l[j]? = some (k, y) → dropK (refsD l qs) (Kx.key k) = refsD (l.eraseIdx j) (qs.eraseIdx j)
  | [], _, _, _, _, _, h => by simp at h
  | x :: r, [], _, _, hl, _, _ => by simp at hl
  | x :: r, q :: qs, 0, y, hl, hn, h => by
    have e : x = (k, y) := by simpa using h
    rw [List.map_cons, List.nodup_cons] at hn
    show dropK ((Kx.key x.1, V.ref q) :: refsD r qs) (Kx.key k) = refsD r qs
    unfold dropK
    rw [List.filter_cons_of_neg (by simp [e])]
    refine List.filter_eq_self.mpr fun z hz => ?_
    have : z.1 ∈ r.map (fun kv => Kx.key kv.1) := by
      have : ∀ {l : List (κ × β)} {qs : List Addr} {z : Key × V}, z ∈ refsD l qs → z.1 ∈ l.map (fun kv => Kx.key kv.1) := by
        intro l
        induction l with
        | nil => intro qs z hz; cases qs <;> cases hz
        | cons a l ih =>
          intro qs z hz
          cases qs with
          | nil => cases hz
          | cons b qs =>
            rcases List.mem_cons.mp (show z ∈ (Kx.key a.1, V.ref b) :: refsD l qs from hz) with rfl | hz
            · simp
            · rw [List.map_cons]; exact List.mem_cons_of_mem _ (ih hz)
      exact this hz
    obtain ⟨w, hw, ew⟩ := List.mem_map.mp this
    have : z.1 ≠ Kx.key k := fun ez => hn.1 (by rw [e]; exact List.mem_map.mpr ⟨w, hw, Kx.inj (ew.trans ez)⟩)
    simpa using this
  | x :: r, q :: qs, j + 1, y, hl, hn, h => by
    have h2 : r[j]? = some (k, y) := by simpa using h
    rw [List.map_cons, List.nodup_cons] at hn
    have ne : x.1 ≠ k := fun z => hn.1 (by rw [z]; exact List.mem_map.mpr ⟨(k, y), List.mem_of_getElem? h2, rfl⟩)
    have ne2 : ¬ Kx.key x.1 = Kx.key k := fun z => ne (Kx.inj z)
    have ih := dropK_refs (l := r) (qs := qs) (by simpa using hl) hn.2 h2
    show dropK ((Kx.key x.1, V.ref q) :: refsD r qs) (Kx.key k) = (Kx.key x.1, V.ref q) :: refsD (r.eraseIdx j) (qs.eraseIdx j)
    unfold dropK at ih ⊢
    rw [List.filter_cons_of_pos (by simpa using ne2), ih]
theorem zip_erase {α γ : Type} : ∀ {l : List α} {m : List γ} {j : Nat}, l.length = m.length → (l.zip m).eraseIdx j = (l.eraseIdx j).zip (m.eraseIdx j)
  | [], [], _, _ => rfl
  | x :: l, y :: m, 0, _ => rfl
  | x :: l, y :: m, j + 1, h => by
    show (x, y) :: (l.zip m).eraseIdx j = (x, y) :: (l.eraseIdx j).zip (m.eraseIdx j)
    rw [zip_erase (by simpa using h)]
  | [], _ :: _, _, h => by simp at h
  | _ :: _, [], _, h => by simp at h
/-- d.pop(k), an own thing -/
theorem k_pop1E (h : Sep H (dictE E a kvs :: M)) {y : β} (hk : dget kvs k = some y) (q : ∀ p H', Sep H' (E p y :: dictE E a (ddrop kvs k) :: M) → Q (.ref p) H') : pop1K2 a Q (kV (Kx.key k)) H := by
  obtain ⟨ps, hl, h⟩ := dictE_X h
  obtain ⟨j, hj⟩ := dget_idx hk
  obtain ⟨p, hp, e⟩ := refs_get hl.1 hl.2 hj
  refine ⟨refsD kvs ps, Kx.key k, .ref p, dictX_cell h, rfl, e, q p _ ?_⟩
  have h2 : Sep H (dictXH id E a ps kvs j :: E p y :: M) := (outX h hj hp).perm (List.Perm.swap _ _ _)
  have h3 := Sep.star1 h2
  have h4 := h3.put (i := 0) (a := a) (o := .dK (refsD kvs ps)) (o' := .dK (dropK (refsD kvs ps) (Kx.key k))) rfl rfl rfl
  have ed : ddrop kvs k = kvs.eraseIdx j := drop_map (fun z => z) hl.2 hj
  have lj : j < kvs.length := (List.getElem?_eq_some_iff.mp hj).1
  have er := dropK_refs hl.1 hl.2 hj
  rw [er] at h4 ⊢
  rw [ed]
  refine Sep.perm (Sep.exI (ps.eraseIdx j) (Sep.andI ⟨by rw [List.length_eraseIdx, List.length_eraseIdx, hl.1], ?_⟩ (Sep.unstar1 ?_)) : Sep _ (dictE E a (kvs.eraseIdx j) :: E p y :: M)) (List.Perm.swap _ _ _)
  · rw [← erase_map]
    exact hl.2.sublist (List.eraseIdx_sublist ..)
  · have ez : (ps.eraseIdx j).zip ((kvs.eraseIdx j).map (·.2)) = (ps.zip (kvs.map (·.2))).eraseIdx j := by
      rw [← erase_map, zip_erase (by rw [List.length_map]; exact hl.1)]
    rw [ez]
    exact h4
theorem k_newE' (h : Sep H (dictE E a kvs :: E p y :: M)) (hk : dhas kvs k = false) (hz : kvs.length < sizeLine) {P : Hp → Prop} (q : ∀ H', Sep H' (dictE E a (kvs ++ [(k, y)]) :: M) → P H') : rSetD (.ref a) (kV (Kx.key k)) (.ref p) H P :=
  k_newE h (fun hm => by
    obtain ⟨z, hz, e⟩ := List.mem_map.mp hm
    unfold dhas dget at hk
    rw [Option.isSome_map] at hk
    have : (kvs.find? fun kv => decide (kv.1 = k)).isSome = true := List.find?_isSome.mpr ⟨z, hz, by simpa using e⟩
    rw [this] at hk; cases hk) hz q
theorem newE0 {p : Addr} (hp : H p = none) (hS : Sep H M) : Sep (upd H p (.dK [])) (dictE E p ([] : List (κ × β)) :: M) :=
  Sep.exI [] (Sep.andI ⟨rfl, List.nodup_nil⟩ (Sep.unstar1 (L := [cell p (.dK [])]) (hS.new (o := .dK []) hp rfl)))
theorem k_dnewE (hS : Sep H M) (q : ∀ p H', Sep H' (dictE E p ([] : List (κ × β)) :: M) → Q (.ref p) H') : tDNewK σ H Q := fun p hp => q p _ (newE0 hp hS)
end
section
variable {β : Type} {H : Hp} {L : List (Asn G)} {Q : VK} {a : Addr} {i : Nat}
def rSortD : List V → Hp → VK → Prop := fun xs H Q => ∃ (a : Addr) (kvs : List (Key × V)) (ks : List Str), xs = [.ref a] ∧ Rd H a (.dK kvs) ∧ kvs.map (·.1) = ks.map Sum.inr ∧ ks.length < 64 ∧
    ∀ ys p, ys.Perm ks → sortedS ys = true → H p = none → Q (.ref p) (upd H p (.lst (ys.map V.str)))
theorem cr_sortD {X : Cx} (hc : X.calm = true) : CallR X (.builtin "sorted") rSortD := call_sortedD hc
theorem refs_keysS : ∀ {kvs : List (Str × β)} {ps : List Addr}, ps.length = kvs.length → (refsD kvs ps).map (·.1) = (kvs.map (·.1)).map Sum.inr
  | [], ps, _ => by cases ps <;> rfl
  | x :: r, p :: ps, h => by
    show Sum.inr x.1 :: (refsD r ps).map (·.1) = Sum.inr x.1 :: (r.map (·.1)).map Sum.inr
    rw [refs_keysS (by simpa using h)]
  | _ :: _, [], h => by simp at h
theorem k_sortRd {ks : List (Key × V)} {ss : List Str} (hS : Sep H L) (hc : Rd H a (.dK ks)) (e : ks.map (·.1) = ss.map Sum.inr) (h : ss.length < 64) (k : ∀ p H', Sep H' (lstA p (sortT ss) :: L) → Q (.ref p) H') : rSortD [.ref a] H Q :=
  ⟨a, ks, ss, rfl, hc, e, h, fun ys p pm srt hp => k p _ (hS.newL hp (imL.flat.mpr (by rw [sortT_of pm (sorted_leT srt)]; rfl)))⟩
theorem k_sortDA [Im G β] {xs : List (Str × β)} (hS : Sep H L) (e : L[i]? = some (dictA a xs)) (h : xs.length < 64) (k : ∀ p H', Sep H' (lstA p (sortT (xs.map (·.1))) :: L) → Q (.ref p) H') : rSortD [.ref a] H Q := by
  obtain ⟨ps, hc, m⟩ := hS.dict e
  exact k_sortRd hS (.inl hc) (by rw [m.keys, List.map_map]; rfl) (by rw [List.length_map]; exact h) k
end
section
variable {β : Type} [Im G β] {H : Hp} {L L' : List (Asn G)} {Q : VK} {a b : Addr} {i : Nat} {xs : List (Kt × β)} {k : Kt}
theorem isD_T (hS : Sep H L) (e : L[i]? = some (dictT a xs)) : IsD H a := by
  obtain ⟨ps, h, _⟩ := hS.dictT e
  exact .inr ⟨ps, .inl h⟩
theorem k_get2T {z : V} {y : β} (hS : Sep H L) (e : L[i]? = some (dictT a xs)) (hk : Im.im G H (.ref b) k) (hz : Im.im G H z y) (q : ∀ v, Sep H (imA v ((dget xs k).getD y) :: L) → Q v H) : get2K3 a (.ref b) Q z H := by
  obtain ⟨r, g, h1, h2⟩ := dget_atT hS e hk
  refine ⟨r, g, ?_⟩
  cases c : dget xs k with
  | none =>
    rw [h2 c]
    exact q z (by rw [c]; exact hS.addIm hz)
  | some w =>
    obtain ⟨v, rfl, m⟩ := h1 w c
    exact q v (by rw [c]; exact hS.addIm m)
theorem imDT.drop : ∀ {ps : List (List Key × V)} {qs : List (Kt × β)} (k : Kt), imDT (G := G) H ps qs → imDT (G := G) H (dropK ps k.ks) (ddrop qs k)
  | [], [], _, _ => True.intro
  | p :: ps, q :: qs, k, ⟨⟨e1, e2⟩, h⟩ => by
    have ih := imDT.drop k h
    unfold dropK ddrop at ih ⊢
    rw [List.filter_cons, List.filter_cons]
    by_cases c : q.1 = k
    · have c1 : p.1 = k.ks := by rw [e1, c]
      simp only [c, c1, ne_eq, not_true_eq_false, decide_false, Bool.false_eq_true, if_false]
      exact ih
    · have c1 : ¬ p.1 = k.ks := fun z => c (Kt.inj (e1.symm.trans z))
      simp only [c, c1, ne_eq, not_false_eq_true, decide_true, if_true]
      exact ⟨⟨e1, e2⟩, ih⟩
  | [], _ :: _, _, h => h.elim
  | _ :: _, [], _, h => h.elim
def rPopT1 : V → List V → Hp → VK → Prop := fun x xs H Q => ∃ (a : Addr) (kvs : List (List L2.Key × V)) (k : List L2.Key) (b : Addr) (v : V), x = .ref a ∧ xs = [.ref b] ∧ H a = some (.dT kvs) ∧ H b = some (.tup (k.map kV)) ∧ valV kvs k = some v ∧
  Q v (upd H a (.dT (dropK kvs k)))
theorem k_pop1T {y : β} (hS : Sep H L) (e : L[i]? = some (dictT a xs)) (hk : Im.im G H (.ref b) k) (h : dget xs k = some y) (e2 : L.set i (dictT a (ddrop xs k)) = L') (q : ∀ v H', Sep H' (imA v y :: L') → Q v H') : rPopT1 (.ref a) [.ref b] H Q := by
  obtain ⟨ps, hp, m⟩ := hS.dictT e
  obtain ⟨v, hv, hm⟩ := (m.val k).1 y h
  refine ⟨a, ps, k.ks, b, v, rfl, rfl, hp, kt_kv hk, hv, q v _ ?_⟩
  subst e2
  have h1 := (hS.addIm hm).putT (i := i + 1) (a := a) (xs := xs) (ys := ddrop xs k) (ps := dropK ps k.ks) (by simpa using e) (m.drop k)
  simpa using h1
end
end Ml
namespace Ml
open PySem PySem.W PySem.Calls PyProof.Rows PyProof.V PySem.Spec
section
open DT
variable {K : Type} [DecidableEq K] {prog : Program} {w : World} {knd : HeapKind prog w K}
theorem meetsPop1 {d b : Addr} {k : K} (hd : (d == sysModules) = false) :
    MeetsIn prog w (Builtin.«dict.pop» ⟨[.ref d, .ref b], []⟩) (fun A R s => ∃ xs, knd.room A.in1 ∧ knd.is s.heap k b ∧ s.heap.DictOfH knd d xs ∧ xs.length ≤ sizeLine ∧
      atKey xs k ≠ none ∧
      ∀ p, atKey xs k = some p → ∀ h' tk, h'.DictOfH knd d (dropH xs k) → Heap.SameBut d s.heap h' → R (.ok (.ret p.2)) { s with heap := h', toks := tk }) :=
  .of_wp fun A R s ⟨xs, hu, hkey, hm, hsz, hnone, hsome⟩ => by
    obtain ⟨o, es, ep, ho, hc, hdat, he, his, hn⟩ := id hm
    have hes : es.size = xs.length := size_of_entries he
    have hpart : (keyPart (Value.ref b)).isSome = false := rfl
    unfold Builtin.«dict.pop»
    refine wpAny_bind ?_
    unfold Builtin.Dict.keyAndDefault
    refine wpAny_bind (wpAny_notOrdered_dict hm.typeIs ?_)
    show wpAny _ _ (pure (d, Value.ref b, none)) _ _ s
    refine wpAny_pure ?_
    simp only [hpart, Bool.false_eq_true, if_false]
    refine wpAny_bind (wpAny_dictEntries ho hdat (wpAny_bind (wpAny_pure ?_)))
    cases hem : es.isEmpty with
    | true =>
      have h0 : xs = [] := by
        have z : es.size = 0 := by simpa using hem
        exact List.length_eq_zero_iff.mp (by omega)
      exact absurd (by rw [h0]; rfl) hnone
    | false =>
      simp only [Bool.false_eq_true, if_false]
      refine wpAny_bind (takeH hu hkey hm hsz (fun hno => absurd hno hnone) fun p e hp hev h' hm' hs' => ?_)
      simp only [Option.isNone_some, Bool.false_eq_true, if_false]
      exact wpAny_bind (wpAny_letGo (wpAny_pure ⟨e.val, rfl, by rw [hev]; exact hsome p hp h' _ hm' hs'⟩))
end
end Ml
namespace Ml
open PySem PySem.Spec PyProof.Rows L2 L2.DX
section
variable {X : Cx}
theorem mt_popT1 (hu : X.A.units + 1 < cLine) : MtR X "dict.pop" rPopT1 := by
  intro pins s σ H x xs v us Q I rx rxs h
  obtain ⟨a, kvs, k, b, v1, rfl, rfl, ha, hb, hv, q1⟩ := h
  cases rx
  obtain ⟨u1, rfl, r1⟩ := vals1 rxs
  cases r1
  obtain ⟨z, hd, xs', rel, dd⟩ := dt_of I.hok ha
  have hz : xs'.length ≤ sizeLine := by rw [← Paired.length rel]; exact z
  have r0 := rel.val k
  refine call_meetsIn PySem.F.slot_dict_pop dd.typeIs PySem.F.entry_dict_pop (PySem.F.args_dict_pop_2 _ _) (meetsPop1 (knd := tupleKind (mixKind X.prog X.w)) (k := k) hd)
    ⟨xs', tupleKind_room_in1 hu, key_of I.hok hb, dd, hz, fun hn => ?_, fun p hp h' tk dd' hs => ?_⟩
  · rw [hn, hv] at r0
    exact r0
  · have r := rel.val k
    rw [hp, hv] at r
    obtain ⟨o, es, ep, hq, h2, h3, h4, _, h5⟩ := dd'
    have I2 : Inv X pins σ (upd H a (.dT (dropK kvs k))) { s with heap := h', toks := tk } :=
      d_write I (by rw [ha]; exact True.intro) hs ⟨o, hq⟩ ⟨Nat.le_trans (dropK_le kvs k) z, hd, _, (KT_drop k rel).keeps (fun c ys ec => (by rw [upd_ne (ne_of ec ha (fun z => nomatch z))]; exact ec)), o, es, ep, hq, h2, h3, h4, h5⟩
    show EP X pins σ Q p.2 _
    exact ⟨v1, _, I2, r, q1⟩
end
end Ml
namespace Ml
open PySem PySem.Spec PyProof.Rows L2
variable {G : Gx}
section
variable {κ β : Type} [DecidableEq κ] [Kx κ] {H : Hp} {L : List (Asn G)} {σ : L2.St} {Q : VK} {td ty : TE} {k : κ} {a : Addr} {i : Nat} {kvs : List (κ × β)} {E : Addr → β → Asn G}
theorem sat_front {A : Asn G} (h : Sep H L) (e : L[i]? = some A) : ∃ M, Sep H (A :: M) := ⟨_, h.perm (pull_perm e)⟩
theorem Sep.cellE (h : Sep H L) (e : L[i]? = some (dictE E a kvs)) : ∃ ps : List Addr, (ps.length = kvs.length ∧ (kvs.map (·.1)).Nodup) ∧ H a = some (.dK (refsD kvs ps)) := by
  obtain ⟨M, h⟩ := sat_front h e
  exact dictE_cell h
theorem isD_Ei (h : Sep H L) (e : L[i]? = some (dictE E a kvs)) : IsD H a := by
  obtain ⟨M, h⟩ := sat_front h e
  exact isD_E h
theorem ev_dinE (h : Sep H L) (e : L[i]? = some (dictE E a kvs)) (hy : Ev ty σ H (kV (Kx.key k))) (hd : Ev td σ H (.ref a)) : Ev (tDIn ty td) σ H (.bl (dhas kvs k)) := fun Q q => hy _ (hd _ (by
  obtain ⟨M, h⟩ := sat_front h e
  exact k_dinE h q))
theorem ev_dniE (h : Sep H L) (e : L[i]? = some (dictE E a kvs)) (hy : Ev ty σ H (kV (Kx.key k))) (hd : Ev td σ H (.ref a)) : Ev (tDNotIn ty td) σ H (.bl (!dhas kvs k)) := fun Q q => hy _ (hd _ (by
  obtain ⟨M, h⟩ := sat_front h e
  exact k_dniE h q))
theorem k_dgetV {y v : V} (g : DGet H a y (some v)) (q : Q v H) : dgetK2 (.ref a) Q y H := ⟨a, v, rfl, g, q⟩
theorem wp_dgetX {ρ β : Type} {kvs : List (κ × β)} {q : ρ → Prop} {e : Exc → Prop} {f : β → R ρ} (h : R.wp ((dgetR kvs k).bind f) q e) : ∃ y, dget kvs k = some y ∧ R.wp (f y) q e := by
  unfold dgetR at h
  cases c : dget kvs k with
  | none => rw [c] at h; exact h.elim
  | some y => rw [c] at h; exact ⟨y, rfl, h⟩
end
section
variable {β : Type} {H : Hp} {L : List (Asn G)} {a : Addr} {i : Nat} {kvs : List (Str × β)} {E : Addr → β → Asn G} {Q : VK}
theorem k_sortDEi (hS : Sep H L) (e : L[i]? = some (dictE E a kvs)) (h : kvs.length < 64) (k : ∀ p H', Sep H' (lstA p (sortT (kvs.map (·.1))) :: L) → Q (.ref p) H') : rSortD [.ref a] H Q := by
  obtain ⟨ps, hl, hc⟩ := hS.cellE e
  exact k_sortRd hS (.inl hc) (refs_keysS hl.1) (by rw [List.length_map]; exact h) k
end
end Ml
namespace Ml
open PySem PySem.Spec PyProof.Rows L2
variable {G : Gx} {H : Hp} {L L' : List (Asn G)}
def recSL (p : Addr) (x : Str × List Str) : Asn G := lstA p ([.str x.1, .lst (x.2.map .str)] : List Any)
theorem imL_unstr : ∀ {vs : List V} {xs : List Str}, imL (G := G) H vs (xs.map Any.str) → imL (G := G) H vs xs
  | [], [], _ => True.intro
  | v :: vs, x :: xs, h => ⟨any_str.mp h.1, imL_unstr h.2⟩
  | [], _ :: _, h => h.elim
  | _ :: _, [], h => h.elim
theorem any_unlstS {v : V} {xs : List Str} (h : Im.im G H v (Any.lst (xs.map Any.str))) : Im.im G H v xs := by
  obtain ⟨a, vs, e, g, m⟩ := any_lsts.mp h
  exact ⟨a, vs, e, g, imL_unstr m⟩
theorem rec_get {i : Nat} {p : Addr} {x : Str × List Str} (hS : Sep H L) (e : L[i]? = some (recSL p x)) : ∃ ad, SqL G.K H p [.str x.1, .ref ad] ∧ Im.im G H (.ref ad) x.2 := by
  obtain ⟨vs, h, m⟩ := hS.lst (xs := ([.str x.1, .lst (x.2.map .str)] : List Any)) e
  match vs, m with
  | [v1, v2], m =>
    obtain ⟨m1, m2, _⟩ := m
    cases any_str.mp m1
    obtain ⟨ad, rfl⟩ := isref (any_unlstS m2)
    exact ⟨ad, .inl (.inl h), any_unlstS m2⟩
  | [], m => exact m.elim
  | [_], m => exact m.2.elim
  | _ :: _ :: _ :: _, m => exact m.2.2.elim
end Ml
namespace Ml
open PySem PySem.Spec PyProof.Rows L2
variable {G : Gx}
section
variable {κ β : Type} [DecidableEq κ] [Kx κ] {H : Hp} {M L : List (Asn G)} {σ : L2.St} {td ty : TE} {k : κ} {a : Addr} {i : Nat} {kvs : List (κ × β)} {E : Addr → β → Asn G}
theorem prefocD (h : Sep H (dictE E a kvs :: M)) {y : β} (hk : dget kvs k = some y) : ∃ ps p j, (ps.length = kvs.length ∧ (kvs.map (·.1)).Nodup) ∧ kvs[j]? = some (k, y) ∧ ps[j]? = some p ∧ Sep H (E p y :: dictXH id E a ps kvs j :: M) := by
  obtain ⟨ps, hl, h⟩ := dictE_X h
  obtain ⟨j, hj⟩ := dget_idx hk
  obtain ⟨p, hp, e⟩ := refs_get hl.1 hl.2 hj
  exact ⟨ps, p, j, hl, hj, hp, outX h hj hp⟩
theorem hole_get {ps : List Addr} {p : Addr} {j : Nat} {y : β} (h : Sep H L) (e : L[i]? = some (dictXH id E a ps kvs j)) (hl : ps.length = kvs.length ∧ (kvs.map (·.1)).Nodup) (hj : kvs[j]? = some (k, y)) (hp : ps[j]? = some p) : DGet H a (kV (Kx.key k)) (some (.ref p)) := by
  obtain ⟨M, h⟩ := sat_front h e
  have hc : H a = some (.dK (refsD kvs ps)) := (Sep.star1 h).getCell (i := 0) rfl
  exact .inl ⟨_, Kx.key k, .inl hc, rfl, (refs_val hl.1 hl.2 hj hp).symm⟩
theorem ev_dgetV {v y : V} (hd : Ev td σ H (.ref a)) (hy : Ev ty σ H y) (g : DGet H a y (some v)) : Ev (tDGet td ty) σ H v := fun Q q => hd _ (hy _ ⟨a, v, rfl, g, q⟩)
end
end Ml
namespace Ml
open PySem PySem.Spec PyProof.Rows L2
variable {G : Gx}
theorem m1 {X : Cx} {o : Expr} {m : Str} {apos : Pos} {e : Expr} {cpos : Pos} (base : attributeBase o m X.env (eval o X.env) = eval o X.env := by rfl)
  (few : ((backTo cpos (starEach [e] X.env)).all (fun x => !x.1) && (backToKw cpos (keywordEach [] X.env)).all (fun x => x.1.isSome)
    && decide (([e] : List Expr).length + ([] : List Keyword).length + (if ([] : List Keyword).isEmpty then 0 else 1) < 30)) = true := by rfl)
  (line : (apos.endLine == cpos.line) = true := by rfl) (trees : backTo cpos (starEach [e] X.env) = [(false, eval e X.env)] := by rfl) : M1 X o m apos e cpos := ⟨base, few, line, trees⟩
theorem tyDT {β : Type} [Im G β] {H : Hp} {L : List (Asn G)} {i : Nat} {a : Addr} {xs : List (Kt × β)} (hS : Sep H L) (e : L[i]? = some (dictT a xs)) : tyV G.K "dict" (.ref a) H := by
  obtain ⟨ps, h, _⟩ := hS.dictT e
  exact .inr (.inr (.inl ⟨rfl, .inr ⟨_, h⟩⟩))
end Ml
namespace Ml
open PySem PySem.Spec PyProof.Rows L2
end Ml
namespace Ml
open PySem PySem.Spec PyProof.Rows L2
variable {G : Gx} {H : Hp}
def sii (x : T3 Str Int Int) : Any := .tup [.str x.a, .int x.b, .int x.c]
theorem im_sii {v : V} {x : T3 Str Int Int} (h : Im.im G H v x) : Im.im G H v (sii x) := by
  obtain ⟨a, rfl⟩ := isref h
  obtain ⟨u1, u2, u3, hT, h1, h2, h3⟩ := im3 h
  exact any_tup.mpr ⟨_, _, rfl, hT, any_str.mpr h1, any_int.mpr h2, any_int.mpr h3, True.intro⟩
theorem imL_sii : ∀ {vs : List V} {xs : List (T3 Str Int Int)}, imL (G := G) H vs xs → imL (G := G) H vs (xs.map sii)
  | [], [], _ => True.intro
  | v :: vs, x :: xs, h => ⟨im_sii h.1, imL_sii h.2⟩
  | [], _ :: _, h => h.elim
  | _ :: _, [], h => h.elim
theorem any_lstSII {v : V} {xs : List (T3 Str Int Int)} (h : Im.im G H v xs) : Im.im G H v (Any.lst (xs.map sii)) := by
  obtain ⟨a, vs, e, g, m⟩ := h
  exact any_lsts.mpr ⟨a, vs, e, g, imL_sii m⟩
end Ml
namespace Ml
open PySem PySem.Spec PyProof.Rows L2
variable {G : Gx} {H : Hp}
section
variable {tb : TE} {σ : L2.St} {Q : VK} {τ ρ : Type} {A : R (τ × Bool)} {s0 : τ} {rest : τ → Bool → R ρ} {q : ρ → Prop} {e : Exc → Prop} {a : Bool}
theorem andVK_T (N : τ → List (Asn G)) (hm : R.wp (bind2 (if a = true then A else .ok (s0, false)) rest) q e) (hS : Sep H (N s0))
    (h1 : a = true → ∀ q' : τ × Bool → Prop, R.wp A q' e → (∀ s b H', q' (s, b) → Sep H' (N s) → Q (.bl b) H') → tb σ H Q) (k : ∀ s b H', R.wp (rest s b) q e → Sep H' (N s) → Q (.bl b) H') : andVK tb σ Q (.bl a) H := by
  have hm' := R.wp_bind (bind2_wp hm)
  cases a with
  | true => exact ⟨true, rfl, h1 rfl _ hm' fun s b H' h hS => k s b H' h hS⟩
  | false => exact ⟨false, rfl, k s0 false H hm' hS⟩
end
end Ml
namespace Ml
open PySem PySem.Spec PyProof.Rows L2
structure Opq where
variable {G : Gx} {H : Hp}
instance imOpq : Im G Opq := ⟨fun _ _ _ => True, fun _ _ => trivial⟩
theorem opq_i {v : V} : Im.im G H v (Opq.mk) := trivial
end Ml
namespace L2
open PySem PySem.Spec PyProof.Rows Ml
end L2
namespace Ml
open PySem PySem.Spec PyProof.Rows L2
end Ml
namespace Ml
open PySem PySem.Spec PyProof.Rows L2
end Ml
namespace Ml
open PySem PySem.Spec PyProof.Rows L2
def hasA {β : Type} (xs : List (Str × β)) : Any → R Bool
  | .str s => .ok (dhas xs s)
  | .int _ => .ok false
  | .non => .ok false
  | _ => .bad
theorem wp_hasA {β ρ : Type} {xs : List (Str × β)} {x : Any} {f : Bool → R ρ} {q : ρ → Prop} {e : Exc → Prop} (h : R.wp ((hasA xs x).bind f) q e) : ∃ b, hasA xs x = .ok b ∧ R.wp (f b) q e := by
  cases x with
  | str s => exact ⟨_, rfl, h⟩
  | int i => exact ⟨_, rfl, h⟩
  | non => exact ⟨_, rfl, h⟩
  | _ => exact h.elim
section
variable {G : Gx} {β : Type} [Im G β] {H : Hp} {L : List (Asn G)} {i : Nat} {a : Addr} {xs : List (Str × β)} {v : V} {x : Any} {b : Bool} {td ty : TE} {σ : L2.St}
theorem valV_no : ∀ {ps : List (Key × V)} {k : Key}, ¬ k ∈ ps.map (·.1) → valV ps k = none := fun {ps k} h => by
  cases c : valV ps k with
  | none => rfl
  | some y =>
    exfalso
    have : (ps.any fun kv => decide (kv.1 = k)) = true := by rw [valV_any, c]; rfl
    obtain ⟨p, hp, e⟩ := List.any_eq_true.mp this
    exact h (List.mem_map.mpr ⟨p, hp, of_decide_eq_true e⟩)
theorem has_at (hS : Sep H L) (e : L[i]? = some (dictA a xs)) (hv : Im.im G H v x) (h : hasA xs x = .ok b) : (∃ o : Option V, DGet H a v o ∧ o.isSome = b) ∨ ∃ kvs, v = .non ∧ Rd H a (.dK kvs) ∧ b = false := by
  cases x with
  | str s =>
    have hv : v = .str s := any_str.mp hv
    subst hv
    have h : dhas xs s = b := by injection h
    obtain ⟨r, g, h1, h2⟩ := dget_at hS e (k := s) rfl
    refine .inl ⟨r, g, ?_⟩
    rw [← h]; unfold dhas
    cases c : dget xs s with
    | none => rw [h2 c]; rfl
    | some y => obtain ⟨v, e, _⟩ := h1 y c; rw [e]; rfl
  | int j =>
    have hv : v = .int j := any_int.mp hv
    subst hv
    have h : false = b := by injection h
    obtain ⟨ps, hp, m⟩ := hS.dict e
    refine .inl ⟨none, .inl ⟨ps, .inl j, .inl hp, rfl, (valV_no fun q => ?_).symm⟩, h⟩
    rw [m.keys] at q
    obtain ⟨z, _, hz⟩ := List.mem_map.mp q
    cases hz
  | non =>
    have hv : v = .non := any_non.mp hv
    subst hv
    have h : false = b := by injection h
    obtain ⟨ps, hp, m⟩ := hS.dict e
    exact .inr ⟨ps, rfl, .inl hp, h.symm⟩
  | _ => cases h
theorem ev_dniN (hS : Sep H L) (e : L[i]? = some (dictA a xs)) (hv : Im.im G H v x) (h : hasA xs x = .ok b) (hy : Ev ty σ H v) (hd : Ev td σ H (.ref a)) : Ev (tDNotInN ty td) σ H (.bl (!b)) := fun Q q => hy _ (hd _ (by
  rcases has_at hS e hv h with ⟨o, g, rfl⟩ | ⟨ps, rfl, g, rfl⟩
  · exact .inl ⟨a, o, rfl, g, q⟩
  · exact .inr ⟨a, ps, rfl, rfl, g, q⟩))
end
end Ml
namespace Ml
open PySem PySem.Spec PyProof.Rows L2
/-- a if t else b, numbers -/
theorem ev_ifI {tA : TT} {ta tb : TE} {b : Bool} {a c : Int} {σ : L2.St} {H : Hp} (h : Et tA σ H b) (h1 : Ev ta σ H (.int a)) (h2 : Ev tb σ H (.int c)) : Ev (tIf tA ta tb) σ H (.int (if b = true then a else c)) := fun Q q => h _ (by
  cases b with
  | true => exact h1 Q q
  | false => exact h2 Q q)
end Ml
namespace Lw
open PySem PySem.Spec PyProof.Rows L2 Ml
def top (i : Nat) : Stmt := PySem.Challenge.pw_mailroom_k32_folders_refused.main.body.getD i (.Pass ⟨0, 0, 0, 0⟩)
abbrev s_Folders___init__ : Stmt := inClass (top 10) 0
abbrev s_Folders_need : Stmt := inClass (top 10) 1
abbrev s_Folders_tally : Stmt := inClass (top 10) 2
abbrev s_Folders_shift : Stmt := inClass (top 10) 3
abbrev s_Folders_add : Stmt := inClass (top 10) 4
abbrev s_Folders_take_out : Stmt := inClass (top 10) 5
abbrev s_Folders_place : Stmt := inClass (top 10) 6
abbrev s_Folders_mark : Stmt := inClass (top 10) 7
abbrev s_Folders_unmark : Stmt := inClass (top 10) 8
abbrev s_Folders_folder : Stmt := inClass (top 10) 9
abbrev s_Folders_marks : Stmt := inClass (top 10) 10
abbrev s_Folders_counts : Stmt := inClass (top 10) 11
abbrev s_Folders_marked : Stmt := inClass (top 10) 12
abbrev s_Folders_names : Stmt := inClass (top 10) 13
abbrev s_Folders_folders : Stmt := inClass (top 10) 14
abbrev s_law_row : Stmt := top 12
abbrev s_law_word : Stmt := top 13
abbrev s_law_done : Stmt := top 15
abbrev s_law_does : Stmt := top 16
abbrev s_law_some : Stmt := top 18
abbrev s_law_of_one_class : Stmt := top 19
abbrev s_law_asked : Stmt := top 20
abbrev s_law_refused : Stmt := top 21
abbrev s_law_odd_refused : Stmt := top 22
abbrev s_law_goes : Stmt := top 23
abbrev s_law_seen : Stmt := top 24
abbrev s_law : Stmt := top 25
def asM : List Addr := ([3, 24, 37, 49, 69, 81, 93, 105, 219, 2, 23, 36, 48, 68, 80, 92, 104, 218, 66, 121, 128, 135, 142, 150, 157, 164, 171, 178, 185, 192, 199, 206, 211, 216, 230, 235, 245, 252, 264, 271] : List Addr) ++ ([278, 285, 290, 297, 302, 309, 15, 22, 28, 35, 40, 47, 52, 59, 60, 62, 63, 67, 72, 79, 84, 91, 96, 103, 115, 117, 118, 122, 124, 125, 129, 131, 132, 136, 138, 139, 143, 144, 146, 147] : List Addr) ++ ([151, 153, 154, 158, 160, 161, 165, 167, 168, 172, 174, 175, 179, 181, 182, 186, 188, 189, 193, 195, 196, 200, 202, 203, 207, 212, 217, 224, 226, 227, 231, 241, 246, 248, 249, 260, 265, 267, 268, 272] : List Addr) ++ ([274, 275, 279, 281, 282, 286, 291, 293, 294, 298, 303, 305, 306, 25, 65, 120, 127, 134, 141, 149, 156, 163, 170, 177, 184, 191, 198, 205, 210, 215, 220, 221, 229, 234, 244, 251, 263, 270, 277, 284] : List Addr) ++ ([289, 296, 301, 308] : List Addr)
def conS (K : PySem.W.Frag) (x : Str) (i : Str) : Bool := match PySem.W.nsIn K mainGlobals x with
  | some (some (.str j _)) => decide (j = i)
  | _ => false
theorem conS_ok {K : PySem.W.Frag} {x : Str} {i : Str} (c : conS K x i = true) : ∃ t, PySem.W.nsIn K mainGlobals x = some (some (.str i t)) := by
  unfold conS at c
  split at c
  · rename_i j t e
    have ej : j = i := of_decide_eq_true c
    exact ⟨t, by rw [e, ej]⟩
  · cases c
theorem fxM {l : List Bool} (h : l.all id = true) (i : Nat) {b : Bool} (e : l[i]? = some b) : b = true := List.all_eq_true.mp h b (List.mem_of_getElem? e)
def fb0 (K : PySem.W.Frag) : List Bool := [
  decide (PySem.W.nsIn K mainGlobals "MailError" = some (some (.ref 24))),
  decide (PySem.W.nsIn K mainGlobals "NoWord" = some (some (.ref 37))),
  decide (PySem.W.nsIn K mainGlobals "NoLetter" = some (some (.ref 49))),
  decide (PySem.W.nsIn K mainGlobals "NoRule" = some (some (.ref 69))),
  decide (PySem.W.nsIn K mainGlobals "NoName" = some (some (.ref 81))),
  decide (PySem.W.nsIn K mainGlobals "NoParcel" = some (some (.ref 93))),
  decide (PySem.W.nsIn K mainGlobals "NoRow" = some (some (.ref 105))),
  decide (PySem.W.nsIn K mainGlobals "Folders" = some (some (.ref 219))),
  decide (PySem.W.findIn K (.ref 219) "__init__" = some (some (.ref 121))),
  decide (PySem.W.isFn K (.ref 121) = true),
  decide (PySem.W.makesIn K 219 = true),
  decide (PySem.W.keepIn K (.ref 219) = true),
  decide (PySem.W.findIn K (.ref 219) "need" = some (some (.ref 128))),
  decide (PySem.W.isFn K (.ref 128) = true),
  decide (PySem.W.findIn K (.ref 219) "tally" = some (some (.ref 135))),
  decide (PySem.W.isFn K (.ref 135) = true),
  decide (PySem.W.findIn K (.ref 219) "shift" = some (some (.ref 142))),
  decide (PySem.W.isFn K (.ref 142) = true),
  decide (PySem.W.findIn K (.ref 219) "add" = some (some (.ref 150))),
  decide (PySem.W.isFn K (.ref 150) = true),
  decide (PySem.W.findIn K (.ref 219) "take_out" = some (some (.ref 157))),
  decide (PySem.W.isFn K (.ref 157) = true),
  decide (PySem.W.findIn K (.ref 219) "place" = some (some (.ref 164))),
  decide (PySem.W.isFn K (.ref 164) = true),
  decide (PySem.W.findIn K (.ref 219) "mark" = some (some (.ref 171))),
  decide (PySem.W.isFn K (.ref 171) = true),
  decide (PySem.W.findIn K (.ref 219) "unmark" = some (some (.ref 178))),
  decide (PySem.W.isFn K (.ref 178) = true),
  decide (PySem.W.findIn K (.ref 219) "folder" = some (some (.ref 185))),
  decide (PySem.W.isFn K (.ref 185) = true),
  decide (PySem.W.findIn K (.ref 219) "marks" = some (some (.ref 192))),
  decide (PySem.W.isFn K (.ref 192) = true),
  decide (PySem.W.findIn K (.ref 219) "counts" = some (some (.ref 199))),
  decide (PySem.W.isFn K (.ref 199) = true),
  decide (PySem.W.findIn K (.ref 219) "marked" = some (some (.ref 206))),
  decide (PySem.W.isFn K (.ref 206) = true),
  decide (PySem.W.findIn K (.ref 219) "names" = some (some (.ref 211))),
  decide (PySem.W.isFn K (.ref 211) = true),
  decide (PySem.W.findIn K (.ref 219) "folders" = some (some (.ref 216))),
  decide (PySem.W.isFn K (.ref 216) = true)]
def fb1 (K : PySem.W.Frag) : List Bool := [
  decide (PySem.W.nsIn K mainGlobals "_law_row" = some (some (.ref 230))),
  decide (PySem.W.nsIn K mainGlobals "_law_word" = some (some (.ref 235))),
  decide (PySem.W.nsIn K mainGlobals "_law_done" = some (some (.ref 245))),
  decide (PySem.W.nsIn K mainGlobals "_law_does" = some (some (.ref 252))),
  decide (PySem.W.nsIn K mainGlobals "_law_some" = some (some (.ref 264))),
  decide (PySem.W.nsIn K mainGlobals "_law_of_one_class" = some (some (.ref 271))),
  decide (PySem.W.nsIn K mainGlobals "_law_asked" = some (some (.ref 278))),
  decide (PySem.W.nsIn K mainGlobals "_law_refused" = some (some (.ref 285))),
  decide (PySem.W.nsIn K mainGlobals "_law_odd_refused" = some (some (.ref 290))),
  decide (PySem.W.nsIn K mainGlobals "_law_goes" = some (some (.ref 297))),
  decide (PySem.W.nsIn K mainGlobals "_law_seen" = some (some (.ref 302))),
  decide (PySem.W.nsIn K mainGlobals "law" = some (some (.ref 309))),
  decide (PySem.W.subIn K (.ref 24) (.type "BaseException") = some true),
  decide (PySem.W.typeIn K (.ref 24) = some (.type "type")),
  decide (PySem.W.hasDictIn K 24 = true),
  decide (PySem.W.subIn K (.ref 24) (.ref 24) = some true),
  decide (PySem.W.subIn K (.ref 37) (.ref 24) = some true),
  decide (PySem.W.subIn K (.ref 49) (.ref 24) = some true),
  decide (PySem.W.subIn K (.ref 69) (.ref 24) = some true),
  decide (PySem.W.subIn K (.ref 81) (.ref 24) = some true),
  decide (PySem.W.subIn K (.ref 93) (.ref 24) = some true),
  decide (PySem.W.subIn K (.ref 105) (.ref 24) = some true),
  decide (PySem.W.excIn K 81 [.type "ValueError", .type "Exception", .type "BaseException", .type "object"] "ValueError.__new__" = true),
  decide (PySem.W.keepIn K (.ref 81) = true),
  decide (PySem.W.subIn K (.ref 81) (.type "BaseException") = some true),
  decide (PySem.W.typeIn K (.ref 81) = some (.type "type")),
  decide (PySem.W.plainGet K 219 Str.empty = true),
  decide (PySem.W.hasDictIn K 219 = true),
  decide (PySem.W.plainOver K 219 = true),
  decide (PySem.W.findIn K (.ref 219) "__setattr__" = some (some (.builtin "object.__setattr__"))),
  decide (PySem.W.findIn K (.ref 219) "boxes" = some none),
  decide (PySem.W.findIn K (.ref 219) "tags" = some none),
  decide (PySem.W.findIn K (.ref 219) "sums" = some none),
  decide (PySem.W.findIn K (.ref 219) "tallies" = some none),
  decide (PySem.W.findIn K (.ref 24) "__getattribute__" = some (some (.builtin "BaseException.__getattribute__"))),
  decide (PySem.W.findIn K (.ref 24) "__getattr__" = some none),
  decide (PySem.W.findIn K (.ref 24) "__class__" = some (some (.builtin "object.__class__"))),
  decide (PySem.W.mroIn K 24 (.type "object") = some true),
  decide (PySem.W.findIn K (.ref 37) "__getattribute__" = some (some (.builtin "BaseException.__getattribute__"))),
  decide (PySem.W.findIn K (.ref 37) "__getattr__" = some none)]
def fb2 (K : PySem.W.Frag) : List Bool := [
  decide (PySem.W.subIn K (.ref 37) (.type "BaseException") = some true),
  decide (PySem.W.typeIn K (.ref 37) = some (.type "type")),
  decide (PySem.W.hasDictIn K 37 = true),
  decide (PySem.W.findIn K (.ref 37) "__class__" = some (some (.builtin "object.__class__"))),
  decide (PySem.W.mroIn K 37 (.type "object") = some true),
  decide (PySem.W.findIn K (.ref 49) "__getattribute__" = some (some (.builtin "BaseException.__getattribute__"))),
  decide (PySem.W.findIn K (.ref 49) "__getattr__" = some none),
  decide (PySem.W.subIn K (.ref 49) (.type "BaseException") = some true),
  decide (PySem.W.typeIn K (.ref 49) = some (.type "type")),
  decide (PySem.W.hasDictIn K 49 = true),
  decide (PySem.W.findIn K (.ref 49) "__class__" = some (some (.builtin "object.__class__"))),
  decide (PySem.W.mroIn K 49 (.type "object") = some true),
  decide (PySem.W.findIn K (.ref 69) "__getattribute__" = some (some (.builtin "BaseException.__getattribute__"))),
  decide (PySem.W.findIn K (.ref 69) "__getattr__" = some none),
  decide (PySem.W.subIn K (.ref 69) (.type "BaseException") = some true),
  decide (PySem.W.typeIn K (.ref 69) = some (.type "type")),
  decide (PySem.W.hasDictIn K 69 = true),
  decide (PySem.W.findIn K (.ref 69) "__class__" = some (some (.builtin "object.__class__"))),
  decide (PySem.W.mroIn K 69 (.type "object") = some true),
  decide (PySem.W.findIn K (.ref 81) "__getattribute__" = some (some (.builtin "BaseException.__getattribute__"))),
  decide (PySem.W.findIn K (.ref 81) "__getattr__" = some none),
  decide (PySem.W.hasDictIn K 81 = true),
  decide (PySem.W.findIn K (.ref 81) "__class__" = some (some (.builtin "object.__class__"))),
  decide (PySem.W.mroIn K 81 (.type "object") = some true),
  decide (PySem.W.findIn K (.ref 93) "__getattribute__" = some (some (.builtin "BaseException.__getattribute__"))),
  decide (PySem.W.findIn K (.ref 93) "__getattr__" = some none),
  decide (PySem.W.subIn K (.ref 93) (.type "BaseException") = some true),
  decide (PySem.W.typeIn K (.ref 93) = some (.type "type")),
  decide (PySem.W.hasDictIn K 93 = true),
  decide (PySem.W.findIn K (.ref 93) "__class__" = some (some (.builtin "object.__class__"))),
  decide (PySem.W.mroIn K 93 (.type "object") = some true),
  decide (PySem.W.findIn K (.ref 105) "__getattribute__" = some (some (.builtin "BaseException.__getattribute__"))),
  decide (PySem.W.findIn K (.ref 105) "__getattr__" = some none),
  decide (PySem.W.subIn K (.ref 105) (.type "BaseException") = some true),
  decide (PySem.W.typeIn K (.ref 105) = some (.type "type")),
  decide (PySem.W.hasDictIn K 105 = true),
  decide (PySem.W.findIn K (.ref 105) "__class__" = some (some (.builtin "object.__class__"))),
  decide (PySem.W.mroIn K 105 (.type "object") = some true),
  decide (PySem.W.specialIn K (.builtin "object.__class__") "__get__" = some (some (.builtin "getset_descriptor.__get__"))),
  decide (PySem.W.takesIn K (.builtin "object.__class__") = some true)]
def fb3 (K : PySem.W.Frag) : List Bool := [
  decide (PySem.W.subIn K (.ref 24) (.ref 49) = some false),
  decide (¬ 24 = 49),
  decide (PySem.W.subIn K (.ref 37) (.ref 49) = some false),
  decide (¬ 37 = 49),
  decide (PySem.W.subIn K (.ref 49) (.ref 49) = some true),
  decide (PySem.W.subIn K (.ref 69) (.ref 49) = some false),
  decide (¬ 69 = 49),
  decide (PySem.W.subIn K (.ref 81) (.ref 49) = some false),
  decide (¬ 81 = 49),
  decide (PySem.W.subIn K (.ref 93) (.ref 49) = some false),
  decide (¬ 93 = 49),
  decide (PySem.W.subIn K (.ref 105) (.ref 49) = some false),
  decide (¬ 105 = 49),
  decide (PySem.W.subIn K (.ref 24) (.ref 81) = some false),
  decide (¬ 24 = 81),
  decide (PySem.W.subIn K (.ref 37) (.ref 81) = some false),
  decide (¬ 37 = 81),
  decide (PySem.W.subIn K (.ref 49) (.ref 81) = some false),
  decide (¬ 49 = 81),
  decide (PySem.W.subIn K (.ref 69) (.ref 81) = some false),
  decide (¬ 69 = 81),
  decide (PySem.W.subIn K (.ref 81) (.ref 81) = some true),
  decide (PySem.W.subIn K (.ref 93) (.ref 81) = some false),
  decide (¬ 93 = 81),
  decide (PySem.W.subIn K (.ref 105) (.ref 81) = some false),
  decide (¬ 105 = 81),
  decide (PySem.W.subIn K (.ref 24) (.ref 93) = some false),
  decide (¬ 24 = 93),
  decide (PySem.W.subIn K (.ref 37) (.ref 93) = some false),
  decide (¬ 37 = 93),
  decide (PySem.W.subIn K (.ref 49) (.ref 93) = some false),
  decide (¬ 49 = 93),
  decide (PySem.W.subIn K (.ref 69) (.ref 93) = some false),
  decide (¬ 69 = 93),
  decide (PySem.W.subIn K (.ref 81) (.ref 93) = some false),
  decide (¬ 81 = 93),
  decide (PySem.W.subIn K (.ref 93) (.ref 93) = some true),
  decide (PySem.W.subIn K (.ref 105) (.ref 93) = some false),
  decide (¬ 105 = 93),
  decide (PySem.W.subIn K (.ref 24) (.ref 105) = some false)]
def fb4 (K : PySem.W.Frag) : List Bool := [
  decide (¬ 24 = 105),
  decide (PySem.W.subIn K (.ref 37) (.ref 105) = some false),
  decide (¬ 37 = 105),
  decide (PySem.W.subIn K (.ref 49) (.ref 105) = some false),
  decide (¬ 49 = 105),
  decide (PySem.W.subIn K (.ref 69) (.ref 105) = some false),
  decide (¬ 69 = 105),
  decide (PySem.W.subIn K (.ref 81) (.ref 105) = some false),
  decide (¬ 81 = 105),
  decide (PySem.W.subIn K (.ref 93) (.ref 105) = some false),
  decide (¬ 93 = 105),
  decide (PySem.W.subIn K (.ref 105) (.ref 105) = some true),
  decide (PySem.W.subIn K (.ref 24) (.ref 69) = some false),
  decide (¬ 24 = 69),
  decide (PySem.W.subIn K (.ref 37) (.ref 69) = some false),
  decide (¬ 37 = 69),
  decide (PySem.W.subIn K (.ref 49) (.ref 69) = some false),
  decide (¬ 49 = 69),
  decide (PySem.W.subIn K (.ref 69) (.ref 69) = some true),
  decide (PySem.W.subIn K (.ref 81) (.ref 69) = some false),
  decide (¬ 81 = 69),
  decide (PySem.W.subIn K (.ref 93) (.ref 69) = some false),
  decide (¬ 93 = 69),
  decide (PySem.W.subIn K (.ref 105) (.ref 69) = some false),
  decide (¬ 105 = 69),
  decide (PySem.W.subIn K (.ref 24) (.ref 37) = some false),
  decide (¬ 24 = 37),
  decide (PySem.W.subIn K (.ref 37) (.ref 37) = some true),
  decide (PySem.W.subIn K (.ref 49) (.ref 37) = some false),
  decide (¬ 49 = 37),
  decide (PySem.W.subIn K (.ref 69) (.ref 37) = some false),
  decide (¬ 69 = 37),
  decide (PySem.W.subIn K (.ref 81) (.ref 37) = some false),
  decide (¬ 81 = 37),
  decide (PySem.W.subIn K (.ref 93) (.ref 37) = some false),
  decide (¬ 93 = 37),
  decide (PySem.W.subIn K (.ref 105) (.ref 37) = some false),
  decide (¬ 105 = 37),
  decide (PySem.W.subIn K (.ref 24) (.type "ValueError") = some true),
  decide (PySem.W.subIn K (.ref 37) (.type "ValueError") = some true)]
def fb5 (K : PySem.W.Frag) : List Bool := [
  decide (PySem.W.subIn K (.ref 49) (.type "ValueError") = some true),
  decide (PySem.W.subIn K (.ref 69) (.type "ValueError") = some true),
  decide (PySem.W.subIn K (.ref 81) (.type "ValueError") = some true),
  decide (PySem.W.subIn K (.ref 93) (.type "ValueError") = some true),
  decide (PySem.W.subIn K (.ref 105) (.type "ValueError") = some true),
  decide (PySem.W.nsIn K mainGlobals "ValueError" = some none),
  decide (PySem.W.nsIn K mainGlobals "int" = some none),
  decide (PySem.W.nsIn K mainGlobals "isinstance" = some none),
  decide (PySem.W.nsIn K mainGlobals "len" = some none),
  decide (PySem.W.nsIn K mainGlobals "list" = some none),
  decide (PySem.W.nsIn K mainGlobals "min" = some none),
  decide (PySem.W.nsIn K mainGlobals "range" = some none),
  decide (PySem.W.nsIn K mainGlobals "set" = some none),
  decide (PySem.W.nsIn K mainGlobals "sorted" = some none),
  decide (PySem.W.nsIn K mainGlobals "str" = some none),
  decide (PySem.W.nsIn K mainGlobals "tuple" = some none),
  conS K "SEEN" ("seen" : Str)]
def dfn0 : He5.DefA := ⟨fun _ => 121, "__init__", "Folders.__init__", defArgs s_Folders___init__, defBody s_Folders___init__, defScope s_Folders___init__, [], []⟩
def dfn1 : He5.DefA := ⟨fun _ => 128, "need", "Folders.need", defArgs s_Folders_need, defBody s_Folders_need, defScope s_Folders_need, [], []⟩
def dfn2 : He5.DefA := ⟨fun _ => 135, "tally", "Folders.tally", defArgs s_Folders_tally, defBody s_Folders_tally, defScope s_Folders_tally, [], []⟩
def dfn3 : He5.DefA := ⟨fun _ => 142, "shift", "Folders.shift", defArgs s_Folders_shift, defBody s_Folders_shift, defScope s_Folders_shift, [], []⟩
def dfn4 : He5.DefA := ⟨fun _ => 150, "add", "Folders.add", defArgs s_Folders_add, defBody s_Folders_add, defScope s_Folders_add, [.str ("inbox" : Str), .non], []⟩
def dfn5 : He5.DefA := ⟨fun _ => 157, "take_out", "Folders.take_out", defArgs s_Folders_take_out, defBody s_Folders_take_out, defScope s_Folders_take_out, [], []⟩
def dfn6 : He5.DefA := ⟨fun _ => 164, "place", "Folders.place", defArgs s_Folders_place, defBody s_Folders_place, defScope s_Folders_place, [], []⟩
def dfn7 : He5.DefA := ⟨fun _ => 171, "mark", "Folders.mark", defArgs s_Folders_mark, defBody s_Folders_mark, defScope s_Folders_mark, [], []⟩
def dfn8 : He5.DefA := ⟨fun _ => 178, "unmark", "Folders.unmark", defArgs s_Folders_unmark, defBody s_Folders_unmark, defScope s_Folders_unmark, [], []⟩
def dfn9 : He5.DefA := ⟨fun _ => 185, "folder", "Folders.folder", defArgs s_Folders_folder, defBody s_Folders_folder, defScope s_Folders_folder, [], []⟩
def dfn10 : He5.DefA := ⟨fun _ => 192, "marks", "Folders.marks", defArgs s_Folders_marks, defBody s_Folders_marks, defScope s_Folders_marks, [], []⟩
def dfn11 : He5.DefA := ⟨fun _ => 199, "counts", "Folders.counts", defArgs s_Folders_counts, defBody s_Folders_counts, defScope s_Folders_counts, [], []⟩
def dfn12 : He5.DefA := ⟨fun _ => 206, "marked", "Folders.marked", defArgs s_Folders_marked, defBody s_Folders_marked, defScope s_Folders_marked, [], []⟩
def dfn13 : He5.DefA := ⟨fun _ => 211, "names", "Folders.names", defArgs s_Folders_names, defBody s_Folders_names, defScope s_Folders_names, [], []⟩
def dfn14 : He5.DefA := ⟨fun _ => 216, "folders", "Folders.folders", defArgs s_Folders_folders, defBody s_Folders_folders, defScope s_Folders_folders, [], []⟩
def dfn15 : He5.DefA := ⟨fun _ => 230, "_law_row", "_law_row", defArgs s_law_row, defBody s_law_row, defScope s_law_row, [], []⟩
def dfn16 : He5.DefA := ⟨fun _ => 235, "_law_word", "_law_word", defArgs s_law_word, defBody s_law_word, defScope s_law_word, [], []⟩
def dfn17 : He5.DefA := ⟨fun _ => 245, "_law_done", "_law_done", defArgs s_law_done, defBody s_law_done, defScope s_law_done, [], []⟩
def dfn18 : He5.DefA := ⟨fun _ => 252, "_law_does", "_law_does", defArgs s_law_does, defBody s_law_does, defScope s_law_does, [], []⟩
def dfn19 : He5.DefA := ⟨fun _ => 264, "_law_some", "_law_some", defArgs s_law_some, defBody s_law_some, defScope s_law_some, [], []⟩
def dfn20 : He5.DefA := ⟨fun _ => 271, "_law_of_one_class", "_law_of_one_class", defArgs s_law_of_one_class, defBody s_law_of_one_class, defScope s_law_of_one_class, [], []⟩
def dfn21 : He5.DefA := ⟨fun _ => 278, "_law_asked", "_law_asked", defArgs s_law_asked, defBody s_law_asked, defScope s_law_asked, [], []⟩
def dfn22 : He5.DefA := ⟨fun _ => 285, "_law_refused", "_law_refused", defArgs s_law_refused, defBody s_law_refused, defScope s_law_refused, [], []⟩
def dfn23 : He5.DefA := ⟨fun _ => 290, "_law_odd_refused", "_law_odd_refused", defArgs s_law_odd_refused, defBody s_law_odd_refused, defScope s_law_odd_refused, [], []⟩
def dfn24 : He5.DefA := ⟨fun _ => 297, "_law_goes", "_law_goes", defArgs s_law_goes, defBody s_law_goes, defScope s_law_goes, [], []⟩
def dfn25 : He5.DefA := ⟨fun _ => 302, "_law_seen", "_law_seen", defArgs s_law_seen, defBody s_law_seen, defScope s_law_seen, [], []⟩
def dfn26 : He5.DefA := ⟨fun _ => 309, "law", "law", defArgs s_law, defBody s_law, defScope s_law, [], []⟩
def dfns0 : List He5.DefA := [dfn0, dfn1, dfn2, dfn3, dfn4, dfn5, dfn6, dfn7, dfn8, dfn9, dfn10, dfn11, dfn12, dfn13, dfn14, dfn15, dfn16, dfn17, dfn18, dfn19, dfn20, dfn21, dfn22, dfn23, dfn24, dfn25, dfn26]
def factsK (K : PySem.W.Frag) : Bool := (fb0 K).all id && (fb1 K).all id && (fb2 K).all id && (fb3 K).all id && (fb4 K).all id && (fb5 K).all id
def obsD (ds : List He5.DefA) (K : PySem.W.Frag) : Bool × List He.FnW := (ds.all fun d => d.ok K, ds.map fun d => He5.fnA K (d.at_ K))
def valD (ds : List He5.DefA) : Bool × List He.FnW := (true, ds.map He5.DefA.val)
abbrev ObT : Type := Bool × (Bool × List He.FnW)
def obsK (K : PySem.W.Frag) : ObT := (factsK K, obsD dfns0 K)
def valK : ObT := (true, valD dfns0)
def hookM : PySem.W.Hook where
  α := ObT
  obs := fun s => obsK (He.frG s.heap.get? asM)
  val := fun _ => valK
  says := fun _ h => ∃ K : PySem.W.Frag, K.In h ∧ obsK K = valK
  of := fun _ _ e => ⟨_, He.frG_in, e⟩
  keeps := fun _ _ _ ⟨K, hK, c⟩ k => ⟨K, PySem.W.Frag.In.keeps hK k, c⟩
def obM (s : PySem.W.SharedT) : ObT := obsK (He.frG (HandSHeadRun.getT s) asM)
theorem obM_eq (s : PySem.W.SharedT) : obM s = hookM.obs s.abs := by
  have e : HandSHeadRun.getT s = s.abs.heap.get? := funext (HandSHeadRun.getT_eq s)
  show obsK (He.frG (HandSHeadRun.getT s) asM) = obsK (He.frG s.abs.heap.get? asM)
  rw [e]
theorem defM {K : PySem.W.Frag} {ds : List He5.DefA} (c : obsD ds K = valD ds) (i : Nat) {d : He5.DefA} (h : ds[i]? = some d) : ∃ fd, FunD K d.name d.qual d.params d.body d.scope (d.dvs K) (d.kws K) (d.at_ K) fd := by
  have c2 : (ds.all fun d => d.ok K) = true := congrArg (fun z : Bool × List He.FnW => z.1) c
  have e : ds.map (fun d => He5.fnA K (d.at_ K)) = ds.map He5.DefA.val := congrArg (fun z : Bool × List He.FnW => z.2) c
  have e2 : (ds.map fun d => He5.fnA K (d.at_ K))[i]? = (ds.map He5.DefA.val)[i]? := by rw [e]
  rw [List.getElem?_map, List.getElem?_map, h] at e2
  exact He5.DefA.funD (Option.some.inj e2) (List.all_eq_true.mp c2 d (List.mem_of_getElem? h))
def namesM : List PySem.Str := (["__name__", "MailError", "NoWord", "NoLetter", "NoRule", "NoName", "NoParcel", "NoRow", "SEEN", "Folders", "_law_row", "_law_word", "_law_plain", "_law_done", "_law_does", "_law_deed", "_law_some", "_law_of_one_class", "_law_asked", "_law_refused", "_law_odd_refused", "_law_goes", "_law_seen"] : List PySem.Str)
abbrev rowM : PySem.W.OpenRow := PySem.W.OpenLaw.row PySem.Challenge.rw_mailroom_k32_folders_refused
open PySem.W PySem.Calls HandSHeadRun in
noncomputable abbrev endM (w : World) (os : OsState) : Option PySem.W.SharedT := HandSHeadRun.endF (HandSHeadRun.stepQ (HandSHeadRun.denQ HandSHeadRun.tabQ) rowM.prog w) 40000 rowM.prog w os
open PySem PySem.W PySem.Calls PyProof.Rows HandSHeadRun in
noncomputable abbrev seenM (w : World) (s : SharedT) := (looksF rowM.prog (boot_heap w.params) s.abs, HandSHeadRun.seenQ (view rowM.prog [25]) namesM (importedModules rowM.prog.main.body) (fun s => xlAt (view rowM.prog [25]) [] s && recOk rowM.toRowW.records s) s.abs)
theorem rc_pair {S α β : Type} {o : Option S} {f : S → α} {g : S → β} {a : α} {b : β} (h : o.map f = some a) (k : o.map g = some b) : o.map (fun s => (f s, g s)) = some (a, b) := by
  cases o with
  | none => cases h
  | some s =>
    cases h; cases k; rfl
theorem rc_top {S α β γ : Type} {o : Option S} {f : S → α × β} {g : S → γ} {a : α} {b : β} {c : γ} (h : o.map f = some (a, b)) (k : o.map g = some c) : o.map (fun s => ((f s).1, (f s).2, g s)) = some (a, b, c) := by
  cases o with
  | none => cases h
  | some s =>
    have h : f s = (a, b) := Option.some.inj h
    have k : g s = c := Option.some.inj k
    show some ((f s).1, (f s).2, g s) = _
    rw [h, k]
theorem run00 (w : World) : ∀ os : OsState, (endM w os).map (fun s => (seenM w s, factsK (He.frG (HandSHeadRun.getT s) asM))) = some ((true, PySem.W.openGood (PySem.W.view rowM.prog [25]) namesM), true) := by
  intro os
  kernel_rfl
theorem rc_l {S α β : Type} {o : Option S} {f : S → α} {g : S → β} {a : α} {b : β} (h : o.map (fun s => (f s, g s)) = some (a, b)) : o.map f = some a ∧ o.map g = some b := by
  cases o with
  | none => cases h
  | some s =>
    have h : (f s, g s) = (a, b) := Option.some.inj h
    exact ⟨congrArg (fun z : α × β => some z.1) h, congrArg (fun z : α × β => some z.2) h⟩
theorem run0 (w : World) (os : OsState) : (endM w os).map (seenM w) = some (true, PySem.W.openGood (PySem.W.view rowM.prog [25]) namesM) := (rc_l (run00 w os)).1
theorem runF (w : World) (os : OsState) : (endM w os).map (fun s => factsK (He.frG (HandSHeadRun.getT s) asM)) = some true := (rc_l (run00 w os)).2
theorem runD0 (w : World) : ∀ os : OsState, (endM w os).map (fun s => obsD dfns0 (He.frG (HandSHeadRun.getT s) asM)) = some (valD dfns0) := by
  intro os
  kernel_rfl
theorem runM (w : World) : HandSHeadRun.RunEq rowM (PySem.W.view rowM.prog [25]) hookM obM 40000 namesM w := by
  intro os
  have hs := run0 w os
  have hF := runF w os
  have h0 := runD0 w os
  revert hs hF h0
  show _ → _ → _ → (endM w os).map (fun s => ((seenM w s).1, (seenM w s).2, obM s)) = some (true, PySem.W.openGood (PySem.W.view rowM.prog [25]) namesM, valK)
  generalize endM w os = o
  intro hs hF h0
  exact rc_top hs (rc_pair hF (h0))
end Lw
namespace Lw
open PySem L2 Ml
structure Folders where
  boxes : (List (Str × Str))
  tags : (List (Str × (List (Str × Bool))))
  sums : (List (Str × (Int × Int)))
  tallies : (List (Kt × Int))
def m_Folders___init__  : R Folders :=
R.ok ((⟨([] : (List (Str × Str))), ([] : (List (Str × (List (Str × Bool))))), ([] : (List (Str × (Int × Int)))), ([] : (List (Kt × Int)))⟩ : Folders))
def m_Folders_need (v_self : Folders) (v_name : Str) : R Unit :=
if (!dhas v_self.boxes v_name) = true then (
.exc ⟨4, 0⟩) else (
R.ok (()))
def m_Folders_need_A (v_self : Folders) (v_name : Any) : R Unit :=
(hasA v_self.boxes v_name).bind fun b6 =>
if (!b6) = true then (
.exc ⟨4, 0⟩) else (
R.ok (()))
def m_Folders_tally (v_self_tallies : (List (Kt × Int))) (v_box : Str) (v_word : Str) (v_step : Int) : R ((List (Kt × Int))) :=
R.need (v_self_tallies.length < sizeLine) <|
(dgetR (dput v_self_tallies (⟨[v_box, v_word]⟩ : Kt) (((dget v_self_tallies (⟨[v_box, v_word]⟩ : Kt)).getD 0) + v_step)) (⟨[v_box, v_word]⟩ : Kt)).bind fun y9 =>
(if (decide (y9 = 0)) = true then (
(dgetR (dput v_self_tallies (⟨[v_box, v_word]⟩ : Kt) (((dget v_self_tallies (⟨[v_box, v_word]⟩ : Kt)).getD 0) + v_step)) (⟨[v_box, v_word]⟩ : Kt)).bind fun y16 =>
R.ok (ddrop (dput v_self_tallies (⟨[v_box, v_word]⟩ : Kt) (((dget v_self_tallies (⟨[v_box, v_word]⟩ : Kt)).getD 0) + v_step)) (⟨[v_box, v_word]⟩ : Kt))) else (
R.ok (dput v_self_tallies (⟨[v_box, v_word]⟩ : Kt) (((dget v_self_tallies (⟨[v_box, v_word]⟩ : Kt)).getD 0) + v_step)))).bind fun (s13 : (List (Kt × Int))) =>
R.ok (s13)
def m_Folders_shift (v_self : Folders) (v_name : Str) (v_step : Int) : R Folders :=
(dgetR v_self.boxes v_name).bind fun y6 =>
R.need (v_self.sums.length < sizeLine) <|
(dgetR v_self.tags v_name).bind fun x21 =>
R.need (mulOk (v_step) (if (!dhas x21 ("seen" : Str)) = true then 1 else 0)) <|
(R.ok ((((dget v_self.sums y6).getD (0, 0)).2) + (v_step * (if (!dhas x21 ("seen" : Str)) = true then 1 else 0)) : Int)).bind fun y30 =>
R.need ((dsetd v_self.sums y6 (0, 0)).length < sizeLine) <|
(dgetR (dput (dsetd v_self.sums y6 (0, 0)) y6 ((((dget v_self.sums y6).getD (0, 0)).1) + v_step, y30)) y6).bind fun y39 =>
(if (decide (y39.1 = 0)) = true then (
(dgetR (dput (dsetd v_self.sums y6 (0, 0)) y6 ((((dget v_self.sums y6).getD (0, 0)).1) + v_step, y30)) y6).bind fun y50 =>
R.ok (ddrop (dput (dsetd v_self.sums y6 (0, 0)) y6 ((((dget v_self.sums y6).getD (0, 0)).1) + v_step, y30)) y6)) else (
R.ok (dput (dsetd v_self.sums y6 (0, 0)) y6 ((((dget v_self.sums y6).getD (0, 0)).1) + v_step, y30)))).bind fun (s49 : (List (Str × (Int × Int)))) =>
(dgetR v_self.tags v_name).bind fun x54 =>
(forR (fun (s64 : (List (Kt × Int))) (x65 : Str) =>
(m_Folders_tally s64 y6 x65 v_step).bind fun r68 =>
R.ok (r68)) (x54.map (·.1)) (v_self.tallies)).bind fun (s64 : (List (Kt × Int))) =>
R.ok ((⟨v_self.boxes, v_self.tags, s49, s64⟩ : Folders))
def m_Folders_add (v_self : Folders) (v_name : Str) (v_folder : Str) (v_marks : Any) : R Folders :=
if (dhas v_self.boxes v_name) = true then (
.exc ⟨4, 0⟩) else (
R.need (v_self.boxes.length < sizeLine) <|
R.need (v_self.tags.length < sizeLine) <|
R.need (dhas v_self.tags v_name = false) <|
(if (!Any.isN v_marks) = true then (
(Any.asTup v_marks).bind fun xs13 =>
(forR (fun (s17 : (List (Str × (List (Str × Bool))))) (x18 : Any) =>
(dgetR s17 v_name).bind fun x22 =>
(Any.asStr x18).bind fun s30 =>
R.need (x22.length < sizeLine) <|
R.ok (dput s17 v_name (dput x22 s30 true))) (xs13) (v_self.tags ++ [(v_name, ([] : (List (Str × Bool))))])).bind fun (s17 : (List (Str × (List (Str × Bool))))) =>
R.ok (s17)) else (
R.ok (v_self.tags ++ [(v_name, ([] : (List (Str × Bool))))]))).bind fun (s11 : (List (Str × (List (Str × Bool))))) =>
(R.noexc (m_Folders_shift (⟨dput v_self.boxes v_name v_folder, s11, v_self.sums, v_self.tallies⟩ : Folders) v_name 1)).bind fun r34 =>
R.ok (r34))
def m_Folders_add_L (v_self : Folders) (v_name : Str) (v_folder : Str) (v_marks : (List Str)) : R Folders :=
if (dhas v_self.boxes v_name) = true then (
.exc ⟨4, 0⟩) else (
R.need (v_self.boxes.length < sizeLine) <|
R.need (v_self.tags.length < sizeLine) <|
R.need (dhas v_self.tags v_name = false) <|
(forR (fun (s11 : (List (Str × (List (Str × Bool))))) (x12 : Str) =>
(dgetR s11 v_name).bind fun x15 =>
R.need (x15.length < sizeLine) <|
R.ok (dput s11 v_name (dput x15 x12 true))) (v_marks) (v_self.tags ++ [(v_name, ([] : (List (Str × Bool))))])).bind fun (s11 : (List (Str × (List (Str × Bool))))) =>
(R.noexc (m_Folders_shift (⟨dput v_self.boxes v_name v_folder, s11, v_self.sums, v_self.tallies⟩ : Folders) v_name 1)).bind fun r24 =>
R.ok (r24))
def m_Folders_take_out (v_self : Folders) (v_name : Str) : R Folders :=
(m_Folders_need v_self v_name).bind fun r6 =>
(R.noexc (m_Folders_shift v_self v_name (-1))).bind fun r12 =>
(dgetR r12.boxes v_name).bind fun y18 =>
(dgetR r12.tags v_name).bind fun y20 =>
R.ok ((⟨ddrop r12.boxes v_name, ddrop r12.tags v_name, r12.sums, r12.tallies⟩ : Folders))
def m_Folders_take_out_A (v_self : Folders) (v_name : Any) : R Folders :=
(m_Folders_need_A v_self v_name).bind fun r6 =>
(Any.asStr v_name).bind fun s12 =>
(R.noexc (m_Folders_shift v_self s12 (-1))).bind fun r15 =>
(Any.asStr v_name).bind fun s21 =>
(dgetR r15.boxes s12).bind fun y24 =>
(Any.asStr v_name).bind fun s26 =>
(dgetR r15.tags s12).bind fun y29 =>
R.ok ((⟨ddrop r15.boxes s12, ddrop r15.tags s12, r15.sums, r15.tallies⟩ : Folders))
def m_Folders_place (v_self : Folders) (v_name : Str) (v_folder : Str) : R Folders :=
(m_Folders_need v_self v_name).bind fun r6 =>
(R.noexc (m_Folders_shift v_self v_name (-1))).bind fun r12 =>
R.need (r12.boxes.length < sizeLine) <|
(R.noexc (m_Folders_shift (⟨dput r12.boxes v_name v_folder, r12.tags, r12.sums, r12.tallies⟩ : Folders) v_name 1)).bind fun r19 =>
R.ok (r19)
def m_Folders_place_A (v_self : Folders) (v_name : Any) (v_folder : Str) : R Folders :=
(m_Folders_need_A v_self v_name).bind fun r6 =>
(Any.asStr v_name).bind fun s12 =>
(R.noexc (m_Folders_shift v_self s12 (-1))).bind fun r15 =>
(Any.asStr v_name).bind fun s21 =>
R.need (r15.boxes.length < sizeLine) <|
(Any.asStr v_name).bind fun s25 =>
(R.noexc (m_Folders_shift (⟨dput r15.boxes s12 v_folder, r15.tags, r15.sums, r15.tallies⟩ : Folders) s12 1)).bind fun r28 =>
R.ok (r28)
def m_Folders_mark (v_self : Folders) (v_name : Str) (v_word : Str) : R Folders :=
(m_Folders_need v_self v_name).bind fun r6 =>
(R.noexc (m_Folders_shift v_self v_name (-1))).bind fun r12 =>
(dgetR r12.tags v_name).bind fun x18 =>
R.need (x18.length < sizeLine) <|
(R.noexc (m_Folders_shift (⟨r12.boxes, dput r12.tags v_name (dput x18 v_word true), r12.sums, r12.tallies⟩ : Folders) v_name 1)).bind fun r27 =>
R.ok (r27)
def m_Folders_mark_A (v_self : Folders) (v_name : Any) (v_word : Str) : R Folders :=
(m_Folders_need_A v_self v_name).bind fun r6 =>
(Any.asStr v_name).bind fun s12 =>
(R.noexc (m_Folders_shift v_self s12 (-1))).bind fun r15 =>
(Any.asStr v_name).bind fun s21 =>
(dgetR r15.tags s12).bind fun x24 =>
R.need (x24.length < sizeLine) <|
(Any.asStr v_name).bind fun s33 =>
(R.noexc (m_Folders_shift (⟨r15.boxes, dput r15.tags s12 (dput x24 v_word true), r15.sums, r15.tallies⟩ : Folders) s12 1)).bind fun r36 =>
R.ok (r36)
def m_Folders_unmark (v_self : Folders) (v_name : Str) (v_word : Str) : R Folders :=
(m_Folders_need v_self v_name).bind fun r6 =>
(R.noexc (m_Folders_shift v_self v_name (-1))).bind fun r12 =>
(dgetR r12.tags v_name).bind fun x18 =>
(R.noexc (m_Folders_shift (⟨r12.boxes, dput r12.tags v_name (ddrop x18 v_word), r12.sums, r12.tallies⟩ : Folders) v_name 1)).bind fun r27 =>
R.ok (r27)
def m_Folders_unmark_A (v_self : Folders) (v_name : Any) (v_word : Str) : R Folders :=
(m_Folders_need_A v_self v_name).bind fun r6 =>
(Any.asStr v_name).bind fun s12 =>
(R.noexc (m_Folders_shift v_self s12 (-1))).bind fun r15 =>
(Any.asStr v_name).bind fun s21 =>
(dgetR r15.tags s12).bind fun x24 =>
(Any.asStr v_name).bind fun s33 =>
(R.noexc (m_Folders_shift (⟨r15.boxes, dput r15.tags s12 (ddrop x24 v_word), r15.sums, r15.tallies⟩ : Folders) s12 1)).bind fun r36 =>
R.ok (r36)
def m_Folders_folder (v_self : Folders) (v_name : Str) : R Str :=
(m_Folders_need v_self v_name).bind fun r6 =>
(dgetR v_self.boxes v_name).bind fun y12 =>
R.ok (y12)
def m_Folders_folder_A (v_self : Folders) (v_name : Any) : R Str :=
(m_Folders_need_A v_self v_name).bind fun r6 =>
(Any.asStr v_name).bind fun s12 =>
(dgetR v_self.boxes s12).bind fun y15 =>
R.ok (y15)
def m_Folders_marks (v_self : Folders) (v_name : Str) : R ((List Str)) :=
(m_Folders_need v_self v_name).bind fun r6 =>
(dgetR v_self.tags v_name).bind fun x12 =>
R.need (x12.length < 64) <|
R.ok (sortT (x12.map (·.1)))
def m_Folders_marks_A (v_self : Folders) (v_name : Any) : R ((List Str)) :=
(m_Folders_need_A v_self v_name).bind fun r6 =>
(Any.asStr v_name).bind fun s12 =>
(dgetR v_self.tags s12).bind fun x15 =>
R.need (x15.length < 64) <|
R.ok (sortT (x15.map (·.1)))
def m_Folders_counts (v_self : Folders) (v_folder : Str) : R ((Int × Int)) :=
R.ok ((dget v_self.sums v_folder).getD (0, 0))
def m_Folders_marked (v_self : Folders) (v_folder : Str) (v_word : Str) : R Int :=
R.ok ((dget v_self.tallies (⟨[v_folder, v_word]⟩ : Kt)).getD 0)
def m_Folders_names (v_self : Folders) (v_folder : Str) : R ((List Str)) :=
R.need ((v_self.boxes).length ≤ sizeLine) <|
(compR (fun (_ : Unit) (x10 : (Str × Str)) =>
if (decide (x10.2 = v_folder)) = true then (
R.ok ((), some (x10.1))) else R.ok ((), none)) (v_self.boxes) ()).bind fun (t21 : Unit × List Str) =>
R.need (t21.2.length < 64) <|
R.ok (sortT t21.2)
def m_Folders_folders (v_self : Folders) : R ((List (T3 Str Int Int))) :=
R.need (v_self.sums.length < 64) <|
R.need ((sortT (v_self.sums.map (·.1))).length ≤ sizeLine) <|
(compR (fun (_ : Unit) (x10 : Str) =>
(dgetR v_self.sums x10).bind fun y13 =>
(dgetR v_self.sums x10).bind fun y23 =>
R.ok ((), some ((⟨x10, y13.1, y23.2⟩ : T3 _ _ _)))) (sortT (v_self.sums.map (·.1))) ()).bind fun (t35 : Unit × List (T3 Str Int Int)) =>
R.ok (t35.2)
def m_law_row (v_law_script : Script) (v_law_many : Int) : R ((List Int)) :=
R.need (-(2 ^ 62) ≤ v_law_many ∧ v_law_many < 2 ^ 62) <|
(forR (fun (s3 : (List Int) × Int) (x4 : Int) =>
(if (decide (0 < (v_law_script.ns.length : Int))) = true then (
R.need (0 < (v_law_script.ns.length : Int)) <|
(idxR v_law_script.ns (x4 % (v_law_script.ns.length : Int))).bind fun x10 =>
R.ok (x10)) else (
R.ok (0))).bind fun (s8 : Int) =>
(R.ok ((((s3.2 * 48271) + s8) + x4) % 2147483647 : Int)).bind fun y11 =>
R.need (mulOk (y11) (y11)) <|
R.need (s3.1.length < sizeLine) <|
R.ok (s3.1 ++ [((y11 * y11) + (16807 * y11)) % 2147483629], y11)) (rngL 0 (v_law_many).toNat) (([] : (List Int)), 7)).bind fun (s3 : (List Int) × Int) =>
R.ok (s3.1)
def m_law_word (v_law_base : Int) (v_law_turn : Int) : R Str :=
(compR (fun (_ : Unit) (x2 : Int) =>
R.need (mulOk (v_law_base / 99991) (x2)) <|
(idxR (("abcdefghijklmnopqrstuvwxyz0123456789" : Str)).cps.toList ((((v_law_base / 64) + (7 * x2)) + ((v_law_base / 99991) * x2)) % 36)).bind fun c6 =>
R.ok ((), some (sg (c6)))) (rngL 0 20) ()).bind fun (t7 : Unit × List Str) =>
if ((decide ((v_law_base % 3) = 0)) && (decide (v_law_turn < 20))) = true then (
R.need (((cutL t7.2 none (some (1 + v_law_turn))).map (·.length)).sum + (cutL t7.2 none (some (1 + v_law_turn))).length * (("" : Str)).length ≤ 16777216) <|
R.ok (Txt.join ("" : Str) (cutL t7.2 none (some (1 + v_law_turn))))) else (
if ((decide ((v_law_base % 3) < 2)) || (decide (35 < v_law_turn))) = true then (
R.need (((cutL t7.2 none (some (1 + ((v_law_base / 3) % 16)))).map (·.length)).sum + (cutL t7.2 none (some (1 + ((v_law_base / 3) % 16)))).length * (("" : Str)).length ≤ 16777216) <|
R.need ((Txt.join ("" : Str) (cutL t7.2 none (some (1 + ((v_law_base / 3) % 16))))).length + (("x" : Str)).length ≤ sizeLine) <|
R.need ((v_law_turn : Int).natAbs.log2 < 1920) <|
R.need (((Txt.join ("" : Str) (cutL t7.2 none (some (1 + ((v_law_base / 3) % 16))))) ++ ("x" : Str)).length + (Str.ofString (toString (v_law_turn : Int))).length ≤ sizeLine) <|
R.ok (((Txt.join ("" : Str) (cutL t7.2 none (some (1 + ((v_law_base / 3) % 16))))) ++ ("x" : Str)) ++ (Str.ofString (toString (v_law_turn : Int))))) else (
(R.ok (1 + ((v_law_base / 3) % 20) : Int)).bind fun y17 =>
R.need (0 < y17) <|
(R.ok ((v_law_base / 61) % y17 : Int)).bind fun y19 =>
(idxR (("abcdefghijklmnopqrstuvwxyz0123456789" : Str)).cps.toList (((v_law_base / 2311) + v_law_turn) % 36)).bind fun c20 =>
(ixR t7.2 (y19)).bind fun j21 =>
R.need (((cutL (t7.2.set j21 (sg (c20))) none (some (y17))).map (·.length)).sum + (cutL (t7.2.set j21 (sg (c20))) none (some (y17))).length * (("" : Str)).length ≤ 16777216) <|
R.ok (Txt.join ("" : Str) (cutL (t7.2.set j21 (sg (c20))) none (some (y17))))))
def m_law_done (v_law_own : (List (Str × (Str × (List Str))))) (v_law_deed_here : Any) : R (Any × (List (Str × (Str × (List Str))))) :=
(Any.asTup v_law_deed_here).bind fun xs1 =>
(idxR xs1 (0)).bind fun x3 =>
(eqA x3 (Any.str ("add" : Str))).bind fun b12 =>
(if b12 = true then (
(Any.asTup v_law_deed_here).bind fun xs14 =>
(idxR xs14 (2)).bind fun x16 =>
(Any.asTup v_law_deed_here).bind fun xs26 =>
(idxR xs26 (3)).bind fun x28 =>
(Any.asStrs x28).bind fun ss39 =>
R.need (ss39.length < 64) <|
(Any.asStr x16).bind fun s43 =>
(Any.asTup v_law_deed_here).bind fun xs46 =>
(idxR xs46 (1)).bind fun x48 =>
(Any.asStr x48).bind fun s58 =>
R.need (v_law_own.length < sizeLine) <|
R.need (dhas v_law_own s58 = false) <|
R.ok (v_law_own ++ [(s58, (s43, ssetT ss39))])) else (
(Any.asTup v_law_deed_here).bind fun xs63 =>
(idxR xs63 (0)).bind fun x65 =>
(eqA x65 (Any.str ("take" : Str))).bind fun b74 =>
(if b74 = true then (
(Any.asTup v_law_deed_here).bind fun xs76 =>
(idxR xs76 (1)).bind fun x78 =>
(Any.asStr x78).bind fun s88 =>
(dgetR v_law_own s88).bind fun y91 =>
R.ok (ddrop v_law_own s88)) else (
(Any.asTup v_law_deed_here).bind fun xs93 =>
(idxR xs93 (0)).bind fun x95 =>
(eqA x95 (Any.str ("place" : Str))).bind fun b104 =>
(if b104 = true then (
(Any.asTup v_law_deed_here).bind fun xs106 =>
(idxR xs106 (2)).bind fun x108 =>
(Any.asStr x108).bind fun s118 =>
(Any.asTup v_law_deed_here).bind fun xs121 =>
(idxR xs121 (1)).bind fun x123 =>
(Any.asStr x123).bind fun s133 =>
(dgetR v_law_own s133).bind fun x136 =>
R.ok (dput v_law_own s133 (s118, x136.2))) else (
(Any.asTup v_law_deed_here).bind fun xs144 =>
(idxR xs144 (0)).bind fun x146 =>
(eqA x146 (Any.str ("mark" : Str))).bind fun b155 =>
(if b155 = true then (
(Any.asTup v_law_deed_here).bind fun xs157 =>
(idxR xs157 (1)).bind fun x159 =>
(Any.asStr x159).bind fun s169 =>
(dgetR v_law_own s169).bind fun x172 =>
(Any.asTup v_law_deed_here).bind fun xs184 =>
(idxR xs184 (2)).bind fun x186 =>
(Any.asStr x186).bind fun s197 =>
R.need (x172.2.length + ([s197]).length ≤ sizeLine) <|
R.need ((x172.2 ++ ([s197])).length < 64) <|
(Any.asTup v_law_deed_here).bind fun xs205 =>
(idxR xs205 (1)).bind fun x207 =>
(Any.asStr x207).bind fun s217 =>
(dgetR v_law_own s217).bind fun x220 =>
R.ok (dput v_law_own s217 (x220.1, ssetT (x172.2 ++ ([s197]))))) else (
(Any.asTup v_law_deed_here).bind fun xs228 =>
(idxR xs228 (1)).bind fun x230 =>
(Any.asStr x230).bind fun s240 =>
(dgetR v_law_own s240).bind fun x243 =>
R.need ((x243.2).length ≤ sizeLine) <|
(compR (fun (_ : Unit) (x257 : Str) =>
(Any.asTup v_law_deed_here).bind fun xs260 =>
(idxR xs260 (2)).bind fun x262 =>
(eqA (Any.str x257) x262).bind fun b271 =>
if (!b271) = true then (
R.ok ((), some (x257))) else R.ok ((), none)) (x243.2) ()).bind fun (t273 : Unit × List Str) =>
(Any.asTup v_law_deed_here).bind fun xs275 =>
(idxR xs275 (1)).bind fun x277 =>
(Any.asStr x277).bind fun s287 =>
(dgetR v_law_own s287).bind fun x290 =>
R.ok (dput v_law_own s287 (x290.1, t273.2)))).bind fun (s156 : (List (Str × (Str × (List Str))))) =>
R.ok (s156))).bind fun (s105 : (List (Str × (Str × (List Str))))) =>
R.ok (s105))).bind fun (s75 : (List (Str × (Str × (List Str))))) =>
R.ok (s75))).bind fun (s13 : (List (Str × (Str × (List Str))))) =>
R.ok ((v_law_deed_here, s13))
def m_law_does (v_law_folders : Folders) (v_law_deed_here : Any) (v_law_defaults : Bool) : R Folders :=
(Any.asTup v_law_deed_here).bind fun xs1 =>
(idxR xs1 (0)).bind fun x3 =>
(eqA x3 (Any.str ("add" : Str))).bind fun b12 =>
(if b12 = true then (
(if v_law_defaults = true then (
(Any.asTup v_law_deed_here).bind fun xs15 =>
(idxR xs15 (3)).bind fun x17 =>
(eqA x17 (Any.tup [])).bind fun b29 =>
R.ok (b29)) else R.ok false).bind fun b14 =>
R.ok (b14)) else R.ok false).bind fun b13 =>
if b13 = true then (
(Any.asTup v_law_deed_here).bind fun xs31 =>
(idxR xs31 (2)).bind fun x33 =>
(eqA x33 (Any.str ("inbox" : Str))).bind fun b42 =>
if b42 = true then (
(Any.asTup v_law_deed_here).bind fun xs46 =>
(idxR xs46 (1)).bind fun x48 =>
(Any.asStr x48).bind fun s58 =>
(m_Folders_add v_law_folders s58 ("inbox" : Str) Any.non).bind fun r61 =>
R.ok (r61)) else (
(Any.asTup v_law_deed_here).bind fun xs64 =>
(idxR xs64 (1)).bind fun x66 =>
(Any.asTup v_law_deed_here).bind fun xs75 =>
(idxR xs75 (2)).bind fun x77 =>
(Any.asStr x66).bind fun s88 =>
(Any.asStr x77).bind fun s91 =>
(m_Folders_add v_law_folders s88 s91 Any.non).bind fun r94 =>
R.ok (r94))) else (
(Any.asTup v_law_deed_here).bind fun xs95 =>
(idxR xs95 (0)).bind fun x97 =>
(eqA x97 (Any.str ("add" : Str))).bind fun b106 =>
if (b106 && v_law_defaults) = true then (
(Any.asTup v_law_deed_here).bind fun xs110 =>
(idxR xs110 (1)).bind fun x112 =>
(Any.asTup v_law_deed_here).bind fun xs121 =>
(idxR xs121 (2)).bind fun x123 =>
(Any.asTup v_law_deed_here).bind fun xs132 =>
(idxR xs132 (3)).bind fun x134 =>
(Any.asStr x112).bind fun s146 =>
(Any.asStr x123).bind fun s149 =>
(m_Folders_add v_law_folders s146 s149 x134).bind fun r152 =>
R.ok (r152)) else (
(Any.asTup v_law_deed_here).bind fun xs153 =>
(idxR xs153 (0)).bind fun x155 =>
(eqA x155 (Any.str ("add" : Str))).bind fun b164 =>
if b164 = true then (
(Any.asTup v_law_deed_here).bind fun xs166 =>
(idxR xs166 (3)).bind fun x168 =>
(Any.asStrs x168).bind fun ss179 =>
(Any.asTup v_law_deed_here).bind fun xs182 =>
(idxR xs182 (1)).bind fun x184 =>
(Any.asTup v_law_deed_here).bind fun xs193 =>
(idxR xs193 (2)).bind fun x195 =>
(Any.asStr x184).bind fun s206 =>
(Any.asStr x195).bind fun s209 =>
(m_Folders_add_L v_law_folders s206 s209 ss179).bind fun r212 =>
R.need (ss179.length < sizeLine) <|
R.ok (r212)) else (
(Any.asTup v_law_deed_here).bind fun xs214 =>
(idxR xs214 (0)).bind fun x216 =>
(eqA x216 (Any.str ("take" : Str))).bind fun b225 =>
if b225 = true then (
(Any.asTup v_law_deed_here).bind fun xs229 =>
(idxR xs229 (1)).bind fun x231 =>
(m_Folders_take_out_A v_law_folders x231).bind fun r241 =>
R.ok (r241)) else (
(Any.asTup v_law_deed_here).bind fun xs242 =>
(idxR xs242 (0)).bind fun x244 =>
(eqA x244 (Any.str ("place" : Str))).bind fun b253 =>
if b253 = true then (
(Any.asTup v_law_deed_here).bind fun xs257 =>
(idxR xs257 (1)).bind fun x259 =>
(Any.asTup v_law_deed_here).bind fun xs268 =>
(idxR xs268 (2)).bind fun x270 =>
(Any.asStr x270).bind fun s281 =>
(m_Folders_place_A v_law_folders x259 s281).bind fun r284 =>
R.ok (r284)) else (
(Any.asTup v_law_deed_here).bind fun xs285 =>
(idxR xs285 (0)).bind fun x287 =>
(eqA x287 (Any.str ("mark" : Str))).bind fun b296 =>
if b296 = true then (
(Any.asTup v_law_deed_here).bind fun xs300 =>
(idxR xs300 (1)).bind fun x302 =>
(Any.asTup v_law_deed_here).bind fun xs311 =>
(idxR xs311 (2)).bind fun x313 =>
(Any.asStr x313).bind fun s324 =>
(m_Folders_mark_A v_law_folders x302 s324).bind fun r327 =>
R.ok (r327)) else (
(Any.asTup v_law_deed_here).bind fun xs330 =>
(idxR xs330 (1)).bind fun x332 =>
(Any.asTup v_law_deed_here).bind fun xs341 =>
(idxR xs341 (2)).bind fun x343 =>
(Any.asStr x343).bind fun s354 =>
(m_Folders_unmark_A v_law_folders x332 s354).bind fun r357 =>
R.ok (r357)))))))
def m_law_some (v_law_base : Int) : R ((List (List Str))) :=
(compR (fun (_ : Unit) (x3 : Int) =>
(m_law_word (v_law_base / 7) x3).bind fun r6 =>
R.ok ((), some (r6))) (rngL 0 4) ()).bind fun (t7 : Unit × List Str) =>
R.need (([("inbox" : Str)]).length + t7.2.length ≤ sizeLine) <|
(R.ok (([("inbox" : Str)]) ++ t7.2 : (List Str))).bind fun y10 =>
(compR (fun (_ : Unit) (x13 : Int) =>
(m_law_word (v_law_base / 5) x13).bind fun r16 =>
R.ok ((), some (r16))) (rngL 0 4) ()).bind fun (t17 : Unit × List Str) =>
R.need (([("seen" : Str), ("seen" : Str)]).length + t17.2.length ≤ sizeLine) <|
(R.ok (([("seen" : Str), ("seen" : Str)]) ++ t17.2 : (List Str))).bind fun y20 =>
(compR (fun (_ : Unit) (x22 : Int) =>
(m_law_word v_law_base x22).bind fun r25 =>
R.ok ((), some (r25))) (rngL 0 9) ()).bind fun (t26 : Unit × List Str) =>
R.ok ([t26.2, y10, y20])
def m_law_of_one_class (v_law_e : Exc) : R Bool :=
(R.ok ([([1] : List Nat).contains v_law_e.cls, ([2] : List Nat).contains v_law_e.cls, ([3] : List Nat).contains v_law_e.cls, ([4] : List Nat).contains v_law_e.cls] : (List Bool))).bind fun y2 =>
R.need (y2.length + ([([5] : List Nat).contains v_law_e.cls, ([6] : List Nat).contains v_law_e.cls]).length ≤ sizeLine) <|
(R.ok (y2 ++ ([([5] : List Nat).contains v_law_e.cls, ([6] : List Nat).contains v_law_e.cls]) : (List Bool))).bind fun y6 =>
(if (([0, 1, 2, 3, 4, 5, 6] : List Nat).contains v_law_e.cls) = true then (
R.need (Lay.lay (y6 : (List Bool)) = true) <|
R.need (Lay.lay (true : Bool) = true) <|
R.ok (decide (((y6.countP fun y => decide (y = true) : Nat) : Int) = 1))) else R.ok false).bind fun b7 =>
R.ok (b7)
def m_law_asked (v_law_folders : Folders) (v_law_way : Int) (v_law_name : Str) (v_law_some_here : (List (List Str))) (v_law_number : Int) : R (Opq × Folders) :=
if (decide (v_law_way = 0)) = true then (
(idxR v_law_some_here (1)).bind fun x4 =>
(idxR x4 (v_law_number % 5)).bind fun x12 =>
(idxR v_law_some_here (2)).bind fun x13 =>
(idxR x13 ((v_law_number / 5) % 6)).bind fun x21 =>
(m_Folders_add_L v_law_folders v_law_name x12 ([x21])).bind fun r23 =>
R.ok ((Opq.mk, r23))) else (
if (decide (v_law_way = 1)) = true then (
(m_Folders_take_out v_law_folders v_law_name).bind fun r28 =>
R.ok ((Opq.mk, r28))) else (
if (decide (v_law_way = 2)) = true then (
(idxR v_law_some_here (1)).bind fun x33 =>
(idxR x33 (v_law_number % 5)).bind fun x41 =>
(m_Folders_place v_law_folders v_law_name x41).bind fun r42 =>
R.ok ((Opq.mk, r42))) else (
if (decide (v_law_way = 3)) = true then (
(idxR v_law_some_here (2)).bind fun x47 =>
(idxR x47 (v_law_number % 6)).bind fun x55 =>
(m_Folders_mark v_law_folders v_law_name x55).bind fun r56 =>
R.ok ((Opq.mk, r56))) else (
if (decide (v_law_way = 4)) = true then (
(idxR v_law_some_here (2)).bind fun x61 =>
(idxR x61 (v_law_number % 6)).bind fun x69 =>
(m_Folders_unmark v_law_folders v_law_name x69).bind fun r70 =>
R.ok ((Opq.mk, r70))) else (
if (decide (v_law_way = 5)) = true then (
(m_Folders_folder v_law_folders v_law_name).bind fun r75 =>
R.ok ((Opq.mk, v_law_folders))) else (
if (decide (v_law_way = 6)) = true then (
(m_Folders_add v_law_folders v_law_name ("inbox" : Str) Any.non).bind fun r80 =>
R.ok ((Opq.mk, r80))) else (
(m_Folders_marks v_law_folders v_law_name).bind fun r84 =>
R.ok ((Opq.mk, v_law_folders)))))))))
def m_law_asked_A (v_law_folders : Folders) (v_law_way : Int) (v_law_name : Any) (v_law_some_here : (List (List Str))) (v_law_number : Int) : R (Opq × Folders) :=
if (decide (v_law_way = 0)) = true then (
(idxR v_law_some_here (1)).bind fun x4 =>
(idxR x4 (v_law_number % 5)).bind fun x12 =>
(idxR v_law_some_here (2)).bind fun x13 =>
(idxR x13 ((v_law_number / 5) % 6)).bind fun x21 =>
(Any.asStr v_law_name).bind fun s23 =>
(m_Folders_add_L v_law_folders s23 x12 ([x21])).bind fun r26 =>
R.ok ((Opq.mk, r26))) else (
if (decide (v_law_way = 1)) = true then (
(m_Folders_take_out_A v_law_folders v_law_name).bind fun r31 =>
R.ok ((Opq.mk, r31))) else (
if (decide (v_law_way = 2)) = true then (
(idxR v_law_some_here (1)).bind fun x36 =>
(idxR x36 (v_law_number % 5)).bind fun x44 =>
(m_Folders_place_A v_law_folders v_law_name x44).bind fun r45 =>
R.ok ((Opq.mk, r45))) else (
if (decide (v_law_way = 3)) = true then (
(idxR v_law_some_here (2)).bind fun x50 =>
(idxR x50 (v_law_number % 6)).bind fun x58 =>
(m_Folders_mark_A v_law_folders v_law_name x58).bind fun r59 =>
R.ok ((Opq.mk, r59))) else (
if (decide (v_law_way = 4)) = true then (
(idxR v_law_some_here (2)).bind fun x64 =>
(idxR x64 (v_law_number % 6)).bind fun x72 =>
(m_Folders_unmark_A v_law_folders v_law_name x72).bind fun r73 =>
R.ok ((Opq.mk, r73))) else (
if (decide (v_law_way = 5)) = true then (
(m_Folders_folder_A v_law_folders v_law_name).bind fun r78 =>
R.ok ((Opq.mk, v_law_folders))) else (
if (decide (v_law_way = 6)) = true then (
(Any.asStr v_law_name).bind fun s83 =>
(m_Folders_add v_law_folders s83 ("inbox" : Str) Any.non).bind fun r86 =>
R.ok ((Opq.mk, r86))) else (
(m_Folders_marks_A v_law_folders v_law_name).bind fun r90 =>
R.ok ((Opq.mk, v_law_folders)))))))))
def m_law_refused (v_law_folders : Folders) (v_law_way : Int) (v_law_name : Str) (v_law_some_here : (List (List Str))) (v_law_number : Int) : R (Bool × Folders) :=
R.tryC (m_law_asked v_law_folders v_law_way v_law_name v_law_some_here v_law_number) (fun r1 =>
R.ok ((false, r1.2))) (fun x =>
catchR [0, 1, 2, 3, 4, 5, 6] [0, 1, 2, 3, 4, 5, 6] x (
(if (([4] : List Nat).contains x.cls) = true then (
(m_law_of_one_class x).bind fun r5 =>
R.ok (r5)) else R.ok false).bind fun b4 =>
R.ok ((b4, v_law_folders))) (.bad))
def m_law_refused_A (v_law_folders : Folders) (v_law_way : Int) (v_law_name : Any) (v_law_some_here : (List (List Str))) (v_law_number : Int) : R (Bool × Folders) :=
R.tryC (m_law_asked_A v_law_folders v_law_way v_law_name v_law_some_here v_law_number) (fun r1 =>
R.ok ((false, r1.2))) (fun x =>
catchR [0, 1, 2, 3, 4, 5, 6] [0, 1, 2, 3, 4, 5, 6] x (
(if (([4] : List Nat).contains x.cls) = true then (
(m_law_of_one_class x).bind fun r5 =>
R.ok (r5)) else R.ok false).bind fun b4 =>
R.ok ((b4, v_law_folders))) (.bad))
def m_law_odd_refused (v_law_folders : Folders) (v_law_some_here : (List (List Str))) (v_law_number : Int) : R (Bool × Folders) :=
if (!decide (((v_law_number / 2592) % 4) = 1)) = true then (
R.ok ((true, v_law_folders))) else (
(idxR ([Any.non, (Any.int 7), (Any.int 0)]) ((v_law_number / 864) % 3)).bind fun x3 =>
R.need (([1, 2, 3, 4, 5, 7]).length ≤ sizeLine) <|
(compR (fun (s17 : Folders) (x14 : Int) =>
(m_law_refused_A s17 x14 x3 v_law_some_here v_law_number).bind fun r18 =>
if (!r18.1) = true then (
R.ok (r18.2, some (x14))) else R.ok (r18.2, none)) ([1, 2, 3, 4, 5, 7]) v_law_folders).bind fun (t20 : Folders × List Int) =>
R.need (Lay.lay (t20.2 : (List Int)) = true) <|
R.need (Lay.lay (([] : (List Int)) : (List Int)) = true) <|
R.ok ((decide ((t20.2 : (List Int)) = ([] : (List Int))), t20.1)))
def m_law_goes (v_law_folders : Folders) (v_law_way : Int) (v_law_name : Str) (v_law_some_here : (List (List Str))) (v_law_number : Int) : R (Bool × Folders) :=
R.tryC (m_law_asked v_law_folders v_law_way v_law_name v_law_some_here v_law_number) (fun r1 =>
R.ok ((true, r1.2))) (fun x =>
catchR [0, 1, 2, 3, 4, 5, 6] [0, 1, 2, 3, 4, 5, 6] x (
R.ok ((false, v_law_folders))) (.bad))
def m_law_seen (v_law_folders : Folders) (v_law_own : (List (Str × (Str × (List Str))))) (v_law_some_here : (List (List Str))) : R ((List Any)) :=
(m_Folders_folders v_law_folders).bind fun r3 =>
(R.ok ([(Any.lst (r3.map sii))] : (List Any))).bind fun y7 =>
R.need (v_law_own.length < 64) <|
(forR (fun (s10 : (List Any)) (x11 : Str) =>
(m_Folders_folder v_law_folders x11).bind fun r16 =>
(m_Folders_marks v_law_folders x11).bind fun r19 =>
R.need (s10.length < sizeLine) <|
R.ok (s10 ++ [(Any.tup [(Any.str r16), (Any.lst (r19.map Any.str))])])) (sortT (v_law_own.map (·.1))) (y7)).bind fun (s10 : (List Any)) =>
(idxR v_law_some_here (1)).bind fun x25 =>
(forR (fun (s34 : (List Any)) (x35 : Str) =>
(m_Folders_counts v_law_folders x35).bind fun r40 =>
(m_Folders_names v_law_folders x35).bind fun r45 =>
R.need (s34.length < sizeLine) <|
(idxR v_law_some_here (2)).bind fun x56 =>
R.need ((x56).length ≤ sizeLine) <|
(compR (fun (_ : Unit) (x67 : Str) =>
(m_Folders_marked v_law_folders x35 x67).bind fun r72 =>
R.ok ((), some (r72))) (x56) ()).bind fun (t73 : Unit × List Int) =>
R.need ((s34 ++ [(Any.tup [(Any.tup [(Any.int r40.1), (Any.int r40.2)]), (Any.lst (r45.map Any.str))])]).length < sizeLine) <|
R.ok ((s34 ++ [(Any.tup [(Any.tup [(Any.int r40.1), (Any.int r40.2)]), (Any.lst (r45.map Any.str))])]) ++ [(Any.lst (t73.2.map Any.int))])) (x25) (s10)).bind fun (s34 : (List Any)) =>
R.ok (s34)
def m_law (v_law_script : Script) : R Bool :=
(m_law_row v_law_script 60).bind fun r1 =>
(idxR r1 (0)).bind fun x3 =>
(m_law_some x3).bind fun r4 =>
(m_Folders___init__ ).bind fun r8 =>
(idxR r1 (1)).bind fun x10 =>
R.need (-(2 ^ 62) ≤ (x10 % 9) ∧ (x10 % 9) < 2 ^ 62) <|
(forR (fun (s12 : Folders × (List (Str × (Str × (List Str))))) (x13 : Int) =>
(idxR r4 (0)).bind fun x17 =>
(idxR r1 (2 + x13)).bind fun x25 =>
(idxR x17 (x25 % 9)).bind fun x26 =>
(idxR r4 (1)).bind fun x27 =>
(idxR r1 (11 + x13)).bind fun x35 =>
(idxR x27 (x35 % 5)).bind fun x36 =>
(idxR r4 (2)).bind fun x37 =>
(idxR r1 (20 + x13)).bind fun x46 =>
(if (!dhas s12.2 ((⟨("add" : Str), x26, x36, (Any.tup ((cutL x37 none (some (x46 % 4))).map Any.str))⟩ : T4 _ _ _ _).b)) = true then (
(m_law_does s12.1 (Any.tup [(Any.str ((⟨("add" : Str), x26, x36, (Any.tup ((cutL x37 none (some (x46 % 4))).map Any.str))⟩ : T4 _ _ _ _).a)), (Any.str ((⟨("add" : Str), x26, x36, (Any.tup ((cutL x37 none (some (x46 % 4))).map Any.str))⟩ : T4 _ _ _ _).b)), (Any.str ((⟨("add" : Str), x26, x36, (Any.tup ((cutL x37 none (some (x46 % 4))).map Any.str))⟩ : T4 _ _ _ _).c)), (⟨("add" : Str), x26, x36, (Any.tup ((cutL x37 none (some (x46 % 4))).map Any.str))⟩ : T4 _ _ _ _).d]) false).bind fun r71 =>
(m_law_done s12.2 (Any.tup [(Any.str ((⟨("add" : Str), x26, x36, (Any.tup ((cutL x37 none (some (x46 % 4))).map Any.str))⟩ : T4 _ _ _ _).a)), (Any.str ((⟨("add" : Str), x26, x36, (Any.tup ((cutL x37 none (some (x46 % 4))).map Any.str))⟩ : T4 _ _ _ _).b)), (Any.str ((⟨("add" : Str), x26, x36, (Any.tup ((cutL x37 none (some (x46 % 4))).map Any.str))⟩ : T4 _ _ _ _).c)), (⟨("add" : Str), x26, x36, (Any.tup ((cutL x37 none (some (x46 % 4))).map Any.str))⟩ : T4 _ _ _ _).d])).bind fun r81 =>
R.ok (r71, r81.2)) else (
R.ok (s12.1, s12.2))).bind fun (s61 : Folders × (List (Str × (Str × (List Str))))) =>
R.ok (s61.1, s61.2)) (rngL 0 (x10 % 9).toNat) (r8, ([] : (List (Str × (Str × (List Str))))))).bind fun (s12 : Folders × (List (Str × (Str × (List Str))))) =>
R.need (-(2 ^ 62) ≤ (if (v_law_script.ns.length : Int) < 20 then (v_law_script.ns.length : Int) else 20 : Int) ∧ (if (v_law_script.ns.length : Int) < 20 then (v_law_script.ns.length : Int) else 20 : Int) < 2 ^ 62) <|
(forF (ρ := Bool) (fun (s85 : Folders × (List (Str × (Str × (List Str))))) (x86 : Int) =>
(idxR r1 (30 + x86)).bind fun x96 =>
(idxR r4 (0)).bind fun x97 =>
(idxR x97 ((x96 / 8) % 9)).bind fun x105 =>
(R.ok (x96 % 8 : Int)).bind fun y106 =>
(if (!decide ((dhas s85.2 x105) = (decide ((y106 % 6) = 0)))) = true then (
(idxR ([0, 6, 1, 2, 3, 4, 5, 7]) ((if (dhas s85.2 x105) = true then (x96 / 72) % 2 else 2 + ((x96 / 72) % 6)))).bind fun x109 =>
R.ok (x109)) else (
R.ok (y106))).bind fun (s107 : Int) =>
(m_law_seen s85.1 s85.2 r4).bind fun r110 =>
(m_law_odd_refused s85.1 r4 x96).bind fun r113 =>
(forR (fun (s114 : Folders × Bool) (x115 : Int) =>
bind2 (if s114.2 = true then (
(m_law_refused s114.1 s107 x105 r4 x96).bind fun r120 =>
R.ok (r120.2, r120.1)) else R.ok (s114.1, false)) fun (s118 : Folders) (b119 : Bool) =>
R.ok (s118, b119)) (rngL 0 2) (r113.2, r113.1)).bind fun (s114 : Folders × Bool) =>
(if (!s114.2) = true then R.ok true else (
(m_law_seen s114.1 s85.2 r4).bind fun r122 =>
(eqA (Any.lst r122) (Any.lst r110)).bind fun b125 =>
R.ok (!b125))).bind fun b121 =>
if b121 = true then (
R.ok (.out (false))) else (
(if (decide ((s107 % 6) = 0)) = true then (
(m_Folders_take_out s114.1 x105).bind fun r130 =>
(dgetR s85.2 x105).bind fun y131 =>
R.ok (r130, ddrop s85.2 x105)) else (
(if (decide (((x96 / 432) % 2) = 0)) = true then (
(m_Folders_add s114.1 x105 ("inbox" : Str) Any.non).bind fun r136 =>
R.need (s85.2.length < sizeLine) <|
R.need (dhas s85.2 x105 = false) <|
R.ok (r136, s85.2 ++ [(x105, (("inbox" : Str), ([] : (List Str))))])) else (
R.ok (s114.1, s85.2))).bind fun (s133 : Folders × (List (Str × (Str × (List Str))))) =>
R.ok (s133.1, s133.2))).bind fun (s127 : Folders × (List (Str × (Str × (List Str))))) =>
if ((decide ((s107 % 6) = 0)) || (decide (((x96 / 432) % 2) = 0))) = true then (
(m_law_goes s127.1 s107 x105 r4 x96).bind fun r143 =>
if (!r143.1) = true then (
R.ok (.out (false))) else (
(if (decide ((s107 % 6) = 0)) = true then (
R.need (s127.2.length < sizeLine) <|
R.need (dhas s127.2 x105 = false) <|
R.ok (s127.2 ++ [(x105, (("" : Str), ([] : (List Str))))])) else (
R.ok (s127.2))).bind fun (s145 : (List (Str × (Str × (List Str))))) =>
(if (decide (s107 = 1)) = true then (
(dgetR s145 x105).bind fun y152 =>
R.ok (ddrop s145 x105)) else (
R.ok (s145))).bind fun (s151 : (List (Str × (Str × (List Str))))) =>
R.ok (.go (r143.2, s151)))) else (
R.ok (.go (s127.1, s127.2))))) (rngL 0 (if (v_law_script.ns.length : Int) < 20 then (v_law_script.ns.length : Int) else 20 : Int).toNat) (s12.1, s12.2)).bind (contF (fun (s85 : Folders × (List (Str × (Str × (List Str))))) =>
R.ok (true)) (fun o154 => .ok o154))
end Lw
namespace Lw
open PySem L2 Ml
theorem alph_len : ("abcdefghijklmnopqrstuvwxyz0123456789" : Str).cps.toList.length = 36 := by decide +kernel
def wsg (c : Nat) : Bool := (97 ≤ c && c ≤ 122) || (48 ≤ c && c ≤ 57)
theorem wsg_lt {c : Nat} (h : wsg c = true) : c < 128 := by
  unfold wsg at h
  simp at h
  omega
theorem alph_wsg : ∀ c, c ∈ ("abcdefghijklmnopqrstuvwxyz0123456789" : Str).cps.toList → wsg c = true := by
  have : ("abcdefghijklmnopqrstuvwxyz0123456789" : Str).cps.toList.all wsg = true := by decide +kernel
  exact fun c hc => List.all_eq_true.mp this c hc
theorem alph_at {ρ : Type} {P : ρ → Prop} {i : Int} {f : Nat → R ρ} (k : ∀ c, wsg c = true → Ok (f c) P) : Ok ((idxR ("abcdefghijklmnopqrstuvwxyz0123456789" : Str).cps.toList (i % 36)).bind f) P :=
  .idx (Int.emod_nonneg _ (by decide)) (by rw [alph_len]; exact Int.emod_lt_of_pos _ (by decide)) fun c m _ => k c (alph_wsg c m)
/-- word signs alone -/
def Wsg (x : Str) : Prop := ∀ c, c ∈ x.cps.toList → wsg c = true
theorem Wsg.asc {x : Str} (h : Wsg x) : Asc x := fun c hc => wsg_lt (h c hc)
theorem Wsg.app {a b : Str} (ha : Wsg a) (hb : Wsg b) : Wsg (a ++ b) := fun c hc => by
  rw [tl_app] at hc
  rcases List.mem_append.mp hc with h | h
  · exact ha c h
  · exact hb c h
theorem Wsg.sg {c : Nat} (h : wsg c = true) : Wsg (sg c) := fun d hd => by
  have : d = c := by simpa [Ml.sg] using hd
  rw [this]; exact h
theorem Wsg.lit {x : Str} (h : x.cps.toList.all wsg = true) : Wsg x := fun c hc => List.all_eq_true.mp h c hc
theorem Wsg.join {ys : List Str} (h : ∀ y, y ∈ ys → Wsg y) : Wsg (Txt.join ("" : Str) ys) := fun c hc => by
  rw [join_nil] at hc
  obtain ⟨l, hl, hc⟩ := List.mem_flatten.mp hc
  obtain ⟨y, hy, rfl⟩ := List.mem_map.mp hl
  exact h y hy c hc
theorem num_wd {i : Int} (h0 : 0 ≤ i) (h1 : i < 1000000) : Wsg (Str.ofString (toString i)) ∧ (Str.ofString (toString i)).length ≤ 6 ∧ 1 ≤ (Str.ofString (toString i)).length := by
  obtain ⟨n, rfl⟩ : ∃ n : Nat, i = (n : Int) := ⟨i.toNat, by omega⟩
  have hd := TL.numL_digits n
  refine ⟨fun c hc => ?_, ?_, ?_⟩
  · rw [tl_num] at hc
    have h2 : 48 ≤ c ∧ c ≤ 57 := hd c hc
    unfold wsg
    simp; omega
  · rw [len_tl, tl_num]
    exact TL.numL_len (n := n) (k := 6) (by decide) (by omega)
  · rw [len_tl, tl_num]
    have := TL.numL_ne n
    cases e : TL.numL n with
    | nil => exact absurd e this
    | cons a l => simp
theorem m_law_row_ok (s : Script) {n : Int} (h0 : 0 ≤ n) (h1 : n ≤ 1000) : Ok (m_law_row s n) fun r => r.length = n.toNat ∧ ∀ x, x ∈ r → 0 ≤ x ∧ x < 2147483629 := by
  unfold m_law_row
  refine .need (by omega) ?_
  refine .forI (fun pre (s : List Int × Int) => s.1.length = pre.length ∧ (∀ x, x ∈ s.1 → 0 ≤ x ∧ x < 2147483629) ∧ 0 ≤ s.2 ∧ s.2 < 2147483647) ⟨rfl, by simp, by decide, by decide⟩ ?_ ?_
  · rintro p x q ⟨l, m⟩ ep ⟨hl, hx, hm0, hm1⟩
    have hp := pre_lt ep
    rw [rngL_len] at hp
    refine .bind (Q := fun _ => True) (.ite (fun c => ?_) fun _ => .ret trivial) fun c _ => .lets ?_
    · have c := of_decide_eq_true c
      exact .need c (.idx (Int.emod_nonneg _ (by omega)) (Int.emod_lt_of_pos _ c) fun _ _ _ => .ret trivial)
    · dsimp only
      have hy0 : 0 ≤ (m * 48271 + c + x) % 2147483647 := Int.emod_nonneg _ (by decide)
      have hy1 : (m * 48271 + c + x) % 2147483647 < 2147483647 := Int.emod_lt_of_pos _ (by decide)
      generalize (m * 48271 + c + x) % 2147483647 = y at *
      have hl' : l.length = p.length := hl
      refine .need (show mulOk y y from .inl ⟨by omega, by omega⟩) (.need (lt_line (m := 1000) (by omega) (by decide)) (.ret ⟨by simp [hl'], fun z hz => ?_, hy0, hy1⟩))
      rcases List.mem_append.mp hz with h | h
      · exact hx z h
      · rw [List.mem_singleton.mp h]
        exact ⟨Int.emod_nonneg _ (by decide), Int.emod_lt_of_pos _ (by decide)⟩
  · rintro ⟨l, m⟩ ⟨hl, hx, _⟩
    exact .ret ⟨by rw [hl, rngL_len], hx⟩
theorem joins20 {zs : List Str} (hz : ∀ z, z ∈ zs → Wsg z ∧ z.length = 1) (hl : zs.length ≤ 20) : Wsg (Txt.join ("" : Str) zs) ∧ (Txt.join ("" : Str) zs).length = zs.length ∧ (zs.map (·.length)).sum + zs.length * ("" : Str).length ≤ 16777216 := by
  have h1 : (zs.map (·.length)).sum = zs.length := by
    clear hl
    induction zs with
    | nil => rfl
    | cons x xs ih =>
      rw [List.map_cons, List.sum_cons, ih fun z m => hz z (by simp [m]), (hz x (by simp)).2, List.length_cons]; omega
  have e0 : ("" : Str).length = 0 := by decide
  rw [e0]
  exact ⟨.join fun z m => (hz z m).1, by rw [len_join_nil, h1], by omega⟩
/-- a word of 1 to 20 signs, where the number is small -/
theorem m_law_word_ok {b t : Int} (hb : 0 ≤ b ∧ b < 2147483647) (ht : 0 ≤ t ∧ t < 1000) : Ok (m_law_word b t) fun z => Wsg z ∧ 1 ≤ z.length ∧ z.length ≤ 20 := by
  unfold m_law_word
  refine .comp (fun y => Wsg y ∧ y.length = 1) (fun x hx => ?_) fun ys hl hy => ?_
  · have hx' := rngL_mem hx
    exact .need (show mulOk (b / 99991) x from .inr ⟨by omega, by omega⟩) (alph_at fun c hc => .ret ⟨_, rfl, Wsg.sg hc, rfl⟩)
  · rw [rngL_len] at hl
    dsimp only
    have cut : ∀ (i : Int) (zs : List Str), (∀ z, z ∈ zs → Wsg z ∧ z.length = 1) → zs.length = 20 → 1 ≤ i → i ≤ 20 → (∀ z, z ∈ cutL zs none (some i) → Wsg z ∧ z.length = 1) ∧ (cutL zs none (some i)).length = i.toNat := fun i zs hz hl h1 h2 =>
      ⟨fun z m => hz z (cutL_mem m), by rw [cutL_to (by omega), List.length_take]; omega⟩
    refine .ite (fun c1 => ?_) fun c1 => .ite (fun c2 => ?_) fun c2 => ?_
    · simp at c1
      obtain ⟨h1, h2⟩ := cut (1 + t) ys hy hl (by omega) (by omega)
      obtain ⟨j1, j2, j3⟩ := joins20 h1 (by omega)
      exact .need j3 (.ret ⟨j1, by omega, by omega⟩)
    · obtain ⟨h1, h2⟩ := cut (1 + b / 3 % 16) ys hy hl (by omega) (by omega)
      obtain ⟨j1, j2, j3⟩ := joins20 h1 (by omega)
      obtain ⟨n1, n2, n3⟩ := num_wd (i := t) ht.1 (by omega)
      have n4 : (Str.ofString (toString t)).length ≤ 3 := by
        obtain ⟨n, rfl⟩ : ∃ n : Nat, t = (n : Int) := ⟨t.toNat, by omega⟩
        rw [len_tl, tl_num]
        exact TL.numL_len (n := n) (k := 3) (by decide) (by omega)
      have ex : ("x" : Str).length = 1 := by decide
      refine .need j3 (.need (le_line (by rw [ex]; omega)) (.need (log2_small (by omega) (by omega)) (.need (le_line (by rw [len_app, ex]; omega)) (.ret ⟨(j1.app (.lit (by decide +kernel))).app n1, by rw [len_app, len_app, ex]; omega, by rw [len_app, len_app, ex]; omega⟩))))
    · refine .lets (.need (by omega) (.lets (alph_at fun c hc => .ix (Int.emod_nonneg _ (by omega)) (by rw [hl]; have := Int.emod_lt_of_pos (b / 61) (show 0 < 1 + b / 3 % 20 by omega); omega) ?_)))
      have hy' : ∀ z, z ∈ ys.set (b / 61 % (1 + b / 3 % 20)).toNat (sg c) → Wsg z ∧ z.length = 1 := fun z m => by
        rcases mem_set m with h | rfl
        · exact hy z h
        · exact ⟨Wsg.sg hc, rfl⟩
      obtain ⟨h1, h2⟩ := cut (1 + b / 3 % 20) _ hy' (by rw [List.length_set]; exact hl) (by omega) (by omega)
      obtain ⟨j1, j2, j3⟩ := joins20 h1 (by omega)
      exact .need j3 (.ret ⟨j1, by omega, by omega⟩)
theorem pdA_str (s : Str) : pdA (.str s) = .str s := by rw [pdA]
theorem plA_str (s : Str) : plA (.str s) = true := by rw [plA] <;> (intro _ h; cases h)
theorem shaped_str {s : Str} (h : Asc s) : SeqAt.shaped (.str s) = true := by
  have h1 : (PyData.str s).canLay0 = true := h.lay
  unfold SeqAt.shaped
  rw [h1]; rfl
theorem eqA_str {a b : Str} (ha : Asc a) (hb : Asc b) : eqA (.str a) (.str b) = .ok (decide (a = b)) := by
  unfold eqA
  rw [R.need_pos (by rw [plA_str, plA_str, pdA_str, pdA_str]; exact ⟨rfl, rfl, shaped_str ha, shaped_str hb⟩), pdA_str, pdA_str]
  exact congrArg R.ok (str_beq a b)
def isWord (s : Str) : Bool := (decide (1 ≤ s.length) && decide (s.length ≤ 20)) && s.cps.toList.all wsg
theorem isWord_iff {s : Str} : isWord s = true ↔ Wsg s ∧ 1 ≤ s.length ∧ s.length ≤ 20 := by
  unfold isWord
  simp only [Bool.and_eq_true, decide_eq_true_eq, List.all_eq_true]
  exact ⟨fun ⟨⟨a, b⟩, c⟩ => ⟨c, a, b⟩, fun ⟨c, a, b⟩ => ⟨⟨a, b⟩, c⟩⟩
section
variable {κ β : Type} [DecidableEq κ]
theorem dget_nil (k : κ) : dget ([] : List (κ × β)) k = none := rfl
theorem dget_cons (p : κ × β) (d : List (κ × β)) (k : κ) : dget (p :: d) k = if p.1 = k then some p.2 else dget d k := by
  unfold dget
  by_cases h : p.1 = k
  · rw [List.find?_cons_of_pos (by simpa using h), if_pos h]; rfl
  · rw [List.find?_cons_of_neg (by simpa using h), if_neg h]
theorem dget_none {d : List (κ × β)} {k : κ} : dget d k = none ↔ ¬ k ∈ d.map (·.1) := by
  induction d with
  | nil => simp [dget_nil]
  | cons p d ih =>
    rw [dget_cons, List.map_cons, List.mem_cons]
    by_cases h : p.1 = k
    · rw [if_pos h]; simp [h]
    · rw [if_neg h, ih]
      exact ⟨fun q z => z.elim (fun e => h e.symm) q, fun q z => q (.inr z)⟩
theorem dhas_iff {d : List (κ × β)} {k : κ} : dhas d k = true ↔ k ∈ d.map (·.1) := by
  unfold dhas
  cases c : dget d k with
  | none => simp [dget_none.mp c]
  | some y =>
    refine ⟨fun _ => Classical.byContradiction fun h => ?_, fun _ => rfl⟩
    rw [dget_none.mpr h] at c; cases c
theorem dhas_false {d : List (κ × β)} {k : κ} : dhas d k = false ↔ ¬ k ∈ d.map (·.1) := by
  rw [← dhas_iff]; simp
theorem dget_app (d e : List (κ × β)) (k : κ) : dget (d ++ e) k = (dget d k).or (dget e k) := by
  induction d with
  | nil => rfl
  | cons p d ih =>
    rw [List.cons_append, dget_cons, dget_cons, ih]
    by_cases h : p.1 = k
    · rw [if_pos h, if_pos h]; rfl
    · rw [if_neg h, if_neg h]
theorem dany_iff {d : List (κ × β)} {k : κ} : (d.any fun kv => decide (kv.1 = k)) = dhas d k := by
  rw [Bool.eq_iff_iff, dhas_iff, List.any_eq_true]
  simp only [decide_eq_true_eq, List.mem_map]
theorem dput_eq (d : List (κ × β)) (k : κ) (v : β) : dput d k v = if dhas d k = true then d.map (fun kv => if kv.1 = k then (kv.1, v) else kv) else d ++ [(k, v)] := by
  unfold dput
  rw [dany_iff]
theorem dget_put (d : List (κ × β)) (k k' : κ) (v : β) : dget (dput d k v) k' = if k = k' then some v else dget d k' := by
  rw [dput_eq]
  by_cases h : dhas d k = true
  · rw [if_pos h]
    have gen : ∀ e : List (κ × β), dget (e.map fun kv => if kv.1 = k then (kv.1, v) else kv) k' = if k = k' ∧ dhas e k = true then some v else dget e k' := by
      intro e
      induction e with
      | nil => simp [dget_nil, dhas]
      | cons p e ih =>
        rw [List.map_cons, dget_cons, dget_cons, ih]
        have hc : dhas (p :: e) k = (decide (p.1 = k) || dhas e k) := by
          unfold dhas; rw [dget_cons]
          by_cases q : p.1 = k <;> simp [q]
        rw [hc]
        by_cases q : p.1 = k
        · simp only [q, if_true, decide_true, Bool.true_or, and_true]
          by_cases z : k = k' <;> simp [z]
        · simp only [q, if_false, decide_false, Bool.false_or]
          by_cases z : p.1 = k'
          · have : ¬ k = k' := fun e => q (z.trans e.symm)
            simp [z, this]
          · simp [z]
    rw [gen]
    by_cases z : k = k'
    · subst z; rw [if_pos ⟨rfl, h⟩, if_pos rfl]
    · rw [if_neg fun q => z q.1, if_neg z]
  · rw [if_neg h, dget_app, dget_cons, dget_nil]
    by_cases z : k = k'
    · subst z
      have : dget d k = none := by
        cases c : dget d k with
        | none => rfl
        | some y => exact absurd (by unfold dhas; rw [c]; rfl) h
      rw [this, if_pos rfl]; rfl
    · rw [if_neg z, if_neg z, Option.or_none]
theorem dget_drop (d : List (κ × β)) (k k' : κ) : dget (ddrop d k) k' = if k = k' then none else dget d k' := by
  unfold ddrop
  induction d with
  | nil => simp [dget_nil]
  | cons p d ih =>
    by_cases h : p.1 = k
    · rw [List.filter_cons_of_neg (by simp [h]), ih, dget_cons]
      by_cases z : k = k'
      · simp [z]
      · rw [if_neg z, if_neg z, if_neg (fun e => z (h.symm.trans e))]
    · rw [List.filter_cons_of_pos (by simpa using h), dget_cons, ih, dget_cons]
      by_cases z : p.1 = k'
      · have : ¬ k = k' := fun e => h (z.trans e.symm)
        simp [z, this]
      · simp [z]
theorem keys_dput (d : List (κ × β)) (k : κ) (v : β) : (dput d k v).map (·.1) = if dhas d k = true then d.map (·.1) else d.map (·.1) ++ [k] := by
  rw [dput_eq]
  by_cases h : dhas d k = true
  · rw [if_pos h, if_pos h, List.map_map]
    refine List.map_congr_left fun p _ => ?_
    show (if p.1 = k then (p.1, v) else p).1 = p.1
    split <;> rfl
  · rw [if_neg h, if_neg h, List.map_append]; rfl
theorem keys_ddrop (d : List (κ × β)) (k : κ) : (ddrop d k).map (·.1) = (d.map (·.1)).filter fun x => decide (x ≠ k) := by
  unfold ddrop
  rw [List.filter_map]; rfl
theorem nodup_dput {d : List (κ × β)} (h : (d.map (·.1)).Nodup) (k : κ) (v : β) : ((dput d k v).map (·.1)).Nodup := by
  rw [keys_dput]
  by_cases c : dhas d k = true
  · rw [if_pos c]; exact h
  · rw [if_neg c, List.nodup_append]
    have c' : ¬ k ∈ d.map (·.1) := fun z => c (dhas_iff.mpr z)
    exact ⟨h, by simp, fun x hx y hy e => c' (by rw [List.mem_singleton] at hy; subst hy; subst e; exact hx)⟩
theorem nodup_ddrop {d : List (κ × β)} (h : (d.map (·.1)).Nodup) (k : κ) : ((ddrop d k).map (·.1)).Nodup := by
  rw [keys_ddrop]; exact h.filter _
theorem mem_kput {d : List (κ × β)} {k x : κ} {v : β} : x ∈ (dput d k v).map (·.1) ↔ x = k ∨ x ∈ d.map (·.1) := by
  rw [keys_dput]
  by_cases c : dhas d k = true
  · rw [if_pos c]
    exact ⟨.inr, fun h => h.elim (fun e => by rw [e]; exact dhas_iff.mp c) id⟩
  · rw [if_neg c, List.mem_append, List.mem_singleton]
    exact Or.comm
theorem mem_kdrop {d : List (κ × β)} {k x : κ} : x ∈ (ddrop d k).map (·.1) ↔ x ∈ d.map (·.1) ∧ x ≠ k := by
  rw [keys_ddrop, List.mem_filter]; simp
theorem len_dput (d : List (κ × β)) (k : κ) (v : β) : (dput d k v).length ≤ d.length + 1 := by
  rw [dput_eq]; split
  · rw [List.length_map]; omega
  · simp
theorem len_ddrop (d : List (κ × β)) (k : κ) : (ddrop d k).length ≤ d.length := List.length_filter_le ..
theorem dget_mem {d : List (κ × β)} {k : κ} {v : β} (h : dget d k = some v) : (k, v) ∈ d := by
  induction d with
  | nil => cases h
  | cons p d ih =>
    rw [dget_cons] at h
    by_cases c : p.1 = k
    · rw [if_pos c] at h; cases h; subst c; simp
    · rw [if_neg c] at h; exact List.mem_cons_of_mem _ (ih h)
theorem dget_of_mem {d : List (κ × β)} (n : (d.map (·.1)).Nodup) {k : κ} {v : β} (h : (k, v) ∈ d) : dget d k = some v := by
  induction d with
  | nil => cases h
  | cons p d ih =>
    rw [List.map_cons, List.nodup_cons] at n
    rw [dget_cons]
    rcases List.mem_cons.mp h with rfl | h
    · rw [if_pos rfl]
    · have : ¬ p.1 = k := fun e => n.1 (by rw [e]; exact List.mem_map.mpr ⟨(k, v), h, rfl⟩)
      rw [if_neg this]; exact ih n.2 h
theorem dgetR_ok {d : List (κ × β)} {k : κ} {v : β} (h : dget d k = some v) : dgetR d k = .ok v := by unfold dgetR; rw [h]
theorem dget_split {d : List (κ × β)} (n : (d.map (·.1)).Nodup) {k : κ} {v : β} (h : dget d k = some v) : ∃ a b, d = a ++ (k, v) :: b ∧ ddrop d k = a ++ b ∧ ∀ w, dput d k w = a ++ (k, w) :: b := by
  induction d with
  | nil => cases h
  | cons p d ih =>
    rw [List.map_cons, List.nodup_cons] at n
    rw [dget_cons] at h
    by_cases c : p.1 = k
    · rw [if_pos c] at h
      cases h
      have nk : ¬ k ∈ d.map (·.1) := by rw [← c]; exact n.1
      have e1 : ∀ e : List (κ × β), ¬ k ∈ e.map (·.1) → e.filter (fun kv => decide (kv.1 ≠ k)) = e := fun e he => List.filter_eq_self.mpr fun z hz => by
        have : z.1 ≠ k := fun q => he (by rw [← q]; exact List.mem_map.mpr ⟨z, hz, rfl⟩)
        simpa using this
      refine ⟨[], d, by rw [← c]; rfl, ?_, fun w => ?_⟩
      · show (p :: d).filter _ = d
        rw [List.filter_cons_of_neg (by simp [c])]
        exact e1 d nk
      · rw [dput_eq, if_pos (dhas_iff.mpr (by simp [c])), List.map_cons, if_pos c]
        show (p.1, w) :: _ = (k, w) :: d
        rw [c]
        congr 1
        refine (List.map_congr_left (g := id) fun z hz => ?_).trans (List.map_id d)
        have : ¬ z.1 = k := fun q => nk (by rw [← q]; exact List.mem_map.mpr ⟨z, hz, rfl⟩)
        rw [if_neg this]; rfl
    · rw [if_neg c] at h
      obtain ⟨a, b, h1, h2, h3⟩ := ih n.2 h
      refine ⟨p :: a, b, by rw [h1]; rfl, ?_, fun w => ?_⟩
      · show (p :: d).filter _ = p :: (a ++ b)
        rw [List.filter_cons_of_pos (by simpa using c)]
        exact congrArg (p :: ·) h2
      · have hd : dhas d k = true := by unfold dhas; rw [h]; rfl
        have e3 := h3 w
        rw [dput_eq, if_pos hd] at e3
        rw [dput_eq, if_pos (dhas_iff.mpr (by rw [List.map_cons]; exact List.mem_cons_of_mem _ (dhas_iff.mp hd))), List.map_cons, if_neg c, e3]; rfl
end
theorem dhas_mid {κ β : Type} [DecidableEq κ] {A B : List (κ × β)} {k : κ} {v : β} : dhas (A ++ (k, v) :: B) k = true := dhas_iff.mpr (by simp)
theorem map_if {κ β : Type} [DecidableEq κ] {A : List (κ × β)} {k : κ} (w : β) (h : ¬ k ∈ A.map (·.1)) : A.map (fun kv => if kv.1 = k then (kv.1, w) else kv) = A := by
  refine (List.map_congr_left (g := id) fun z hz => ?_).trans (List.map_id A)
  have : ¬ z.1 = k := fun q => h (by rw [← q]; exact List.mem_map.mpr ⟨z, hz, rfl⟩)
  rw [if_neg this]; rfl
theorem dput_mid {κ β : Type} [DecidableEq κ] {A B : List (κ × β)} {k : κ} {v : β} (hA : ¬ k ∈ A.map (·.1)) (hB : ¬ k ∈ B.map (·.1)) (w : β) : dput (A ++ (k, v) :: B) k w = A ++ (k, w) :: B := by
  rw [dput_eq, if_pos dhas_mid, List.map_append, List.map_cons, map_if w hA, map_if w hB, if_pos rfl]
theorem filt_no {κ β : Type} [DecidableEq κ] {A : List (κ × β)} {k : κ} (h : ¬ k ∈ A.map (·.1)) : A.filter (fun kv => decide (kv.1 ≠ k)) = A := List.filter_eq_self.mpr fun z hz => by
  have : z.1 ≠ k := fun q => h (by rw [← q]; exact List.mem_map.mpr ⟨z, hz, rfl⟩)
  simpa using this
theorem ddrop_mid {κ β : Type} [DecidableEq κ] {A B : List (κ × β)} {k : κ} {v : β} (hA : ¬ k ∈ A.map (·.1)) (hB : ¬ k ∈ B.map (·.1)) : ddrop (A ++ (k, v) :: B) k = A ++ B := by
  unfold ddrop
  rw [List.filter_append, List.filter_cons_of_neg (by simp), filt_no hA, filt_no hB]
theorem mid_of {κ β : Type} [DecidableEq κ] {d : List (κ × β)} (n : (d.map (·.1)).Nodup) {k : κ} {v : β} (h : dget d k = some v) : ∃ A B, d = A ++ (k, v) :: B ∧ ¬ k ∈ A.map (·.1) ∧ ¬ k ∈ B.map (·.1) := by
  obtain ⟨A, B, rfl, _, _⟩ := dget_split n h
  rw [List.map_append, List.map_cons, List.nodup_append, List.nodup_cons] at n
  exact ⟨A, B, rfl, fun q => n.2.2 k q k (by simp) rfl, n.2.1.1⟩
theorem dput_no {κ β : Type} [DecidableEq κ] {d : List (κ × β)} {k : κ} (h : ¬ k ∈ d.map (·.1)) (v : β) : dput d k v = d ++ [(k, v)] := by
  rw [dput_eq, if_neg (fun q => h (dhas_iff.mp q))]
/-- a loop over texts that stand as things of any sort -/
theorem forR_mapS {σ : Type} {f : σ → Any → R σ} {h : σ → Str → R σ} : ∀ (ms : List Str) {s : σ}, (∀ s w, f s (.str w) = h s w) → forR f (ms.map Any.str) s = forR h ms s
  | [], _, _ => rfl
  | w :: r, s, e => by
    show (f s (.str w)).bind (fun s => forR f (r.map Any.str) s) = (h s w).bind fun s => forR h r s
    rw [e]
    cases h s w with
    | ok a => exact forR_mapS r e
    | exc x => rfl
    | bad => rfl
theorem dsetd_get {κ β : Type} [DecidableEq κ] (d : List (κ × β)) (k k' : κ) (v : β) : dget (dsetd d k v) k' = if k = k' then some ((dget d k).getD v) else dget d k' := by
  unfold dsetd dhas
  cases c : dget d k with
  | none =>
    simp only [Option.isSome_none, Bool.false_eq_true, if_false, Option.getD_none]
    rw [dget_put]
  | some y =>
    simp only [Option.isSome_some, if_true, Option.getD_some]
    by_cases z : k = k'
    · subst z; rw [c, if_pos rfl]
    · rw [if_neg z]
theorem nodup_dsetd {κ β : Type} [DecidableEq κ] {d : List (κ × β)} (h : (d.map (·.1)).Nodup) (k : κ) (v : β) : ((dsetd d k v).map (·.1)).Nodup := by
  unfold dsetd; split
  · exact h
  · exact nodup_dput h k v
theorem len_dsetd {κ β : Type} [DecidableEq κ] (d : List (κ × β)) (k : κ) (v : β) : (dsetd d k v).length ≤ d.length + 1 := by
  unfold dsetd; split
  · omega
  · exact len_dput d k v
structure RSf (s : List (Str × (Int × Int))) (c u : Str → Int) : Prop where
  nd : (s.map (·.1)).Nodup
  get : ∀ b, dget s b = if c b = 0 then none else some (c b, u b)
  zero : ∀ b, c b = 0 → u b = 0
theorem RSf.tell {s : List (Str × (Int × Int))} {c u : Str → Int} (h : RSf s c u) (b : Str) : (dget s b).getD (0, 0) = (c b, u b) := by
  rw [h.get b]
  by_cases z : c b = 0
  · rw [if_pos z, z, h.zero b z]; rfl
  · rw [if_neg z]; rfl
theorem RSf.keys {s : List (Str × (Int × Int))} {c u : Str → Int} (h : RSf s c u) {b : Str} : b ∈ s.map (·.1) ↔ c b ≠ 0 := by
  rw [← dhas_iff]
  unfold dhas
  rw [h.get b]
  by_cases z : c b = 0
  · rw [if_pos z]; simp [z]
  · rw [if_neg z]; simp [z]
structure RTf (s : List (Kt × Int)) (t : Str → Str → Int) : Prop where
  nd : (s.map (·.1)).Nodup
  fm : ∀ k, k ∈ s.map (·.1) → ∃ b w, k = ⟨[b, w]⟩
  get : ∀ b w, dget s (⟨[b, w]⟩ : Kt) = if t b w = 0 then none else some (t b w)
theorem RTf.tell {s : List (Kt × Int)} {t : Str → Str → Int} (h : RTf s t) (b w : Str) : (dget s (⟨[b, w]⟩ : Kt)).getD 0 = t b w := by
  rw [h.get b w]
  by_cases z : t b w = 0
  · rw [if_pos z, z]; rfl
  · rw [if_neg z]; rfl
theorem kt2 {a b c d : Str} : (⟨[a, b]⟩ : Kt) = ⟨[c, d]⟩ ↔ a = c ∧ b = d := by
  constructor
  · intro h
    have h := congrArg Kt.l h
    simpa using h
  · rintro ⟨rfl, rfl⟩; rfl
theorem tally_ok {s : List (Kt × Int)} {t t' : Str → Str → Int} {b w : Str} {st : Int} (h : RTf s t) (hl : s.length ≤ 100000) (e : t' b w = t b w + st) (o : ∀ b' w', ¬ (b = b' ∧ w = w') → t' b' w' = t b' w') :
    Ok (m_Folders_tally s b w st) fun s' => RTf s' t' ∧ s'.length ≤ s.length + 1 := by
  unfold m_Folders_tally
  rw [h.tell b w, ← e]
  refine .need (lt_line (m := 100000) hl (by decide)) (.bindE (dgetR_ok (v := t' b w) (by rw [dget_put, if_pos rfl])) ?_)
  have g1 : ∀ b' w', dget (dput s (⟨[b, w]⟩ : Kt) (t' b w)) (⟨[b', w']⟩ : Kt) = if b = b' ∧ w = w' then some (t' b w) else if t' b' w' = 0 then none else some (t' b' w') := fun b' w' => by
    rw [dget_put]
    by_cases z : b = b' ∧ w = w'
    · rw [if_pos z, if_pos (kt2.mpr z)]
    · rw [if_neg z, if_neg (fun q => z (kt2.mp q)), h.get, o b' w' z]
  have fm : ∀ k, k ∈ (dput s (⟨[b, w]⟩ : Kt) (t' b w)).map (·.1) → ∃ b w, k = ⟨[b, w]⟩ := fun k hk => by
    rcases mem_kput.mp hk with rfl | hk
    · exact ⟨b, w, rfl⟩
    · exact h.fm k hk
  refine .bind (Q := fun s' => RTf s' t' ∧ s'.length ≤ s.length + 1) (.ite (fun z => ?_) fun z => .ret ⟨⟨nodup_dput h.nd _ _, fm, fun b' w' => ?_⟩, len_dput _ _ _⟩) fun s' hs => .ret hs
  · have z := of_decide_eq_true z
    refine .bindE (dgetR_ok (v := t' b w) (by rw [dget_put, if_pos rfl])) (.ret ⟨⟨nodup_ddrop (nodup_dput h.nd _ _) _, fun k hk => fm k (mem_kdrop.mp hk).1, fun b' w' => ?_⟩, Nat.le_trans (len_ddrop _ _) (len_dput _ _ _)⟩)
    rw [dget_drop, g1]
    by_cases q : b = b' ∧ w = w'
    · obtain ⟨rfl, rfl⟩ := q
      rw [if_pos rfl, if_pos z]
    · rw [if_neg (fun k => q (kt2.mp k)), if_neg q]
  · have z : ¬ t' b w = 0 := fun q => z (by rw [q]; rfl)
    rw [g1]
    by_cases q : b = b' ∧ w = w'
    · obtain ⟨rfl, rfl⟩ := q
      rw [if_pos ⟨rfl, rfl⟩, if_neg z]
    · rw [if_neg q]
theorem tallies_ok {b : Str} {st : Int} : ∀ {ks : List Str} {s : List (Kt × Int)} {t : Str → Str → Int}, ks.Nodup → RTf s t → s.length + ks.length ≤ 100000 →
    Ok (forR (fun (s64 : List (Kt × Int)) (x65 : Str) => (m_Folders_tally s64 b x65 st).bind fun r68 => R.ok r68) ks s) fun s' => RTf s' (fun b' w' => if b' = b ∧ w' ∈ ks then t b' w' + st else t b' w')
  | [], s, t, _, h, _ => .ret (by simpa using h)
  | w :: r, s, t, nd, h, hl => by
    rw [List.nodup_cons] at nd
    rw [List.length_cons] at hl
    show Ok (((m_Folders_tally s b w st).bind fun r68 => R.ok r68).bind fun s => forR _ r s) _
    have T := tally_ok (b := b) (w := w) (st := st) (t' := fun b' w' => if b = b' ∧ w = w' then t b w + st else t b' w') h (by omega) (if_pos ⟨rfl, rfl⟩) (fun b' w' z => if_neg z)
    refine .bind (.bind T fun a ha => .ret ha) fun s1 ⟨h1, l1⟩ => ?_
    refine (tallies_ok nd.2 h1 (by omega)).mono fun s2 h2 => ?_
    have e : (fun b' w' => if b' = b ∧ w' ∈ r then (if b = b' ∧ w = w' then t b w + st else t b' w') + st else if b = b' ∧ w = w' then t b w + st else t b' w') = fun b' w' => if b' = b ∧ w' ∈ w :: r then t b' w' + st else t b' w' := by
      funext b' w'
      by_cases q : b' = b
      · subst q
        by_cases z : w = w'
        · subst z
          simp [nd.1]
        · have z2 : ¬ w' = w := fun e => z e.symm
          simp [z, z2]
      · have q2 : ¬ b = b' := fun e => q e.symm
        simp [q, q2]
    rw [e] at h2
    exact h2
theorem shift_ok {F : Folders} {n box : Str} {K : List (Str × Bool)} {c u c' u' : Str → Int} {t : Str → Str → Int} {st : Int} (hst : st = 1 ∨ st = -1) (hb : dget F.boxes n = some box) (hk : dget F.tags n = some K) (nd : (K.map (·.1)).Nodup) (ls : F.sums.length ≤ 10000) (lt : F.tallies.length ≤ 10000) (lk : K.length ≤ 1000)
    (hs : RSf F.sums c u) (ht : RTf F.tallies t) (ec : c' box = c box + st) (eu : u' box = u box + st * (if (!dhas K ("seen" : Str)) = true then 1 else 0)) (oc : ∀ b, ¬ box = b → c' b = c b ∧ u' b = u b) (z' : c' box = 0 → u' box = 0) :
    Ok (m_Folders_shift F n st) fun F' => F'.boxes = F.boxes ∧ F'.tags = F.tags ∧ RSf F'.sums c' u' ∧ RTf F'.tallies (fun b w => if b = box ∧ w ∈ K.map (·.1) then t b w + st else t b w) := by
  unfold m_Folders_shift
  refine .bindE (dgetR_ok hb) (.need (lt_line (m := 10000) ls (by decide)) (.bindE (dgetR_ok hk) (.need ?_ ?_)))
  · rcases hst with rfl | rfl <;> exact .inl ⟨by decide, by decide⟩
  rw [hs.tell box]
  refine .lets ?_
  dsimp only
  rw [← ec, ← eu]
  refine .need (lt_line (m := 10001) (Nat.le_trans (len_dsetd _ _ _) (by omega)) (by decide)) ?_
  have g0 : ∀ b, dget (dput (dsetd F.sums box (0, 0)) box (c' box, u' box)) b = if box = b then some (c' b, u' b) else if c' b = 0 then none else some (c' b, u' b) := fun b => by
    rw [dget_put, dsetd_get]
    by_cases q : box = b
    · subst q; rw [if_pos rfl, if_pos rfl]
    · rw [if_neg q, if_neg q, if_neg q, hs.get b, (oc b q).1, (oc b q).2]
  have gb : dget (dput (dsetd F.sums box (0, 0)) box (c' box, u' box)) box = some (c' box, u' box) := by rw [g0, if_pos rfl]
  have nd0 := nodup_dput (nodup_dsetd hs.nd box (0, 0)) box (c' box, u' box)
  have zz : ∀ b, c' b = 0 → u' b = 0 := fun b hb => by
    by_cases q : box = b
    · subst q; exact z' hb
    · rw [(oc b q).2]; exact hs.zero b (by rw [← (oc b q).1]; exact hb)
  refine .bindE (dgetR_ok gb) (.bind (Q := fun s => RSf s c' u') (.ite (fun z => ?_) fun z => .ret ⟨nd0, fun b => ?_, zz⟩) fun s1 h1 => ?_)
  · have z := of_decide_eq_true z
    refine .bindE (dgetR_ok gb) (.ret ⟨nodup_ddrop nd0 _, fun b => ?_, zz⟩)
    rw [dget_drop, g0]
    by_cases q : box = b
    · subst q; rw [if_pos rfl, if_pos z]
    · rw [if_neg q, if_neg q]
  · have z : ¬ c' box = 0 := fun q => z (decide_eq_true q)
    rw [g0]
    by_cases q : box = b
    · subst q; rw [if_pos rfl, if_neg z]
    · rw [if_neg q]
  · refine .bindE (dgetR_ok hk) (.bind (tallies_ok nd ht (by rw [List.length_map]; omega)) fun t1 ht1 => .ret ⟨rfl, rfl, h1, ht1⟩)
abbrev Own : Type := List (Str × (Str × List Str))
def cF (E : List (Str × List Str)) (b : Str) : Int := (E.countP fun e => decide (e.1 = b) : Nat)
def uF (E : List (Str × List Str)) (b : Str) : Int := (E.countP fun e => decide (e.1 = b) && !decide (("seen" : Str) ∈ e.2) : Nat)
def tF (E : List (Str × List Str)) (b w : Str) : Int := (E.countP fun e => decide (e.1 = b) && decide (w ∈ e.2) : Nat)
theorem cF_ins (A B : List (Str × List Str)) (e : Str × List Str) (b : Str) : cF (A ++ e :: B) b = cF (A ++ B) b + (if e.1 = b then 1 else 0) := by
  unfold cF
  rw [List.countP_append, List.countP_append, List.countP_cons]
  by_cases h : e.1 = b <;> simp [h] <;> omega
theorem uF_ins (A B : List (Str × List Str)) (e : Str × List Str) (b : Str) : uF (A ++ e :: B) b = uF (A ++ B) b + (if e.1 = b ∧ ¬ ("seen" : Str) ∈ e.2 then 1 else 0) := by
  unfold uF
  rw [List.countP_append, List.countP_append, List.countP_cons]
  by_cases h : e.1 = b <;> by_cases g : ("seen" : Str) ∈ e.2 <;> simp [h, g] <;> omega
theorem tF_ins (A B : List (Str × List Str)) (e : Str × List Str) (b w : Str) : tF (A ++ e :: B) b w = tF (A ++ B) b w + (if e.1 = b ∧ w ∈ e.2 then 1 else 0) := by
  unfold tF
  rw [List.countP_append, List.countP_append, List.countP_cons]
  by_cases h : e.1 = b <;> by_cases g : w ∈ e.2 <;> simp [h, g] <;> omega
theorem cF_zero {E : List (Str × List Str)} {b : Str} (h : cF E b = 0) : uF E b = 0 := by
  unfold cF at h
  unfold uF
  have h : E.countP (fun e => decide (e.1 = b)) = 0 := by omega
  have : E.countP (fun e => decide (e.1 = b) && !decide (("seen" : Str) ∈ e.2)) ≤ E.countP (fun e => decide (e.1 = b)) := List.countP_mono_left fun x _ hx => by simp at hx ⊢; exact hx.1
  omega
theorem cF_pos {E : List (Str × List Str)} {b : Str} : cF E b ≠ 0 ↔ b ∈ E.map (·.1) := by
  unfold cF
  constructor
  · intro h
    have : 0 < E.countP (fun e => decide (e.1 = b)) := by omega
    obtain ⟨e, he, hb⟩ := List.countP_pos_iff.mp this
    exact List.mem_map.mpr ⟨e, he, by simpa using hb⟩
  · intro h
    obtain ⟨e, he, hb⟩ := List.mem_map.mp h
    have : 0 < E.countP (fun e => decide (e.1 = b)) := List.countP_pos_iff.mpr ⟨e, he, by simpa using hb⟩
    omega
theorem tF_pos {E : List (Str × List Str)} {b w : Str} (h : tF E b w ≠ 0) : ∃ e, e ∈ E ∧ e.1 = b ∧ w ∈ e.2 := by
  unfold tF at h
  have : 0 < E.countP (fun e => decide (e.1 = b) && decide (w ∈ e.2)) := by omega
  obtain ⟨e, he, hb⟩ := List.countP_pos_iff.mp this
  exact ⟨e, he, by simpa using hb⟩
structure FR (F : Folders) (O : Own) : Prop where
  bk : F.boxes = O.map fun e => (e.1, e.2.1)
  nd : (O.map (·.1)).Nodup
  tk : F.tags.map (·.1) = O.map (·.1)
  tg : ∀ n f M, dget O n = some (f, M) → ∃ K, dget F.tags n = some K ∧ (K.map (·.1)).Nodup ∧ sortT (K.map (·.1)) = M
  rs : RSf F.sums (cF (O.map (·.2))) (uF (O.map (·.2)))
  rt : RTf F.tallies (tF (O.map (·.2)))
structure GB (O : Own) : Prop where
  few : O.length ≤ 60
  mks : ∀ e, e ∈ O → e.2.2.length ≤ 60
theorem nodup_lenG {α : Type} [DecidableEq α] : ∀ {xs ys : List α}, xs.Nodup → (∀ x, x ∈ xs → x ∈ ys) → xs.length ≤ ys.length
  | [], _, _, _ => Nat.zero_le _
  | x :: r, ys, d, m => by
    rw [List.nodup_cons] at d
    have hx : x ∈ ys := m x (by simp)
    have ih := nodup_lenG (xs := r) (ys := ys.erase x) d.2 fun y hy => (List.mem_erase_of_ne fun e => d.1 (by rw [← e]; exact hy)).mpr (m y (by simp [hy]))
    rw [List.length_erase_of_mem hx] at ih
    have : 0 < ys.length := List.length_pos_of_mem hx
    rw [List.length_cons]; omega
theorem flat_len {α β : Type} {f : α → List β} {n : Nat} : ∀ {xs : List α}, (∀ x, x ∈ xs → (f x).length ≤ n) → (xs.flatMap f).length ≤ xs.length * n
  | [], _ => Nat.zero_le _
  | x :: r, h => by
    have ih := flat_len (xs := r) fun y hy => h y (by simp [hy])
    have hx := h x (by simp)
    rw [List.flatMap_cons, List.length_append, List.length_cons, Nat.add_mul, Nat.one_mul]; omega
theorem FR.sums_len {F : Folders} {O : Own} (h : FR F O) : F.sums.length ≤ O.length := by
  have := nodup_len h.rs.nd (ys := (O.map (·.2)).map (·.1)) fun b hb => cF_pos.mp (h.rs.keys.mp hb)
  simpa using this
theorem FR.tal_len {F : Folders} {O : Own} (h : FR F O) (g : GB O) : F.tallies.length ≤ 3600 := by
  have k := nodup_lenG h.rt.nd (ys := O.flatMap fun e => e.2.2.map fun w => (⟨[e.2.1, w]⟩ : Kt)) fun k hk => by
    obtain ⟨b, w, rfl⟩ := h.rt.fm k hk
    have : dget F.tallies (⟨[b, w]⟩ : Kt) ≠ none := fun c => dget_none.mp c hk
    rw [h.rt.get] at this
    have : tF (O.map (·.2)) b w ≠ 0 := fun z => this (by rw [if_pos z])
    obtain ⟨e, he, hb, hw⟩ := tF_pos this
    obtain ⟨o, ho, rfl⟩ := List.mem_map.mp he
    exact List.mem_flatMap.mpr ⟨o, ho, List.mem_map.mpr ⟨w, hw, by rw [hb]⟩⟩
  have l := flat_len (f := fun e : Str × (Str × List Str) => e.2.2.map fun w => (⟨[e.2.1, w]⟩ : Kt)) (n := 60) (xs := O) fun e he => by rw [List.length_map]; exact g.mks e he
  have := g.few
  have : O.length * 60 ≤ 60 * 60 := Nat.mul_le_mul_right _ this
  rw [List.length_map] at k
  omega
theorem FR.box {F : Folders} {O : Own} (h : FR F O) (n : Str) : dget F.boxes n = (dget O n).map (·.1) := by
  rw [h.bk]
  have : ∀ O : Own, dget (O.map fun e => (e.1, e.2.1)) n = (dget O n).map (·.1) := by
    intro O
    induction O with
    | nil => rfl
    | cons e r ih =>
      rw [List.map_cons, dget_cons, dget_cons, ih]
      by_cases q : e.1 = n
      · rw [if_pos q, if_pos q]; rfl
      · rw [if_neg q, if_neg q]
  exact this O
theorem FR.has {F : Folders} {O : Own} (h : FR F O) (n : Str) : dhas F.boxes n = dhas O n := by
  unfold dhas; rw [h.box]; cases dget O n <;> rfl
theorem FR.hasT {F : Folders} {O : Own} (h : FR F O) (n : Str) : dhas F.tags n = dhas O n := by
  rw [Bool.eq_iff_iff, dhas_iff, dhas_iff, h.tk]
theorem sortT_len (xs : List Str) : (sortT xs).length = xs.length := (sortT_perm xs).length_eq
theorem mem_sortT {xs : List Str} {x : Str} : x ∈ sortT xs ↔ x ∈ xs := (sortT_perm xs).mem_iff
/-- a name's share taken off -/
theorem off_ok {F : Folders} {n f : Str} {M : List Str} {K : List (Str × Bool)} {X Y : List (Str × List Str)} (hb : dget F.boxes n = some f) (hk : dget F.tags n = some K) (nd : (K.map (·.1)).Nodup) (hm : sortT (K.map (·.1)) = M)
    (ls : F.sums.length ≤ 10000) (lt : F.tallies.length ≤ 10000) (lk : M.length ≤ 1000) (hs : RSf F.sums (cF (X ++ (f, M) :: Y)) (uF (X ++ (f, M) :: Y))) (ht : RTf F.tallies (tF (X ++ (f, M) :: Y))) :
    Ok (m_Folders_shift F n (-1)) fun F' => F'.boxes = F.boxes ∧ F'.tags = F.tags ∧ RSf F'.sums (cF (X ++ Y)) (uF (X ++ Y)) ∧ RTf F'.tallies (tF (X ++ Y)) := by
  have mk : ∀ w, w ∈ K.map (·.1) ↔ w ∈ M := fun w => by rw [← hm, mem_sortT]
  have lk' : K.length ≤ 1000 := by rw [← hm, sortT_len, List.length_map] at lk; exact lk
  have sn : dhas K ("seen" : Str) = decide (("seen" : Str) ∈ M) := by rw [Bool.eq_iff_iff, dhas_iff, decide_eq_true_eq, mk]
  refine (shift_ok (c' := cF (X ++ Y)) (u' := uF (X ++ Y)) (.inr rfl) hb hk nd ls lt lk' hs ht ?_ ?_ (fun b hb => ?_) cF_zero).mono fun F' ⟨h1, h2, h3, h4⟩ => ⟨h1, h2, h3, ?_⟩
  · rw [cF_ins, if_pos rfl]; omega
  · rw [uF_ins, sn]
    by_cases q : ("seen" : Str) ∈ M <;> simp [q]
    omega
  · rw [cF_ins, uF_ins, if_neg (fun q => hb q), if_neg (fun q => hb q.1)]
    exact ⟨by omega, by omega⟩
  · have e : (fun b w => if b = f ∧ w ∈ K.map (·.1) then tF (X ++ (f, M) :: Y) b w + -1 else tF (X ++ (f, M) :: Y) b w) = tF (X ++ Y) := by
      funext b w
      rw [tF_ins]
      by_cases q : f = b
      · subst q
        by_cases r : w ∈ M
        · have r' := (mk w).mpr r
          rw [if_pos ⟨rfl, r'⟩, if_pos ⟨rfl, r⟩]; try omega
        · have r' : ¬ w ∈ K.map (·.1) := fun z => r ((mk w).mp z)
          rw [if_neg (fun z => r' z.2), if_neg (fun z => r z.2)]; try omega
      · have q2 : ¬ b = f := fun e => q e.symm
        simp [q, q2]
    rw [e] at h4
    exact h4
/-- .. put on -/
theorem on_ok {F : Folders} {n f : Str} {M : List Str} {K : List (Str × Bool)} {X Y : List (Str × List Str)} (hb : dget F.boxes n = some f) (hk : dget F.tags n = some K) (nd : (K.map (·.1)).Nodup) (hm : sortT (K.map (·.1)) = M)
    (ls : F.sums.length ≤ 10000) (lt : F.tallies.length ≤ 10000) (lk : M.length ≤ 1000) (hs : RSf F.sums (cF (X ++ Y)) (uF (X ++ Y))) (ht : RTf F.tallies (tF (X ++ Y))) :
    Ok (m_Folders_shift F n 1) fun F' => F'.boxes = F.boxes ∧ F'.tags = F.tags ∧ RSf F'.sums (cF (X ++ (f, M) :: Y)) (uF (X ++ (f, M) :: Y)) ∧ RTf F'.tallies (tF (X ++ (f, M) :: Y)) := by
  have mk : ∀ w, w ∈ K.map (·.1) ↔ w ∈ M := fun w => by rw [← hm, mem_sortT]
  have lk' : K.length ≤ 1000 := by rw [← hm, sortT_len, List.length_map] at lk; exact lk
  have sn : dhas K ("seen" : Str) = decide (("seen" : Str) ∈ M) := by rw [Bool.eq_iff_iff, dhas_iff, decide_eq_true_eq, mk]
  refine (shift_ok (c' := cF (X ++ (f, M) :: Y)) (u' := uF (X ++ (f, M) :: Y)) (.inl rfl) hb hk nd ls lt lk' hs ht ?_ ?_ (fun b hb => ?_) cF_zero).mono fun F' ⟨h1, h2, h3, h4⟩ => ⟨h1, h2, h3, ?_⟩
  · rw [cF_ins, if_pos rfl]
  · rw [uF_ins, sn]
    by_cases q : ("seen" : Str) ∈ M <;> simp [q]
  · rw [cF_ins, uF_ins, if_neg (fun q => hb q), if_neg (fun q => hb q.1)]
    exact ⟨by omega, by omega⟩
  · have e : (fun b w => if b = f ∧ w ∈ K.map (·.1) then tF (X ++ Y) b w + 1 else tF (X ++ Y) b w) = tF (X ++ (f, M) :: Y) := by
      funext b w
      rw [tF_ins]
      by_cases q : f = b
      · subst q
        by_cases r : w ∈ M
        · have r' := (mk w).mpr r
          rw [if_pos ⟨rfl, r'⟩, if_pos ⟨rfl, r⟩]; try omega
        · have r' : ¬ w ∈ K.map (·.1) := fun z => r ((mk w).mp z)
          rw [if_neg (fun z => r' z.2), if_neg (fun z => r z.2)]; try omega
      · have q2 : ¬ b = f := fun e => q e.symm
        simp [q, q2]
    rw [e] at h4
    exact h4
def pB (e : Str × (Str × List Str)) : Str × Str := (e.1, e.2.1)
theorem keys_pB (O : Own) : (O.map pB).map (·.1) = O.map (·.1) := by rw [List.map_map]; rfl
theorem keys_mid (A B : Own) (n : Str) (v : Str × List Str) : (A ++ (n, v) :: B).map (·.1) = A.map (·.1) ++ n :: B.map (·.1) := by rw [List.map_append, List.map_cons]
theorem dget_mid {κ β : Type} [DecidableEq κ] {A B : List (κ × β)} {k : κ} {v : β} (hA : ¬ k ∈ A.map (·.1)) (m : κ) : dget (A ++ (k, v) :: B) m = if k = m then some v else dget (A ++ B) m := by
  rw [dget_app, dget_app, dget_cons]
  by_cases h : k = m
  · subst h; rw [if_pos rfl, if_pos rfl, dget_none.mpr hA]; rfl
  · rw [if_neg h, if_neg h]
/-- the last half of a change: a name's new share put on -/
theorem put_on {A B : Own} {n f' : Str} {M' : List Str} {K' : List (Str × Bool)} {tags0 tags' : List (Str × List (Str × Bool))} {s : List (Str × (Int × Int))} {t : List (Kt × Int)} (nd : ((A ++ (n, (f', M')) :: B).map (·.1)).Nodup)
    (tg : ∀ m f M, dget (A ++ B) m = some (f, M) → ∃ K, dget tags0 m = some K ∧ (K.map (·.1)).Nodup ∧ sortT (K.map (·.1)) = M)
    (t1 : tags'.map (·.1) = (A ++ (n, (f', M')) :: B).map (·.1)) (t2 : dget tags' n = some K') (t3 : ∀ m, m ≠ n → dget tags' m = dget tags0 m) (k1 : (K'.map (·.1)).Nodup) (k2 : sortT (K'.map (·.1)) = M')
    (ls : s.length ≤ 10000) (lt : t.length ≤ 10000) (lk : M'.length ≤ 1000) (hs : RSf s (cF ((A ++ B).map (·.2))) (uF ((A ++ B).map (·.2)))) (ht : RTf t (tF ((A ++ B).map (·.2)))) :
    Ok (m_Folders_shift ⟨(A ++ (n, (f', M')) :: B).map pB, tags', s, t⟩ n 1) fun F' => FR F' (A ++ (n, (f', M')) :: B) := by
  have nd' := nd
  rw [keys_mid, List.nodup_append, List.nodup_cons] at nd'
  have hA : ¬ n ∈ A.map (·.1) := fun q => nd'.2.2 n q n (by simp) rfl
  rw [List.map_append] at hs ht
  have hb : dget ((A ++ (n, (f', M')) :: B).map pB) n = some f' := by
    rw [List.map_append, List.map_cons, show pB (n, (f', M')) = (n, f') from rfl, dget_mid (by rw [keys_pB]; exact hA), if_pos rfl]
  refine (on_ok (X := A.map (·.2)) (Y := B.map (·.2)) (F := ⟨(A ++ (n, (f', M')) :: B).map pB, tags', s, t⟩) hb t2 k1 k2 ls lt lk hs ht).mono fun F' ⟨e1, e2, e3, e4⟩ => ?_
  refine ⟨e1, nd, by rw [e2]; exact t1, fun m f M hm => ?_, by rw [List.map_append, List.map_cons]; exact e3, by rw [List.map_append, List.map_cons]; exact e4⟩
  rw [e2]
  rw [dget_mid hA] at hm
  by_cases q : n = m
  · subst q
    rw [if_pos rfl] at hm
    cases hm
    exact ⟨K', t2, k1, k2⟩
  · rw [if_neg q] at hm
    show ∃ K, dget tags' m = some K ∧ _
    rw [t3 m (fun e => q e.symm)]
    exact tg m f M hm
theorem need_ok {F : Folders} {O : Own} (h : FR F O) {n : Str} (hn : dhas O n = true) : m_Folders_need F n = .ok () := by
  unfold m_Folders_need
  rw [h.has, hn]; rfl
theorem need_no {F : Folders} {O : Own} (h : FR F O) {n : Str} (hn : dhas O n = false) : m_Folders_need F n = .exc ⟨4, 0⟩ := by
  unfold m_Folders_need
  rw [h.has, hn]; rfl
theorem _root_.Ml.Ok.noexc {α ρ : Type} {m : R α} {f : α → R ρ} {Q : α → Prop} {P : ρ → Prop} (h : Ok m Q) (k : ∀ a, Q a → Ok (f a) P) : Ok ((R.noexc m).bind f) P := by
  obtain ⟨a, rfl, hq⟩ := h
  exact k a hq
/-- a name's share taken off, the name still there -/
theorem FR.off {F : Folders} {O : Own} (h : FR F O) (g : GB O) {n f : Str} {M : List Str} {A B : Own} (hO : O = A ++ (n, (f, M)) :: B) (hA : ¬ n ∈ A.map (·.1)) :
    Ok (m_Folders_shift F n (-1)) fun F' => F'.boxes = F.boxes ∧ F'.tags = F.tags ∧ RSf F'.sums (cF ((A ++ B).map (·.2))) (uF ((A ++ B).map (·.2))) ∧ RTf F'.tallies (tF ((A ++ B).map (·.2))) ∧ F'.sums.length ≤ 10000 ∧ F'.tallies.length ≤ 10000 := by
  subst hO
  have hd : dget (A ++ (n, (f, M)) :: B) n = some (f, M) := by rw [dget_mid hA, if_pos rfl]
  obtain ⟨K, k1, k2, k3⟩ := h.tg n f M hd
  have hs := h.rs; have ht := h.rt
  rw [List.map_append, List.map_cons] at hs ht
  have l1 := h.sums_len; have l2 := h.tal_len g; have l3 := g.few; have l4 := g.mks (n, (f, M)) (by simp)
  rw [List.map_append]
  refine (off_ok (X := A.map (·.2)) (Y := B.map (·.2)) (by rw [h.box, hd]; rfl) k1 k2 k3 (by omega) (by omega) (by dsimp only at l4; omega) hs ht).mono fun F' ⟨e1, e2, e3, e4⟩ => ⟨e1, e2, e3, e4, ?_, ?_⟩
  · have := nodup_len e3.nd (ys := (A ++ B).map fun e => e.2.1) fun b hb => by
      have := cF_pos.mp (e3.keys.mp hb)
      rw [← List.map_append, List.map_map] at this
      exact this
    rw [List.length_map, List.length_map] at this
    simp at this l3; omega
  · have k := nodup_lenG e4.nd (ys := (A ++ B).flatMap fun e => e.2.2.map fun w => (⟨[e.2.1, w]⟩ : Kt)) fun k hk => by
      obtain ⟨b, w, rfl⟩ := e4.fm k hk
      have : dget F'.tallies (⟨[b, w]⟩ : Kt) ≠ none := fun c => dget_none.mp c hk
      rw [e4.get] at this
      have : tF (A.map (·.2) ++ B.map (·.2)) b w ≠ 0 := fun z => this (by rw [if_pos z])
      obtain ⟨e, he, hb, hw⟩ := tF_pos this
      rw [← List.map_append] at he
      obtain ⟨o, ho, rfl⟩ := List.mem_map.mp he
      exact List.mem_flatMap.mpr ⟨o, ho, List.mem_map.mpr ⟨w, hw, by rw [hb]⟩⟩
    have l := flat_len (f := fun e : Str × (Str × List Str) => e.2.2.map fun w => (⟨[e.2.1, w]⟩ : Kt)) (n := 60) (xs := A ++ B) fun e he => by
      rw [List.length_map]
      exact g.mks e (by rcases List.mem_append.mp he with q | q <;> simp [q])
    rw [List.length_map] at k
    have : (A ++ B).length ≤ 60 := by simp at l3 ⊢; omega
    have : (A ++ B).length * 60 ≤ 60 * 60 := Nat.mul_le_mul_right _ this
    omega
theorem FR.others {F : Folders} {A B : Own} {n : Str} {v : Str × List Str} (h : FR F (A ++ (n, v) :: B)) (hA : ¬ n ∈ A.map (·.1)) (hB : ¬ n ∈ B.map (·.1)) : ∀ m f M, dget (A ++ B) m = some (f, M) → ∃ K, dget F.tags m = some K ∧ (K.map (·.1)).Nodup ∧ sortT (K.map (·.1)) = M := fun m f M hm => by
  refine h.tg m f M ?_
  rw [dget_mid hA]
  by_cases q : n = m
  · subst q
    have : dget (A ++ B) n = none := dget_none.mpr (by rw [List.map_append, List.mem_append]; exact fun z => z.elim hA hB)
    rw [this] at hm; cases hm
  · rw [if_neg q]; exact hm
theorem place_ok {F : Folders} {O : Own} (h : FR F O) (g : GB O) {n f f' : Str} {M : List Str} (hn : dget O n = some (f, M)) : Ok (m_Folders_place F n f') fun F' => FR F' (dput O n (f', M)) := by
  obtain ⟨A, B, rfl, hA, hB⟩ := mid_of h.nd hn
  have l3 := g.few; have l4 := g.mks (n, (f, M)) (by simp)
  rw [dput_mid hA hB]
  unfold m_Folders_place
  refine .bindE (need_ok h (by unfold dhas; rw [hn]; rfl)) (.noexc (h.off g rfl hA) fun F1 ⟨e1, e2, e3, e4, s1, s2⟩ => ?_)
  obtain ⟨K, k1, k2, k3⟩ := h.tg n f M hn
  rw [e1, e2, h.bk]
  have eb : dput ((A ++ (n, (f, M)) :: B).map fun e => (e.1, e.2.1)) n f' = (A ++ (n, (f', M)) :: B).map pB := by
    rw [List.map_append, List.map_cons, dput_mid (by rw [show A.map (fun e => (e.1, e.2.1)) = A.map pB from rfl, keys_pB]; exact hA) (by rw [show B.map (fun e => (e.1, e.2.1)) = B.map pB from rfl, keys_pB]; exact hB), List.map_append]; rfl
  rw [eb]
  refine .need (lt_line (m := 60) (by rw [List.length_map]; exact l3) (by decide)) (.noexc (put_on (tags0 := F.tags) ?_ (h.others hA hB) ?_ k1 (fun m _ => rfl) k2 k3 s1 s2 (by dsimp only at l4; omega) e3 e4) fun F' hF => .ret hF)
  · have := h.nd; rw [keys_mid] at this ⊢; exact this
  · have := h.tk; rw [keys_mid] at this ⊢; exact this
theorem tags_ok {F : Folders} {A B : Own} {n f : Str} {M M' : List Str} {K K' : List (Str × Bool)} (h : FR F (A ++ (n, (f, M)) :: B)) (hA : ¬ n ∈ A.map (·.1)) (hB : ¬ n ∈ B.map (·.1)) (k1 : dget F.tags n = some K) {s : List (Str × (Int × Int))} {t : List (Kt × Int)}
    (k2 : (K'.map (·.1)).Nodup) (k3 : sortT (K'.map (·.1)) = M') (s1 : s.length ≤ 10000) (s2 : t.length ≤ 10000) (lm : M'.length ≤ 1000) (e3 : RSf s (cF ((A ++ B).map (·.2))) (uF ((A ++ B).map (·.2)))) (e4 : RTf t (tF ((A ++ B).map (·.2)))) :
    Ok (m_Folders_shift ⟨F.boxes, dput F.tags n K', s, t⟩ n 1) fun F' => FR F' (A ++ (n, (f, M')) :: B) := by
  have eb : F.boxes = (A ++ (n, (f, M')) :: B).map pB := by rw [h.bk, List.map_append, List.map_cons, List.map_append, List.map_cons]; rfl
  rw [eb]
  refine put_on (tags0 := F.tags) ?_ (h.others hA hB) ?_ (by rw [dget_put, if_pos rfl]) (fun m hm => by rw [dget_put, if_neg (fun q => hm q.symm)]) k2 k3 s1 s2 lm e3 e4
  · have := h.nd; rw [keys_mid] at this ⊢; exact this
  · rw [keys_dput, if_pos (by unfold dhas; rw [k1]; rfl)]
    have := h.tk; rw [keys_mid] at this ⊢; exact this
theorem mark_ok {F : Folders} {O : Own} (h : FR F O) (g : GB O) {n f w : Str} {M : List Str} (hn : dget O n = some (f, M)) : Ok (m_Folders_mark F n w) fun F' => FR F' (dput O n (f, ssetT (M ++ [w]))) := by
  obtain ⟨A, B, rfl, hA, hB⟩ := mid_of h.nd hn
  have l3 := g.few; have l4 := g.mks (n, (f, M)) (by simp); dsimp only at l4
  rw [dput_mid hA hB]
  unfold m_Folders_mark
  refine .bindE (need_ok h (by unfold dhas; rw [hn]; rfl)) (.noexc (h.off g rfl hA) fun F1 ⟨e1, e2, e3, e4, s1, s2⟩ => ?_)
  obtain ⟨K, k1, k2, k3⟩ := h.tg n f M hn
  have lk : K.length = M.length := by rw [← k3, sortT_len, List.length_map]
  rw [e1, e2]
  refine .bindE (dgetR_ok k1) (.need (lt_line (m := 60) (by omega) (by decide)) (.noexc (tags_ok h hA hB k1 (nodup_dput k2 w true) ?_ s1 s2 ?_ e3 e4) fun F' hF => .ret hF))
  · refine ssetT_is ((sortT_perm _).nodup_iff.mpr (nodup_dput k2 w true)) (sortT_up _) fun x => ?_
    rw [mem_sortT, mem_kput, List.mem_append, List.mem_singleton, ← k3, mem_sortT]
    exact Or.comm
  · have := nodup_len (ssetT_nodup (M ++ [w])) (ys := M ++ [w]) fun x hx => mem_ssetT.mp hx
    rw [List.length_append, List.length_singleton] at this; omega
theorem unmark_ok {F : Folders} {O : Own} (h : FR F O) (g : GB O) {n f w : Str} {M : List Str} (hn : dget O n = some (f, M)) : Ok (m_Folders_unmark F n w) fun F' => FR F' (dput O n (f, M.filter fun x => decide (x ≠ w))) := by
  obtain ⟨A, B, rfl, hA, hB⟩ := mid_of h.nd hn
  have l3 := g.few; have l4 := g.mks (n, (f, M)) (by simp); dsimp only at l4
  rw [dput_mid hA hB]
  unfold m_Folders_unmark
  refine .bindE (need_ok h (by unfold dhas; rw [hn]; rfl)) (.noexc (h.off g rfl hA) fun F1 ⟨e1, e2, e3, e4, s1, s2⟩ => ?_)
  obtain ⟨K, k1, k2, k3⟩ := h.tg n f M hn
  rw [e1, e2]
  refine .bindE (dgetR_ok k1) (.noexc (tags_ok h hA hB k1 (nodup_ddrop k2 w) ?_ s1 s2 ?_ e3 e4) fun F' hF => .ret hF)
  · have up : (M.filter fun x => decide (x ≠ w)).Pairwise (fun a b => leT a b = true) := by rw [← k3]; exact (sortT_up _).filter _
    refine (sortT_of ?_ up).symm
    rw [keys_ddrop, ← k3]
    exact (sortT_perm _).filter _
  · exact Nat.le_trans (List.length_filter_le ..) (by omega)
theorem take_ok {F : Folders} {O : Own} (h : FR F O) (g : GB O) {n f : Str} {M : List Str} (hn : dget O n = some (f, M)) : Ok (m_Folders_take_out F n) fun F' => FR F' (ddrop O n) := by
  obtain ⟨A, B, rfl, hA, hB⟩ := mid_of h.nd hn
  rw [ddrop_mid hA hB]
  unfold m_Folders_take_out
  refine .bindE (need_ok h (by unfold dhas; rw [hn]; rfl)) (.noexc (h.off g rfl hA) fun F1 ⟨e1, e2, e3, e4, s1, s2⟩ => ?_)
  obtain ⟨K, k1, k2, k3⟩ := h.tg n f M hn
  rw [e1, e2]
  refine .bindE (dgetR_ok (v := f) (by rw [h.box, hn]; rfl)) (.bindE (dgetR_ok k1) (.ret ⟨?_, ?_, ?_, fun m f' M' hm => ?_, e3, e4⟩))
  · show ddrop F.boxes n = _
    rw [h.bk, List.map_append, List.map_cons, ddrop_mid (by rw [show A.map (fun e => (e.1, e.2.1)) = A.map pB from rfl, keys_pB]; exact hA) (by rw [show B.map (fun e => (e.1, e.2.1)) = B.map pB from rfl, keys_pB]; exact hB), List.map_append]
  · have := h.nd
    rw [keys_mid] at this
    rw [List.map_append]
    exact this.sublist ((List.Sublist.refl _).append (List.sublist_cons_self ..))
  · show (ddrop F.tags n).map (·.1) = _
    rw [keys_ddrop, h.tk, ← keys_ddrop, ddrop_mid hA hB]
  · show ∃ K, dget (ddrop F.tags n) m = some K ∧ _
    rw [dget_drop]
    by_cases q : n = m
    · subst q
      have : dget (A ++ B) n = none := dget_none.mpr (by rw [List.map_append, List.mem_append]; exact fun z => z.elim hA hB)
      rw [this] at hm; cases hm
    · rw [if_neg q]
      exact h.others hA hB m f' M' hm
theorem putK_fold : ∀ (ms : List Str) (K : List (Str × Bool)), (K.map (·.1)).Nodup → ((ms.foldl (fun K w => dput K w true) K).map (·.1)).Nodup ∧ (∀ x, x ∈ (ms.foldl (fun K w => dput K w true) K).map (·.1) ↔ x ∈ K.map (·.1) ∨ x ∈ ms) ∧ (ms.foldl (fun K w => dput K w true) K).length ≤ K.length + ms.length
  | [], K, h => ⟨h, fun x => by simp, by simp⟩
  | w :: r, K, h => by
    obtain ⟨h1, h2, h3⟩ := putK_fold r (dput K w true) (nodup_dput h w true)
    refine ⟨h1, fun x => ?_, ?_⟩
    · rw [List.foldl_cons, h2 x, mem_kput, List.mem_cons]
      constructor
      · rintro ((h | h) | h)
        · exact .inr (.inl h)
        · exact .inl h
        · exact .inr (.inr h)
      · rintro (h | h | h)
        · exact .inl (.inr h)
        · exact .inl (.inl h)
        · exact .inr h
    · have := len_dput K w true
      rw [List.foldl_cons, List.length_cons]; omega
theorem tags_loop {T : List (Str × List (Str × Bool))} {n : Str} (hn : ¬ n ∈ T.map (·.1)) : ∀ (ms : List Str) (K : List (Str × Bool)), K.length + ms.length ≤ 1000 →
    forR (fun (s17 : List (Str × List (Str × Bool))) (x18 : Str) =>
      (dgetR s17 n).bind fun x22 => R.need (x22.length < sizeLine) <| R.ok (dput s17 n (dput x22 x18 true))) ms (T ++ [(n, K)]) = .ok (T ++ [(n, ms.foldl (fun K w => dput K w true) K)])
  | [], K, _ => rfl
  | w :: r, K, hl => by
    rw [List.length_cons] at hl
    show ((dgetR (T ++ [(n, K)]) n).bind fun x22 => R.need (x22.length < sizeLine) <| R.ok (dput (T ++ [(n, K)]) n (dput x22 w true))).bind (fun s => forR _ r s) = _
    rw [dgetR_ok (v := K) (by rw [dget_mid (B := []) hn, if_pos rfl])]
    show (R.need (K.length < sizeLine) <| R.ok (dput (T ++ [(n, K)]) n (dput K w true))).bind (fun s => forR _ r s) = _
    rw [R.need_pos (lt_line (m := 1000) (by omega) (by decide)), dput_mid (B := []) hn (by simp)]
    show forR _ r (T ++ [(n, dput K w true)]) = _
    have := len_dput K w true
    rw [tags_loop hn r (dput K w true) (by omega)]
    rfl
/-- a name comes, its marks in its dict already -/
theorem come_ok {F : Folders} {O : Own} (h : FR F O) (g : GB O) {n f : Str} {ms : List Str} (hn : ¬ n ∈ O.map (·.1)) (hl : ms.length ≤ 60) :
    Ok (m_Folders_shift ⟨dput F.boxes n f, F.tags ++ [(n, ms.foldl (fun K w => dput K w true) [])], F.sums, F.tallies⟩ n 1) fun F' => FR F' (O ++ [(n, (f, ssetT ms))]) := by
  obtain ⟨k1, k2, k3⟩ := putK_fold ms [] List.nodup_nil
  have l1 := h.sums_len; have l2 := h.tal_len g; have l3 := g.few
  have eb : dput F.boxes n f = (O ++ (n, (f, ssetT ms)) :: []).map pB := by
    rw [dput_no (by rw [h.bk, show O.map (fun e => (e.1, e.2.1)) = O.map pB from rfl, keys_pB]; exact hn), h.bk, List.map_append]; rfl
  rw [eb]
  have hT : ¬ n ∈ F.tags.map (·.1) := by rw [h.tk]; exact hn
  have hs := h.rs; have ht := h.rt
  refine put_on (A := O) (B := []) (tags0 := F.tags) ?_ (by rw [List.append_nil]; exact h.tg) ?_ (by rw [dget_mid (B := []) hT, if_pos rfl]) (fun m hm => by rw [dget_mid (B := []) hT, if_neg (fun q => hm q.symm), List.append_nil]) k1 ?_ (by omega) (by omega) ?_ (by rw [List.append_nil]; exact hs) (by rw [List.append_nil]; exact ht)
  · rw [keys_mid, List.nodup_append]
    exact ⟨h.nd, by simp, fun x hx y hy e => hn (by simp at hy; rw [← hy, ← e]; exact hx)⟩
  · rw [keys_mid, List.map_append, h.tk]; rfl
  · refine ssetT_is ((sortT_perm _).nodup_iff.mpr k1) (sortT_up _) fun x => ?_
    rw [mem_sortT, k2]; simp
  · have := nodup_len (ssetT_nodup ms) (ys := ms) fun x hx => mem_ssetT.mp hx
    omega
theorem add_no {F : Folders} {O : Own} (h : FR F O) {n f : Str} {m : Any} (hn : dhas O n = true) : m_Folders_add F n f m = .exc ⟨4, 0⟩ := by
  unfold m_Folders_add
  rw [h.has, hn]; rfl
theorem addA_ok {F : Folders} {O : Own} (h : FR F O) (g : GB O) {n f : Str} {ms : List Str} (hn : dhas O n = false) (hl : ms.length ≤ 60) : Ok (m_Folders_add F n f (.tup (ms.map Any.str))) fun F' => FR F' (O ++ [(n, (f, ssetT ms))]) := by
  have hn' := dhas_false.mp hn
  have l3 := g.few
  have hT : ¬ n ∈ F.tags.map (·.1) := by rw [h.tk]; exact hn'
  have lb : F.boxes.length = O.length := by rw [h.bk, List.length_map]
  have lt : F.tags.length = O.length := by rw [← List.length_map (·.1), h.tk, List.length_map]
  unfold m_Folders_add
  refine .ifF (by rw [h.has, hn]; decide) (.need (lt_line (m := 60) (by omega) (by decide)) (.need (lt_line (m := 60) (by omega) (by decide)) (.need (by rw [h.hasT]; exact hn) ?_)))
  refine .bind (Q := fun t => t = F.tags ++ [(n, ms.foldl (fun K w => dput K w true) [])]) (.ifT rfl (.bindE (a := ms.map Any.str) rfl (.bind (Q := fun t => t = F.tags ++ [(n, ms.foldl (fun K w => dput K w true) [])]) ?_ fun t ht => .ret ht))) fun t ht => ?_
  · refine ⟨_, ?_, rfl⟩
    rw [← tags_loop hT ms [] (by simp; omega)]
    exact forR_mapS ms fun s w => by
      cases dgetR s n <;> rfl
  · subst ht
    exact .noexc (come_ok h g hn' hl) fun F' hF => .ret hF
theorem addN_ok {F : Folders} {O : Own} (h : FR F O) (g : GB O) {n f : Str} (hn : dhas O n = false) : Ok (m_Folders_add F n f .non) fun F' => FR F' (O ++ [(n, (f, []))]) := by
  have hn' := dhas_false.mp hn
  have l3 := g.few
  have hT : ¬ n ∈ F.tags.map (·.1) := by rw [h.tk]; exact hn'
  have lb : F.boxes.length = O.length := by rw [h.bk, List.length_map]
  have lt : F.tags.length = O.length := by rw [← List.length_map (·.1), h.tk, List.length_map]
  unfold m_Folders_add
  refine .ifF (by rw [h.has, hn]; decide) (.need (lt_line (m := 60) (by omega) (by decide)) (.need (lt_line (m := 60) (by omega) (by decide)) (.need (by rw [h.hasT]; exact hn) ?_)))
  refine .bind (Q := fun t => t = F.tags ++ [(n, [])]) (.ifF (by decide) (.ret rfl)) fun t ht => ?_
  subst ht
  exact .noexc (come_ok (ms := []) h g hn' (by decide)) fun F' hF => .ret (by rw [show ssetT [] = [] from (ssetT_is (ys := []) List.nodup_nil List.Pairwise.nil fun _ => Iff.rfl).symm] at hF; exact hF)
theorem addL_no {F : Folders} {O : Own} (h : FR F O) {n f : Str} {m : List Str} (hn : dhas O n = true) : m_Folders_add_L F n f m = .exc ⟨4, 0⟩ := by
  unfold m_Folders_add_L
  rw [h.has, hn]; rfl
theorem addL_ok {F : Folders} {O : Own} (h : FR F O) (g : GB O) {n f : Str} {ms : List Str} (hn : dhas O n = false) (hl : ms.length ≤ 60) : Ok (m_Folders_add_L F n f ms) fun F' => FR F' (O ++ [(n, (f, ssetT ms))]) := by
  have hn' := dhas_false.mp hn
  have l3 := g.few
  have hT : ¬ n ∈ F.tags.map (·.1) := by rw [h.tk]; exact hn'
  have lb : F.boxes.length = O.length := by rw [h.bk, List.length_map]
  have lt : F.tags.length = O.length := by rw [← List.length_map (·.1), h.tk, List.length_map]
  unfold m_Folders_add_L
  refine .ifF (by rw [h.has, hn]; decide) (.need (lt_line (m := 60) (by omega) (by decide)) (.need (lt_line (m := 60) (by omega) (by decide)) (.need (by rw [h.hasT]; exact hn) (.bindE (tags_loop hT ms [] (by simp; omega)) ?_))))
  exact .noexc (come_ok h g hn' hl) fun F' hF => .ret hF
theorem folder_ok {F : Folders} {O : Own} (h : FR F O) {n f : Str} {M : List Str} (hn : dget O n = some (f, M)) : m_Folders_folder F n = .ok f := by
  unfold m_Folders_folder
  rw [need_ok h (by unfold dhas; rw [hn]; rfl)]
  show (dgetR F.boxes n).bind _ = _
  rw [dgetR_ok (v := f) (by rw [h.box, hn]; rfl)]; rfl
theorem marks_ok {F : Folders} {O : Own} (h : FR F O) (g : GB O) {n f : Str} {M : List Str} (hn : dget O n = some (f, M)) : m_Folders_marks F n = .ok M := by
  obtain ⟨K, k1, k2, k3⟩ := h.tg n f M hn
  have l4 := g.mks (n, (f, M)) (dget_mem hn); dsimp only at l4
  unfold m_Folders_marks
  rw [need_ok h (by unfold dhas; rw [hn]; rfl)]
  show (dgetR F.tags n).bind _ = _
  rw [dgetR_ok k1]
  show R.need (K.length < 64) _ = _
  rw [R.need_pos (by rw [← k3, sortT_len, List.length_map] at l4; omega), k3]
def namesO (O : Own) (b : Str) : List Str := sortT (O.filterMap fun e => if e.2.1 = b then some e.1 else none)
theorem filt_len (O : Own) (b : Str) : (O.filterMap fun e => if e.2.1 = b then some e.1 else none).length ≤ O.length := List.length_filterMap_le ..
theorem names_ok {F : Folders} {O : Own} (h : FR F O) (g : GB O) (b : Str) : m_Folders_names F b = .ok (namesO O b) := by
  have l3 := g.few
  unfold m_Folders_names
  refine Ok.eq (.need (le_line (by rw [h.bk, List.length_map]; omega)) (.compF (fun x : Str × Str => if x.2 = b then some x.1 else none) (fun x _ => ?_) ?_))
  · by_cases q : x.2 = b
    · exact .ifT (by simpa using q) (.ret (by rw [if_pos q]))
    · exact .ifF (by simpa using q) (.ret (by rw [if_neg q]))
  · have e : F.boxes.filterMap (fun x : Str × Str => if x.2 = b then some x.1 else none) = O.filterMap fun e => if e.2.1 = b then some e.1 else none := by
      rw [h.bk, List.filterMap_map]; rfl
    dsimp only
    rw [e]
    have := filt_len O b
    exact .need (by omega) (.ret rfl)
theorem counts_ok {F : Folders} {O : Own} (h : FR F O) (b : Str) : m_Folders_counts F b = .ok (cF (O.map (·.2)) b, uF (O.map (·.2)) b) := by
  unfold m_Folders_counts
  rw [h.rs.tell]
theorem marked_ok {F : Folders} {O : Own} (h : FR F O) (b w : Str) : m_Folders_marked F b w = .ok (tF (O.map (·.2)) b w) := by
  unfold m_Folders_marked
  rw [h.rt.tell]
def boxesO (O : Own) : List (T3 Str Int Int) := (ssetT (O.map fun e => e.2.1)).map fun b => ⟨b, cF (O.map (·.2)) b, uF (O.map (·.2)) b⟩
theorem folders_ok {F : Folders} {O : Own} (h : FR F O) (g : GB O) : m_Folders_folders F = .ok (boxesO O) := by
  have l1 := h.sums_len; have l3 := g.few
  have e : sortT (F.sums.map (·.1)) = ssetT (O.map fun e => e.2.1) := ssetT_is ((sortT_perm _).nodup_iff.mpr h.rs.nd) (sortT_up _) fun x => by
    rw [mem_sortT, h.rs.keys, cF_pos, List.map_map]; rfl
  unfold m_Folders_folders
  rw [e]
  refine Ok.eq (.need (by omega) (.need (le_line (by rw [← e, sortT_len, List.length_map]; omega)) (.compM (fun b => ⟨b, cF (O.map (·.2)) b, uF (O.map (·.2)) b⟩) (fun x hx => ?_) (.ret rfl))))
  have : cF (O.map (·.2)) x ≠ 0 := by
    rw [cF_pos, List.map_map]; exact mem_ssetT.mp hx
  have hd : dget F.sums x = some (cF (O.map (·.2)) x, uF (O.map (·.2)) x) := by rw [h.rs.get, if_neg this]
  exact .bindE (dgetR_ok hd) (.bindE (dgetR_ok hd) (.ret rfl))
theorem init_ok : ∃ F, m_Folders___init__ = .ok F ∧ FR F [] :=
  ⟨_, rfl, ⟨rfl, List.nodup_nil, rfl, fun _ _ _ h => (nomatch h), ⟨List.nodup_nil, fun _ => rfl, fun _ _ => rfl⟩, ⟨List.nodup_nil, fun _ hk => (nomatch hk), fun _ _ => rfl⟩⟩⟩
theorem all_lay {n : Nat} : ∀ {xs : List Any}, (∀ x, x ∈ xs → plA x = true ∧ (pdA x).canLay0 = true ∧ (pdA x).depth ≤ n) → plAL xs = true ∧ PyData.canLayAll0 (pdAL xs) = true ∧ PyData.depthAll (pdAL xs) ≤ n
  | [], _ => by
    rw [plAL, pdAL]
    simp [PyData.canLayAll0, PyData.depthAll]
  | x :: r, h => by
    obtain ⟨a1, a2, a3⟩ := h x (by simp)
    obtain ⟨b1, b2, b3⟩ := all_lay (n := n) (xs := r) fun y hy => h y (List.mem_cons_of_mem _ hy)
    rw [plAL, pdAL]
    simp only [PyData.canLayAll0, PyData.depthAll, a1, a2, b1, b2]
    exact ⟨rfl, rfl, by omega⟩
theorem tup_lay {n : Nat} {xs : List Any} (h : ∀ x, x ∈ xs → plA x = true ∧ (pdA x).canLay0 = true ∧ (pdA x).depth ≤ n) : plA (.tup xs) = true ∧ (pdA (.tup xs)).canLay0 = true ∧ (pdA (.tup xs)).depth ≤ n + 1 := by
  obtain ⟨h1, h2, h3⟩ := all_lay h
  rw [plA, pdA]
  simp only [PyData.canLay0, PyData.depth]
  exact ⟨h1, h2, by omega⟩
theorem lst_lay {n : Nat} {xs : List Any} (h : ∀ x, x ∈ xs → plA x = true ∧ (pdA x).canLay0 = true ∧ (pdA x).depth ≤ n) : plA (.lst xs) = true ∧ (pdA (.lst xs)).canLay0 = true ∧ (pdA (.lst xs)).depth ≤ n + 1 := by
  obtain ⟨h1, h2, h3⟩ := all_lay h
  rw [plA, pdA]
  simp only [PyData.canLay0, PyData.depth]
  exact ⟨h1, h2, by omega⟩
theorem eqA_self {x : Any} (h1 : plA x = true) (h2 : (pdA x).canLay0 = true) (h3 : (pdA x).depth ≤ 60) : eqA x x = .ok true := by
  have s : SeqAt.shaped (pdA x) = true := by
    unfold SeqAt.shaped
    rw [h2, decide_eq_true (show (pdA x).depth ≤ 64 by omega)]; rfl
  unfold eqA
  rw [R.need_pos ⟨h1, h1, s, s⟩, SeqAt.eqv_refl _ h2]
structure Some31 (S : List (List Str)) (ns fs ms : List Str) : Prop where
  eq : S = [ns, fs, ms]
  ln : ns.length = 9
  lf : fs.length = 5
  lm : ms.length = 6
  wn : ∀ x, x ∈ ns → isWord x = true
  wf : ∀ x, x ∈ fs → isWord x = true
  wm : ∀ x, x ∈ ms → isWord x = true
theorem word_is {b t : Int} (hb : 0 ≤ b ∧ b < 2147483647) (ht : 0 ≤ t ∧ t < 1000) : Ok (m_law_word b t) fun z => isWord z = true :=
  (m_law_word_ok hb ht).mono fun z hz => isWord_iff.mpr hz
theorem some_ok {b : Int} (hb : 0 ≤ b ∧ b < 2147483629) : Ok (m_law_some b) fun S => ∃ ns fs ms, Some31 S ns fs ms := by
  unfold m_law_some
  refine .comp (fun y => isWord y = true) (fun x hx => ?_) fun ys hl hy => ?_
  · have hx' := rngL_mem hx
    exact .bind (word_is (b := b / 7) (by omega) (by omega)) fun r hr => .ret ⟨r, rfl, hr⟩
  rw [rngL_len] at hl
  refine .need (le_line (by rw [List.length_singleton]; dsimp only; omega)) (.lets (.comp (fun y => isWord y = true) (fun x hx => ?_) fun zs hz hw => ?_))
  · have hx' := rngL_mem hx
    exact .bind (word_is (b := b / 5) (by omega) (by omega)) fun r hr => .ret ⟨r, rfl, hr⟩
  rw [rngL_len] at hz
  refine .need (le_line (by dsimp only [List.length_cons, List.length_nil]; omega)) (.lets (.comp (fun y => isWord y = true) (fun x hx => ?_) fun ws hs hv => ?_))
  · have hx' := rngL_mem hx
    exact .bind (word_is (b := b) (by omega) (by omega)) fun r hr => .ret ⟨r, rfl, hr⟩
  rw [rngL_len] at hs
  refine .ret ⟨ws, _, _, rfl, by omega, by simp; omega, by simp; omega, hv, fun x hx => ?_, fun x hx => ?_⟩
  · rcases List.mem_append.mp hx with h | h
    · rw [List.mem_singleton] at h; subst h; decide +kernel
    · exact hy x h
  · rcases List.mem_append.mp hx with h | h
    · simp only [List.mem_cons, List.not_mem_nil, or_false, or_self] at h; subst h; decide +kernel
    · exact hw x h
inductive Dd where
  | add (n f : Str) (ms : List Str) | take (n : Str) | place (n f : Str) | mark (n w : Str) | unmark (n w : Str)
def Dd.any : Dd → Any
  | .add n f ms => .tup [.str ("add" : Str), .str n, .str f, .tup (ms.map Any.str)]
  | .take n => .tup [.str ("take" : Str), .str n]
  | .place n f => .tup [.str ("place" : Str), .str n, .str f]
  | .mark n w => .tup [.str ("mark" : Str), .str n, .str w]
  | .unmark n w => .tup [.str ("unmark" : Str), .str n, .str w]
def Dd.name : Dd → Str
  | .add n _ _ => n | .take n => n | .place n _ => n | .mark n _ => n | .unmark n _ => n
def Dd.isAdd : Dd → Bool
  | .add .. => true | _ => false
def Dd.ok (ns fs ms : List Str) : Dd → Prop
  | .add n f l => n ∈ ns ∧ f ∈ fs ∧ (∀ w, w ∈ l → w ∈ ms) ∧ l.length ≤ 6 | .take n => n ∈ ns | .place n f => n ∈ ns ∧ f ∈ fs | .mark n w => n ∈ ns ∧ w ∈ ms | .unmark n w => n ∈ ns ∧ w ∈ ms
def doO (O : Own) : Dd → Own
  | .add n f l => O ++ [(n, (f, ssetT l))]
  | .take n => ddrop O n
  | .place n f => dput O n (f, ((dget O n).getD (("" : Str), [])).2)
  | .mark n w => dput O n (((dget O n).getD (("" : Str), [])).1, ssetT (((dget O n).getD (("" : Str), [])).2 ++ [w]))
  | .unmark n w => dput O n (((dget O n).getD (("" : Str), [])).1, ((dget O n).getD (("" : Str), [])).2.filter fun x => decide (x ≠ w))
/-- names, folders and marks out of those that are drawn -/
structure GO (ns fs ms : List Str) (O : Own) : Prop where
  nd : (O.map (·.1)).Nodup
  all : ∀ e, e ∈ O → e.1 ∈ ns ∧ e.2.1 ∈ fs ∧ (∀ w, w ∈ e.2.2 → w ∈ ms) ∧ e.2.2.Nodup
theorem GO.gb {ns fs ms : List Str} {O : Own} (h : GO ns fs ms O) (l1 : ns.length = 9) (l3 : ms.length = 6) : GB O := ⟨by
    have := nodup_len h.nd (ys := ns) fun x hx => by
      obtain ⟨e, he, rfl⟩ := List.mem_map.mp hx
      exact (h.all e he).1
    rw [List.length_map] at this; omega, fun e he => by
    obtain ⟨_, _, h3, h4⟩ := h.all e he
    have := nodup_len h4 h3; omega⟩
theorem GO.few {ns fs ms : List Str} {O : Own} (h : GO ns fs ms O) (l1 : ns.length = 9) : O.length ≤ 9 := by
  have := nodup_len h.nd (ys := ns) fun x hx => by
    obtain ⟨e, he, rfl⟩ := List.mem_map.mp hx
    exact (h.all e he).1
  rw [List.length_map] at this; omega
theorem GO.mk6 {ns fs ms : List Str} {O : Own} (h : GO ns fs ms O) (l3 : ms.length = 6) {n f : Str} {M : List Str} (hn : dget O n = some (f, M)) : M.length ≤ 6 ∧ f ∈ fs ∧ (∀ w, w ∈ M → w ∈ ms) ∧ M.Nodup := by
  obtain ⟨_, h2, h3, h4⟩ := h.all (n, (f, M)) (dget_mem hn)
  have := nodup_len h4 h3
  exact ⟨by dsimp only at this; omega, h2, h3, h4⟩
theorem mem_dput {κ β : Type} [DecidableEq κ] {d : List (κ × β)} {k : κ} {v : β} {e : κ × β} (h : e ∈ dput d k v) : e = (k, v) ∨ e ∈ d := by
  rw [dput_eq] at h
  split at h
  · obtain ⟨p, hp, rfl⟩ := List.mem_map.mp h
    by_cases q : p.1 = k
    · rw [if_pos q, q]; exact .inl rfl
    · rw [if_neg q]; exact .inr hp
  · rcases List.mem_append.mp h with h | h
    · exact .inr h
    · rw [List.mem_singleton] at h; exact .inl h
/-- a deed that is due -/
def due (O : Own) (d : Dd) : Bool := dhas O d.name != d.isAdd
theorem dhas_get {κ β : Type} [DecidableEq κ] {d : List (κ × β)} {k : κ} (h : dhas d k = true) : ∃ v, dget d k = some v := by
  unfold dhas at h
  exact Option.isSome_iff_exists.mp h
theorem GO.do {ns fs ms : List Str} {O : Own} (h : GO ns fs ms O) {d : Dd} (hd : d.ok ns fs ms) (hu : due O d = true) : GO ns fs ms (doO O d) := by
  cases d with
  | add n f l =>
    have hn : ¬ n ∈ O.map (·.1) := by
      have : dhas O n = false := by unfold due Dd.name Dd.isAdd at hu; simpa using hu
      exact dhas_false.mp this
    refine ⟨?_, fun e he => ?_⟩
    · show ((O ++ [(n, (f, ssetT l))]).map (·.1)).Nodup
      rw [List.map_append, List.nodup_append]
      exact ⟨h.nd, by simp, fun x hx y hy e => hn (by simp at hy; rw [← hy, ← e]; exact hx)⟩
    · rcases List.mem_append.mp (show e ∈ O ++ [(n, (f, ssetT l))] from he) with q | q
      · exact h.all e q
      · rw [List.mem_singleton] at q; subst q
        exact ⟨hd.1, hd.2.1, fun w hw => hd.2.2.1 w (mem_ssetT.mp hw), ssetT_nodup l⟩
  | take n => exact ⟨nodup_ddrop h.nd n, fun e he => h.all e (List.mem_filter.mp he).1⟩
  | place n f =>
    obtain ⟨⟨f0, M⟩, hv⟩ := dhas_get (show dhas O n = true by unfold due Dd.name Dd.isAdd at hu; simpa using hu)
    obtain ⟨h1, h2, h3, h4⟩ := h.all _ (dget_mem hv)
    refine ⟨nodup_dput h.nd n _, fun e he => ?_⟩
    rcases mem_dput he with rfl | q
    · rw [hv]; exact ⟨h1, hd.2, h3, h4⟩
    · exact h.all e q
  | mark n w =>
    obtain ⟨⟨f0, M⟩, hv⟩ := dhas_get (show dhas O n = true by unfold due Dd.name Dd.isAdd at hu; simpa using hu)
    obtain ⟨h1, h2, h3, h4⟩ := h.all _ (dget_mem hv)
    refine ⟨nodup_dput h.nd n _, fun e he => ?_⟩
    rcases mem_dput he with rfl | q
    · rw [hv]
      refine ⟨h1, h2, fun x hx => ?_, ssetT_nodup _⟩
      rcases List.mem_append.mp (mem_ssetT.mp hx) with z | z
      · exact h3 x z
      · rw [List.mem_singleton] at z; subst z; exact hd.2
    · exact h.all e q
  | unmark n w =>
    obtain ⟨⟨f0, M⟩, hv⟩ := dhas_get (show dhas O n = true by unfold due Dd.name Dd.isAdd at hu; simpa using hu)
    obtain ⟨h1, h2, h3, h4⟩ := h.all _ (dget_mem hv)
    refine ⟨nodup_dput h.nd n _, fun e he => ?_⟩
    rcases mem_dput he with rfl | q
    · rw [hv]; exact ⟨h1, h2, fun x hx => h3 x (List.mem_filter.mp hx).1, h4.filter _⟩
    · exact h.all e q
def KW31 : List Str := [("add" : Str), ("take" : Str), ("place" : Str), ("mark" : Str), ("unmark" : Str), ("inbox" : Str)]
theorem kw31_asc {u : Str} (h : u ∈ KW31) : Asc u := by
  have : KW31.all (fun u => u.cps.toList.all fun c => decide (c < 128)) = true := by decide +kernel
  have := List.all_eq_true.mp (List.all_eq_true.mp this u h)
  exact fun c hc => of_decide_eq_true (this c hc)
section
variable {ρ : Type} {P : ρ → Prop}
theorem tupB {xs : List Any} {f : List Any → R ρ} (k : Ok (f xs) P) : Ok ((Any.asTup (.tup xs)).bind f) P := k
theorem ixB {α : Type} {i : Int} {xs : List α} {x : α} {f : α → R ρ} (h : 0 ≤ i) (e : xs[i.toNat]? = some x) (k : Ok (f x) P) : Ok ((idxR xs i).bind f) P := .bindE (idxR_ok h e) k
theorem strB {s : Str} {f : Str → R ρ} (k : Ok (f s) P) : Ok ((Any.asStr (.str s)).bind f) P := k
theorem kwB {u v : Str} {f : Bool → R ρ} (hu : Asc u) (hv : Asc v) (k : Ok (f (decide (u = v))) P) : Ok ((eqA (.str u) (.str v)).bind f) P := .bindE (eqA_str hu hv) k
theorem exB {α : Type} {m : R α} {f : α → R ρ} {x : Exc} (h : m = .exc x) : m.bind f = .exc x := by rw [h]; rfl
theorem exO {α : Type} {m : R α} {f : α → R ρ} {a : α} {x : Exc} (h : m = .ok a) (k : f a = .exc x) : m.bind f = .exc x := by rw [h]; exact k
theorem exIx {α : Type} {i : Int} {xs : List α} {y : α} {f : α → R ρ} {x : Exc} (h : 0 ≤ i) (e : xs[i.toNat]? = some y) (k : f y = .exc x) : (idxR xs i).bind f = .exc x := exO (idxR_ok h e) k
end
theorem a_add : Asc ("add" : Str) := kw31_asc (by decide +kernel)
theorem a_take : Asc ("take" : Str) := kw31_asc (by decide +kernel)
theorem a_place : Asc ("place" : Str) := kw31_asc (by decide +kernel)
theorem a_mark : Asc ("mark" : Str) := kw31_asc (by decide +kernel)
theorem a_unmark : Asc ("unmark" : Str) := kw31_asc (by decide +kernel)
theorem a_word {x : Str} (h : isWord x = true) : Asc x := Wsg.asc (isWord_iff.mp h).1
theorem strs_any (l : List Str) : Any.asStrs (.tup (l.map Any.str)) = .ok l := by
  have : ∀ l : List Str, strsR (l.map Any.str) = .ok l := fun l => by
    induction l with
    | nil => rfl
    | cons x r ih =>
      show (strsR (r.map Any.str)).bind _ = _
      rw [ih]; rfl
  show strsR (l.map Any.str) = _
  exact this l
theorem doO_place {O : Own} {n f : Str} {v : Str × List Str} (hv : dget O n = some v) : doO O (.place n f) = dput O n (f, v.2) := by
  show dput O n (f, ((dget O n).getD (("" : Str), [])).2) = _
  rw [hv]; rfl
theorem doO_mark {O : Own} {n w : Str} {v : Str × List Str} (hv : dget O n = some v) : doO O (.mark n w) = dput O n (v.1, ssetT (v.2 ++ [w])) := by
  show dput O n (((dget O n).getD (("" : Str), [])).1, ssetT (((dget O n).getD (("" : Str), [])).2 ++ [w])) = _
  rw [hv]; rfl
theorem doO_unmark {O : Own} {n w : Str} {v : Str × List Str} (hv : dget O n = some v) : doO O (.unmark n w) = dput O n (v.1, v.2.filter fun x => decide (x ≠ w)) := by
  show dput O n (((dget O n).getD (("" : Str), [])).1, ((dget O n).getD (("" : Str), [])).2.filter fun x => decide (x ≠ w)) = _
  rw [hv]; rfl
theorem done_ok {ns fs ms : List Str} {O : Own} (g : GO ns fs ms O) (l1 : ns.length = 9) (l3 : ms.length = 6) (wm : ∀ x, x ∈ ms → isWord x = true) {d : Dd} (hd : d.ok ns fs ms) (hu : due O d = true) : m_law_done O d.any = .ok (d.any, doO O d) := by
  have few := g.few l1
  refine Ok.eq ?_
  unfold m_law_done
  cases d with
  | add n f l =>
    have hn : dhas O n = false := by unfold due Dd.name Dd.isAdd at hu; simpa using hu
    have hl := hd.2.2.2
    dsimp only [Dd.any]
    refine tupB (ixB (by decide) rfl (kwB a_add a_add (.bind (Q := fun z => z = doO O (.add n f l)) (.ifT (by decide +kernel) ?_) fun z hz => ?_)))
    · refine tupB (ixB (by decide) rfl ?_)
      refine tupB (ixB (by decide) rfl ?_)
      refine .bindE (strs_any l) (.need (by omega) (strB ?_))
      refine tupB (ixB (by decide) rfl (strB ?_))
      exact .need (lt_line (m := 60) (by omega) (by decide)) (.need hn (.ret rfl))
    · subst hz; exact .ret rfl
  | take n =>
    obtain ⟨v, hv⟩ := dhas_get (show dhas O n = true by unfold due Dd.name Dd.isAdd at hu; simpa using hu)
    dsimp only [Dd.any]
    refine tupB (ixB (by decide) rfl (kwB a_take a_add (.bind (Q := fun z => z = doO O (.take n)) (.ifF (by decide +kernel) ?_) fun z hz => by subst hz; exact .ret rfl)))
    refine tupB (ixB (by decide) rfl (kwB a_take a_take (.bind (Q := fun z => z = doO O (.take n)) (.ifT (by decide +kernel) ?_) fun z hz => by subst hz; exact .ret rfl)))
    exact tupB (ixB (by decide) rfl (strB (.bindE (dgetR_ok hv) (.ret rfl))))
  | place n f =>
    obtain ⟨v, hv⟩ := dhas_get (show dhas O n = true by unfold due Dd.name Dd.isAdd at hu; simpa using hu)
    dsimp only [Dd.any]
    refine tupB (ixB (by decide) rfl (kwB a_place a_add (.bind (Q := fun z => z = doO O (.place n f)) (.ifF (by decide +kernel) ?_) fun z hz => by subst hz; exact .ret rfl)))
    refine tupB (ixB (by decide) rfl (kwB a_place a_take (.bind (Q := fun z => z = doO O (.place n f)) (.ifF (by decide +kernel) ?_) fun z hz => by subst hz; exact .ret rfl)))
    refine tupB (ixB (by decide) rfl (kwB a_place a_place (.bind (Q := fun z => z = doO O (.place n f)) (.ifT (by decide +kernel) ?_) fun z hz => by subst hz; exact .ret rfl)))
    exact tupB (ixB (by decide) rfl (strB (tupB (ixB (by decide) rfl (strB (.bindE (dgetR_ok hv) (.ret (doO_place hv).symm)))))))
  | mark n w =>
    obtain ⟨⟨f0, M⟩, hv⟩ := dhas_get (show dhas O n = true by unfold due Dd.name Dd.isAdd at hu; simpa using hu)
    have lm := (g.mk6 l3 hv).1
    dsimp only [Dd.any]
    refine tupB (ixB (by decide) rfl (kwB a_mark a_add (.bind (Q := fun z => z = doO O (.mark n w)) (.ifF (by decide +kernel) ?_) fun z hz => by subst hz; exact .ret rfl)))
    refine tupB (ixB (by decide) rfl (kwB a_mark a_take (.bind (Q := fun z => z = doO O (.mark n w)) (.ifF (by decide +kernel) ?_) fun z hz => by subst hz; exact .ret rfl)))
    refine tupB (ixB (by decide) rfl (kwB a_mark a_place (.bind (Q := fun z => z = doO O (.mark n w)) (.ifF (by decide +kernel) ?_) fun z hz => by subst hz; exact .ret rfl)))
    refine tupB (ixB (by decide) rfl (kwB a_mark a_mark (.bind (Q := fun z => z = doO O (.mark n w)) (.ifT (by decide +kernel) ?_) fun z hz => by subst hz; exact .ret rfl)))
    refine tupB (ixB (by decide) rfl (strB (.bindE (dgetR_ok hv) (tupB (ixB (by decide) rfl (strB (.need (le_line ?_) (.need ?_ ?_))))))))
    · dsimp only [List.length_singleton]; omega
    · dsimp only; rw [List.length_append, List.length_singleton]; omega
    · exact tupB (ixB (by decide) rfl (strB (.bindE (dgetR_ok hv) (.ret (doO_mark hv).symm))))
  | unmark n w =>
    obtain ⟨⟨f0, M⟩, hv⟩ := dhas_get (show dhas O n = true by unfold due Dd.name Dd.isAdd at hu; simpa using hu)
    obtain ⟨lm, _, wM, _⟩ := g.mk6 l3 hv
    dsimp only [Dd.any]
    refine tupB (ixB (by decide) rfl (kwB a_unmark a_add (.bind (Q := fun z => z = doO O (.unmark n w)) (.ifF (by decide +kernel) ?_) fun z hz => by subst hz; exact .ret rfl)))
    refine tupB (ixB (by decide) rfl (kwB a_unmark a_take (.bind (Q := fun z => z = doO O (.unmark n w)) (.ifF (by decide +kernel) ?_) fun z hz => by subst hz; exact .ret rfl)))
    refine tupB (ixB (by decide) rfl (kwB a_unmark a_place (.bind (Q := fun z => z = doO O (.unmark n w)) (.ifF (by decide +kernel) ?_) fun z hz => by subst hz; exact .ret rfl)))
    refine tupB (ixB (by decide) rfl (kwB a_unmark a_mark (.bind (Q := fun z => z = doO O (.unmark n w)) (.ifF (by decide +kernel) ?_) fun z hz => by subst hz; exact .ret rfl)))
    refine tupB (ixB (by decide) rfl (strB (.bindE (dgetR_ok hv) (.need (le_line (by dsimp only; omega)) (.compF (fun x => if x ≠ w then some x else none) (fun x hx => ?_) ?_)))))
    · refine tupB (ixB (by decide) rfl (kwB (a_word (wm x (wM x hx))) (a_word (wm w hd.2)) ?_))
      by_cases q : x = w
      · exact .ifF (by simp [q]) (.ret (by simp [q]))
      · exact .ifT (by simp [q]) (.ret (by simp [q]))
    · refine tupB (ixB (by decide) rfl (strB (.bindE (dgetR_ok hv) (.ret ?_))))
      rw [doO_unmark hv]
      have : ∀ M : List Str, M.filterMap (fun x => if x ≠ w then some x else none) = M.filter fun x => decide (x ≠ w) := fun M => by
        induction M with
        | nil => rfl
        | cons x r ih =>
          by_cases q : x = w
          · rw [List.filterMap_cons_none (by simp [q]), List.filter_cons_of_neg (by simp [q]), ih]
          · rw [List.filterMap_cons_some (by simp [q]; rfl), List.filter_cons_of_pos (by simp [q]), ih]
      show dput O n (f0, _) = dput O n (f0, _)
      rw [this]
theorem need_exc {F : Folders} {O : Own} (h : FR F O) {n : Str} (hn : dhas O n = false) {α : Type} {f : Unit → R α} : (m_Folders_need F n).bind f = .exc ⟨4, 0⟩ := exB (need_no h hn)
theorem exIfT {α : Type} {c : Prop} [Decidable c] {a b : R α} {x : Exc} (h : c) (k : a = .exc x) : (if c then a else b) = .exc x := by rw [if_pos h]; exact k
theorem exIfF {α : Type} {c : Prop} [Decidable c] {a b : R α} {x : Exc} (h : ¬ c) (k : b = .exc x) : (if c then a else b) = .exc x := by rw [if_neg h]; exact k
def val (O : Own) (x : Str) : Str × List Str := (dget O x).getD (("" : Str), [])
theorem val_of {O : Own} (nd : (O.map (·.1)).Nodup) {e : Str × (Str × List Str)} (h : e ∈ O) : val O e.1 = e.2 := by
  unfold val
  rw [dget_of_mem nd (k := e.1) (v := e.2) h]; rfl
def flO (O : Own) (b : Str) : List Str := O.filterMap fun e => if e.2.1 = b then some e.1 else none
theorem mem_flO {O : Own} {b x : Str} (h : x ∈ flO O b) : x ∈ O.map (·.1) := by
  obtain ⟨e, he, h⟩ := List.mem_filterMap.mp h
  by_cases q : e.2.1 = b
  · rw [if_pos q] at h; cases h; exact List.mem_map.mpr ⟨e, he, rfl⟩
  · rw [if_neg q] at h; cases h
theorem mem_namesO {O : Own} {b x : Str} (h : x ∈ namesO O b) : x ∈ O.map (·.1) := mem_flO (mem_sortT.mp h)
/-- a kept pair: the same plain thing twice -/
def Kp (p : List Any) : Prop := ∃ x, p = [x, x] ∧ plA x = true ∧ (pdA x).canLay0 = true ∧ (pdA x).depth ≤ 60
def KL (k : List (List Any)) : Prop := ∀ p, p ∈ k → Kp p
theorem KL.add {k : List (List Any)} (h : KL k) {x : Any} (g : Kp [x, x]) : KL (k ++ [[x, x]]) := fun p hp => by
  rcases List.mem_append.mp hp with q | q
  · exact h p q
  · rw [List.mem_singleton] at q; subst q; exact g
theorem asc_pl {w : Str} (h : Asc w) : plA (Any.str w) = true ∧ (pdA (Any.str w)).canLay0 = true ∧ (pdA (Any.str w)).depth ≤ 1 := ⟨plA_str w, by rw [pdA_str]; exact h.lay, by rw [pdA_str]; exact Nat.zero_le _⟩
theorem pl_int (i : Int) : plA (Any.int i) = true ∧ (pdA (Any.int i)).canLay0 = true ∧ (pdA (Any.int i)).depth ≤ 1 := ⟨rfl, rfl, by rw [pdA]; exact Nat.zero_le _⟩
structure FP (F : Folders) (E : Own) : Prop where
  ex : ∃ O, FR F O ∧ O.Perm E
  nd : (E.map (·.1)).Nodup
  gb : GB E
theorem GB.perm {O E : Own} (g : GB E) (p : O.Perm E) : GB O := ⟨by rw [p.length_eq]; exact g.few, fun e he => g.mks e (p.mem_iff.mp he)⟩
theorem dget_perm {O E : Own} (p : O.Perm E) (nd : (E.map (·.1)).Nodup) (n : Str) : dget O n = dget E n := by
  have ndO : (O.map (·.1)).Nodup := (p.map _).nodup_iff.mpr nd
  cases h : dget E n with
  | some v => exact dget_of_mem ndO (p.mem_iff.mpr (dget_mem h))
  | none => exact dget_none.mpr fun q => dget_none.mp h ((p.map (·.1)).mem_iff.mp q)
theorem cF_perm {O E : Own} (p : O.Perm E) (b : Str) : cF (O.map (·.2)) b = cF (E.map (·.2)) b := by unfold cF; rw [(p.map _).countP_eq]
theorem uF_perm {O E : Own} (p : O.Perm E) (b : Str) : uF (O.map (·.2)) b = uF (E.map (·.2)) b := by unfold uF; rw [(p.map _).countP_eq]
theorem tF_perm {O E : Own} (p : O.Perm E) (b w : Str) : tF (O.map (·.2)) b w = tF (E.map (·.2)) b w := by unfold tF; rw [(p.map _).countP_eq]
theorem namesO_perm {O E : Own} (p : O.Perm E) (b : Str) : namesO O b = namesO E b := sortT_congr (p.filterMap _)
theorem boxesO_perm {O E : Own} (p : O.Perm E) : boxesO O = boxesO E := by
  unfold boxesO
  rw [ssetT_congr (fun x => (p.map fun e => e.2.1).mem_iff)]
  exact List.map_congr_left fun b _ => by rw [cF_perm p, uF_perm p]
theorem val_some {E : Own} {n : Str} (h : n ∈ E.map (·.1)) : dget E n = some ((val E n).1, (val E n).2) := by
  obtain ⟨v, hv⟩ := dhas_get (dhas_iff.mpr h)
  unfold val; rw [hv]; rfl
section
variable {F : Folders} {E : Own}
theorem FP.folder (h : FP F E) {n : Str} (hn : n ∈ E.map (·.1)) : m_Folders_folder F n = .ok (val E n).1 := by
  obtain ⟨O, f, p⟩ := h.ex
  exact folder_ok f (by rw [dget_perm p h.nd]; exact val_some hn)
theorem FP.marks (h : FP F E) {n : Str} (hn : n ∈ E.map (·.1)) : m_Folders_marks F n = .ok (val E n).2 := by
  obtain ⟨O, f, p⟩ := h.ex
  exact marks_ok f (h.gb.perm p) (by rw [dget_perm p h.nd]; exact val_some hn)
theorem FP.names (h : FP F E) (b : Str) : m_Folders_names F b = .ok (namesO E b) := by
  obtain ⟨O, f, p⟩ := h.ex
  rw [names_ok f (h.gb.perm p), namesO_perm p]
theorem FP.counts (h : FP F E) (b : Str) : m_Folders_counts F b = .ok (cF (E.map (·.2)) b, uF (E.map (·.2)) b) := by
  obtain ⟨O, f, p⟩ := h.ex
  rw [counts_ok f, cF_perm p, uF_perm p]
theorem FP.marked (h : FP F E) (b w : Str) : m_Folders_marked F b w = .ok (tF (E.map (·.2)) b w) := by
  obtain ⟨O, f, p⟩ := h.ex
  rw [marked_ok f, tF_perm p]
theorem FP.folders (h : FP F E) : m_Folders_folders F = .ok (boxesO E) := by
  obtain ⟨O, f, p⟩ := h.ex
  rw [folders_ok f (h.gb.perm p), boxesO_perm p]
end
def g33 (E : Own) (n : Str) : Any := .tup [.str (val E n).1, .lst ((val E n).2.map Any.str)]
def h33 (E : Own) (ms : List Str) (b : Str) : List Any := [.tup [.tup [.int (cF (E.map (·.2)) b), .int (uF (E.map (·.2)) b)], .lst ((namesO E b).map Any.str)], .lst ((ms.map fun w => tF (E.map (·.2)) b w).map Any.int)]
def seenV (E : Own) (fs ms : List Str) : List Any := ([.lst ((boxesO E).map sii)] ++ (sortT (E.map (·.1))).map (g33 E)) ++ fs.flatMap (h33 E ms)
theorem flat_h {E : Own} {ms : List Str} (l : List Str) : (l.flatMap (h33 E ms)).length = 2 * l.length := by
  induction l with
  | nil => rfl
  | cons b r ih => rw [List.flatMap_cons, List.length_append, ih, List.length_cons]; show 2 + _ = _; omega
theorem seen_ok {S : List (List Str)} {ns fs ms : List Str} (hS : Some31 S ns fs ms) {F : Folders} {E : Own} (h : FP F E) {own : Own} (po : (own.map (·.1)).Perm (E.map (·.1))) (few : E.length ≤ 9) : m_law_seen F own S = .ok (seenV E fs ms) := by
  have lo : own.length = E.length := by have := po.length_eq; rw [List.length_map, List.length_map] at this; exact this
  obtain ⟨rfl, l1, l2, l3, wn, wf, wm⟩ := hS
  have lk : (sortT (E.map (·.1))).length ≤ 9 := by rw [sortT_len, List.length_map]; exact few
  refine Ok.eq ?_
  unfold m_law_seen
  rw [sortT_congr po]
  refine .bindE h.folders (.lets (.need (by omega) (.forI (fun pre s => s = [.lst ((boxesO E).map sii)] ++ pre.map (g33 E)) rfl (fun p x q s ep hs => ?_) fun s hs => ?_)))
  · subst hs
    have hp := pre_lt ep
    have hx : x ∈ E.map (·.1) := mem_sortT.mp (show x ∈ sortT (E.map (·.1)) by rw [ep]; simp)
    refine .bindE (h.folder hx) (.bindE (h.marks hx) (.need (lt_line (m := 100) (by rw [List.length_append, List.length_map, List.length_singleton]; omega) (by decide)) (.ret ?_)))
    rw [List.map_append, ← List.append_assoc]; rfl
  · subst hs
    refine ixB (by decide) rfl (.forI (fun pre s => s = ([.lst ((boxesO E).map sii)] ++ (sortT (E.map (·.1))).map (g33 E)) ++ pre.flatMap (h33 E ms)) (by simp) (fun p x q s ep hs => ?_) fun s hs => .ret hs)
    subst hs
    have hp := pre_lt ep
    have ls : (([Any.lst ((boxesO E).map sii)] ++ (sortT (E.map (·.1))).map (g33 E)) ++ p.flatMap (h33 E ms)).length ≤ 100 := by
      rw [List.length_append, List.length_append, List.length_map, List.length_singleton, flat_h]; omega
    refine .bindE (h.counts x) (.bindE (h.names x) (.need (lt_line (m := 100) ls (by decide)) (ixB (by decide) rfl (.need (le_line (by omega)) (.compM (fun w => tF (E.map (·.2)) x w) (fun w _ => .bindE (h.marked x w) (.ret rfl)) (.need (lt_line (m := 101) (by rw [List.length_append, List.length_singleton]; omega) (by decide)) (.ret ?_)))))))
    rw [List.flatMap_append, List.flatMap_cons, List.flatMap_nil, List.append_nil, ← List.append_assoc, List.append_assoc _ [_] [_]]
    rfl
theorem lsts_lay {l : List Str} (h : ∀ x, x ∈ l → Asc x) : plA (.lst (l.map Any.str)) = true ∧ (pdA (.lst (l.map Any.str))).canLay0 = true ∧ (pdA (.lst (l.map Any.str))).depth ≤ 2 :=
  lst_lay (n := 1) fun x hx => by
    obtain ⟨w, hw, rfl⟩ := List.mem_map.mp hx
    exact asc_pl (h w hw)
theorem up_lay {x : Any} {n m : Nat} (h : plA x = true ∧ (pdA x).canLay0 = true ∧ (pdA x).depth ≤ n) (k : n ≤ m) : plA x = true ∧ (pdA x).canLay0 = true ∧ (pdA x).depth ≤ m := ⟨h.1, h.2.1, Nat.le_trans h.2.2 k⟩
theorem seen_self {ns fs ms : List Str} (wn : ∀ x, x ∈ ns → isWord x = true) (wf : ∀ x, x ∈ fs → isWord x = true) (wm : ∀ x, x ∈ ms → isWord x = true) {E : Own} (g : GO ns fs ms E) (bs : List Str) : eqA (.lst (seenV E bs ms)) (.lst (seenV E bs ms)) = .ok true := by
  have an : ∀ n, n ∈ E.map (·.1) → Asc n := fun n hn => by
    obtain ⟨e, he, rfl⟩ := List.mem_map.mp hn
    exact a_word (wn e.1 (g.all e he).1)
  have av : ∀ n, n ∈ E.map (·.1) → Asc (val E n).1 ∧ ∀ w, w ∈ (val E n).2 → Asc w := fun n hn => by
    obtain ⟨e, he, rfl⟩ := List.mem_map.mp hn
    rw [val_of g.nd he]
    exact ⟨a_word (wf _ (g.all e he).2.1), fun w hw => a_word (wm w ((g.all e he).2.2.1 w hw))⟩
  obtain ⟨a, b, c⟩ := lst_lay (n := 4) (xs := seenV E bs ms) fun x hx => by
    rcases List.mem_append.mp hx with hx | hx
    · rcases List.mem_append.mp hx with hx | hx
      · rw [List.mem_singleton] at hx; subst hx
        refine up_lay (lst_lay (n := 2) fun y hy => ?_) (by omega)
        obtain ⟨w, hw, rfl⟩ := List.mem_map.mp hy
        obtain ⟨q, hq, rfl⟩ := List.mem_map.mp hw
        obtain ⟨e, he, rfl⟩ := List.mem_map.mp (mem_ssetT.mp hq)
        refine tup_lay (n := 1) fun y hy => ?_
        simp only [List.mem_cons, List.not_mem_nil, or_false] at hy
        rcases hy with rfl | rfl | rfl
        · exact asc_pl (a_word (wf _ (g.all e he).2.1))
        · exact pl_int _
        · exact pl_int _
      · obtain ⟨n, hn, rfl⟩ := List.mem_map.mp hx
        have hn := mem_sortT.mp hn
        refine up_lay (tup_lay (n := 2) fun y hy => ?_) (by omega)
        simp only [List.mem_cons, List.not_mem_nil, or_false] at hy
        rcases hy with rfl | rfl
        · exact up_lay (asc_pl (av n hn).1) (by omega)
        · exact lsts_lay (av n hn).2
    · obtain ⟨b, hb, hx⟩ := List.mem_flatMap.mp hx
      simp only [h33, List.mem_cons, List.not_mem_nil, or_false] at hx
      rcases hx with rfl | rfl
      · refine tup_lay (n := 3) fun y hy => ?_
        simp only [List.mem_cons, List.not_mem_nil, or_false] at hy
        rcases hy with rfl | rfl
        · refine up_lay (tup_lay (n := 1) fun z hz => ?_) (by omega)
          simp only [List.mem_cons, List.not_mem_nil, or_false] at hz
          rcases hz with rfl | rfl
          · exact pl_int _
          · exact pl_int _
        · exact up_lay (lsts_lay fun y hy => an y (mem_namesO hy)) (by omega)
      · refine up_lay (lst_lay (n := 1) fun y hy => ?_) (by omega)
        obtain ⟨i, hi, rfl⟩ := List.mem_map.mp hy
        exact pl_int _
  exact eqA_self a b (by omega)
theorem last_get {O : Own} {n : Str} {v : Str × List Str} (hn : ¬ n ∈ O.map (·.1)) : dget (O ++ [(n, v)]) n = some v := by
  rw [show O ++ [(n, v)] = O ++ (n, v) :: [] from rfl, dget_mid hn, if_pos rfl]
theorem sset_nil : ssetT [] = [] := (ssetT_is (ys := []) List.nodup_nil List.Pairwise.nil fun _ => Iff.rfl).symm
theorem exIdx {α ρ : Type} {i : Int} {xs : List α} {f : α → R ρ} {e : Exc} (h0 : 0 ≤ i) (h1 : i < xs.length) (k : ∀ x, x ∈ xs → f x = .exc e) : (idxR xs i).bind f = .exc e := by
  obtain ⟨x, e1, m, _⟩ := idxR_mem h0 h1
  rw [e1]; exact k x m
theorem asked_there {S : List (List Str)} {ns fs ms : List Str} (hS : Some31 S ns fs ms) {F : Folders} {O : Own} (h : FR F O) {n : Str} (hn : dhas O n = true) {w : Int} (hw : w = 0 ∨ w = 6) (num : Int) : m_law_asked F w n S num = .exc ⟨4, 0⟩ := by
  obtain ⟨rfl, l1, l2, l3, _, _, _⟩ := hS
  unfold m_law_asked
  rcases hw with rfl | rfl
  · refine exIfT (by decide) (exIx (by decide) rfl (exIdx (by omega) (by omega) fun x _ => exIx (by decide) rfl (exIdx (by omega) (by omega) fun y _ => exB (addL_no h hn))))
  · exact exIfF (by decide) (exIfF (by decide) (exIfF (by decide) (exIfF (by decide) (exIfF (by decide) (exIfF (by decide) (exIfT (by decide) (exB (add_no h hn))))))))
def Rest (w : Int) : Prop := w = 1 ∨ w = 2 ∨ w = 3 ∨ w = 4 ∨ w = 5 ∨ w = 7
theorem asked_not {S : List (List Str)} {ns fs ms : List Str} (hS : Some31 S ns fs ms) {F : Folders} {O : Own} (h : FR F O) {n : Str} (hn : dhas O n = false) {w : Int} (hw : Rest w) (num : Int) : m_law_asked F w n S num = .exc ⟨4, 0⟩ := by
  obtain ⟨rfl, l1, l2, l3, _, _, _⟩ := hS
  unfold m_law_asked
  rcases hw with rfl | rfl | rfl | rfl | rfl | rfl
  · exact exIfF (by decide) (exIfT (by decide) (exB (by unfold m_Folders_take_out; exact need_exc h hn)))
  · exact exIfF (by decide) (exIfF (by decide) (exIfT (by decide) (exIx (by decide) rfl (exIdx (by omega) (by omega) fun x _ => exB (by unfold m_Folders_place; exact need_exc h hn)))))
  · exact exIfF (by decide) (exIfF (by decide) (exIfF (by decide) (exIfT (by decide) (exIx (by decide) rfl (exIdx (by omega) (by omega) fun x _ => exB (by unfold m_Folders_mark; exact need_exc h hn))))))
  · exact exIfF (by decide) (exIfF (by decide) (exIfF (by decide) (exIfF (by decide) (exIfT (by decide) (exIx (by decide) rfl (exIdx (by omega) (by omega) fun x _ => exB (by unfold m_Folders_unmark; exact need_exc h hn)))))))
  · exact exIfF (by decide) (exIfF (by decide) (exIfF (by decide) (exIfF (by decide) (exIfF (by decide) (exIfT (by decide) (exB (by unfold m_Folders_folder; exact need_exc h hn)))))))
  · exact exIfF (by decide) (exIfF (by decide) (exIfF (by decide) (exIfF (by decide) (exIfF (by decide) (exIfF (by decide) (exIfF (by decide) (exB (by unfold m_Folders_marks; exact need_exc h hn))))))))
theorem refused_of {F : Folders} {w : Int} {n : Str} {S : List (List Str)} {num : Int} (h : m_law_asked F w n S num = .exc ⟨4, 0⟩) : m_law_refused F w n S num = .ok (true, F) := by
  unfold m_law_refused
  rw [h]
  rfl
theorem needA_exc {F : Folders} {x : Any} (hx : hasA F.boxes x = .ok false) {α : Type} {f : Unit → R α} : (m_Folders_need_A F x).bind f = .exc ⟨4, 0⟩ := by
  unfold m_Folders_need_A
  rw [hx]; rfl
theorem askedA_not {S : List (List Str)} {ns fs ms : List Str} (hS : Some31 S ns fs ms) {F : Folders} {x : Any} (hx : hasA F.boxes x = .ok false) {w : Int} (hw : Rest w) (num : Int) : m_law_asked_A F w x S num = .exc ⟨4, 0⟩ := by
  obtain ⟨rfl, l1, l2, l3, _, _, _⟩ := hS
  unfold m_law_asked_A
  rcases hw with rfl | rfl | rfl | rfl | rfl | rfl
  · exact exIfF (by decide) (exIfT (by decide) (exB (by unfold m_Folders_take_out_A; exact needA_exc hx)))
  · exact exIfF (by decide) (exIfF (by decide) (exIfT (by decide) (exIx (by decide) rfl (exIdx (by omega) (by omega) fun x _ => exB (by unfold m_Folders_place_A; exact needA_exc hx)))))
  · exact exIfF (by decide) (exIfF (by decide) (exIfF (by decide) (exIfT (by decide) (exIx (by decide) rfl (exIdx (by omega) (by omega) fun x _ => exB (by unfold m_Folders_mark_A; exact needA_exc hx))))))
  · exact exIfF (by decide) (exIfF (by decide) (exIfF (by decide) (exIfF (by decide) (exIfT (by decide) (exIx (by decide) rfl (exIdx (by omega) (by omega) fun x _ => exB (by unfold m_Folders_unmark_A; exact needA_exc hx)))))))
  · exact exIfF (by decide) (exIfF (by decide) (exIfF (by decide) (exIfF (by decide) (exIfF (by decide) (exIfT (by decide) (exB (by unfold m_Folders_folder_A; exact needA_exc hx)))))))
  · exact exIfF (by decide) (exIfF (by decide) (exIfF (by decide) (exIfF (by decide) (exIfF (by decide) (exIfF (by decide) (exIfF (by decide) (exB (by unfold m_Folders_marks_A; exact needA_exc hx))))))))
theorem refusedA_of {F : Folders} {w : Int} {x : Any} {S : List (List Str)} {num : Int} (h : m_law_asked_A F w x S num = .exc ⟨4, 0⟩) : m_law_refused_A F w x S num = .ok (true, F) := by
  unfold m_law_refused_A
  rw [h]
  rfl
theorem compR_none {σ α β : Type} {f : σ → α → R (σ × Option β)} : ∀ {xs : List α} {s : σ}, (∀ x, x ∈ xs → f s x = .ok (s, none)) → compR f xs s = .ok (s, [])
  | [], s, _ => rfl
  | x :: r, s, h => by
    unfold compR
    rw [h x (by simp)]
    show (compR f r s).bind _ = _
    rw [compR_none fun y hy => h y (by simp [hy])]; rfl
theorem odd_ok {S : List (List Str)} {ns fs ms : List Str} (hS : Some31 S ns fs ms) (F : Folders) (num : Int) : m_law_odd_refused F S num = .ok (true, F) := by
  refine Ok.eq ?_
  unfold m_law_odd_refused
  refine .ite (fun _ => .ret rfl) fun _ => .idx (by omega) (by simp; omega) fun x hx _ => .need (le_line (by decide)) ?_
  have hx : hasA F.boxes x = .ok false := by
    simp only [List.mem_cons, List.not_mem_nil, or_false] at hx
    rcases hx with rfl | rfl | rfl <;> rfl
  refine .bindE (compR_none (s := F) fun w hw => ?_) (.need rfl (.need rfl (.ret rfl)))
  have hw : Rest w := by
    unfold Rest
    simp only [List.mem_cons, List.not_mem_nil, or_false] at hw
    exact hw
  rw [refusedA_of (askedA_not hS hx hw num)]
  rfl
/-- what is asked is done -/
theorem asked_add {S : List (List Str)} {ns fs ms fs' : List Str} (hS : Some31 S ns fs ms) (hf : ∀ f, f ∈ fs → f ∈ fs') (hi : ("inbox" : Str) ∈ fs') {F : Folders} {O : Own} (h : FR F O) (g : GO ns fs' ms O) {n : Str} (nn : n ∈ ns) (hn : dhas O n = false) {w : Int} (hw : w = 0 ∨ w = 6) (num : Int) :
    Ok (m_law_asked F w n S num) fun r => ∃ O', FR r.2 O' ∧ GO ns fs' ms O' ∧ O'.map (·.1) = O.map (·.1) ++ [n] := by
  obtain ⟨rfl, l1, l2, l3, _, _, _⟩ := hS
  have gb := g.gb l1 l3
  have hd : ∀ {f : Str} {l : List Str}, f ∈ fs' → (∀ w, w ∈ l → w ∈ ms) → l.length ≤ 6 → GO ns fs' ms (O ++ [(n, (f, ssetT l))]) := fun {f l} a b c => g.do (d := .add n f l) ⟨nn, a, b, c⟩ (by unfold due Dd.name Dd.isAdd; rw [hn]; rfl)
  unfold m_law_asked
  rcases hw with rfl | rfl
  · refine .ifT (by decide) (ixB (by decide) rfl (.idx (by omega) (by omega) fun f hfm _ => ixB (by decide) rfl (.idx (by omega) (by omega) fun m hm _ => ?_)))
    refine .bind (addL_ok (ms := [m]) h gb hn (by simp)) fun F' hF => .ret ⟨_, hF, hd (hf f hfm) (fun w hw => by rw [List.mem_singleton] at hw; subst hw; exact hm) (by simp), by rw [List.map_append]; rfl⟩
  · refine .ifF (by decide) (.ifF (by decide) (.ifF (by decide) (.ifF (by decide) (.ifF (by decide) (.ifF (by decide) (.ifT (by decide) ?_))))))
    refine .bind (addN_ok h gb hn) fun F' hF => .ret ⟨_, hF, ?_, by rw [List.map_append]; rfl⟩
    have := hd (l := []) hi (fun _ h => (nomatch h)) (by decide)
    rw [sset_nil] at this; exact this
theorem asked_rest {S : List (List Str)} {ns fs ms fs' : List Str} (hS : Some31 S ns fs ms) (hf : ∀ f, f ∈ fs → f ∈ fs') {F : Folders} {O : Own} (h : FR F O) (g : GO ns fs' ms O) {n : Str} (nn : n ∈ ns) (hn : dhas O n = true) {w : Int} (hw : Rest w) (num : Int) :
    Ok (m_law_asked F w n S num) fun r => ∃ O', FR r.2 O' ∧ GO ns fs' ms O' ∧ O'.map (·.1) = if w = 1 then (ddrop O n).map (·.1) else O.map (·.1) := by
  obtain ⟨rfl, l1, l2, l3, _, _, _⟩ := hS
  have gb := g.gb l1 l3
  obtain ⟨⟨f0, M⟩, hv⟩ := dhas_get hn
  have du : ∀ d : Dd, d.name = n → d.isAdd = false → due O d = true := fun d e1 e2 => by unfold due; rw [e1, e2, hn]; rfl
  have kp : ∀ v, (dput O n v).map (·.1) = O.map (·.1) := fun v => by rw [keys_dput, if_pos hn]
  unfold m_law_asked
  rcases hw with rfl | rfl | rfl | rfl | rfl | rfl
  · refine .ifF (by decide) (.ifT (by decide) (.bind (take_ok h gb hv) fun F' hF => .ret ⟨_, hF, g.do (d := .take n) nn (du _ rfl rfl), ?_⟩))
    rw [if_pos rfl]
  · refine .ifF (by decide) (.ifF (by decide) (.ifT (by decide) (ixB (by decide) rfl (.idx (by omega) (by omega) fun f hfm _ => .bind (place_ok h gb hv) fun F' hF => .ret ⟨_, hF, ?_, ?_⟩))))
    · have := g.do (d := .place n f) ⟨nn, hf f hfm⟩ (du _ rfl rfl)
      rw [doO_place hv] at this; exact this
    · rw [if_neg (by decide)]; exact kp _
  · refine .ifF (by decide) (.ifF (by decide) (.ifF (by decide) (.ifT (by decide) (ixB (by decide) rfl (.idx (by omega) (by omega) fun m hm _ => .bind (mark_ok h gb hv) fun F' hF => .ret ⟨_, hF, ?_, ?_⟩)))))
    · have := g.do (d := .mark n m) ⟨nn, hm⟩ (du _ rfl rfl)
      rw [doO_mark hv] at this; exact this
    · rw [if_neg (by decide)]; exact kp _
  · refine .ifF (by decide) (.ifF (by decide) (.ifF (by decide) (.ifF (by decide) (.ifT (by decide) (ixB (by decide) rfl (.idx (by omega) (by omega) fun m hm _ => .bind (unmark_ok h gb hv) fun F' hF => .ret ⟨_, hF, ?_, ?_⟩))))))
    · have := g.do (d := .unmark n m) ⟨nn, hm⟩ (du _ rfl rfl)
      rw [doO_unmark hv] at this; exact this
    · rw [if_neg (by decide)]; exact kp _
  · refine .ifF (by decide) (.ifF (by decide) (.ifF (by decide) (.ifF (by decide) (.ifF (by decide) (.ifT (by decide) (.bindE (folder_ok h hv) (.ret ⟨_, h, g, ?_⟩)))))))
    rw [if_neg (by decide)]
  · refine .ifF (by decide) (.ifF (by decide) (.ifF (by decide) (.ifF (by decide) (.ifF (by decide) (.ifF (by decide) (.ifF (by decide) (.bindE (marks_ok h gb hv) (.ret ⟨_, h, g, ?_⟩))))))))
    rw [if_neg (by decide)]
theorem goes_of {F : Folders} {w : Int} {n : Str} {S : List (List Str)} {num : Int} {Q : Folders → Prop} (h : Ok (m_law_asked F w n S num) fun r => Q r.2) : Ok (m_law_goes F w n S num) fun r => r.1 = true ∧ Q r.2 := by
  obtain ⟨r, e, q⟩ := h
  unfold m_law_goes
  rw [e]
  exact .ret ⟨rfl, q⟩
theorem goes_add {S : List (List Str)} {ns fs ms fs' : List Str} (hS : Some31 S ns fs ms) (hf : ∀ f, f ∈ fs → f ∈ fs') (hi : ("inbox" : Str) ∈ fs') {F : Folders} {O : Own} (h : FR F O) (g : GO ns fs' ms O) {n : Str} (nn : n ∈ ns) (hn : dhas O n = false) {w : Int} (hw : w = 0 ∨ w = 6) (num : Int) :
    Ok (m_law_goes F w n S num) fun r => r.1 = true ∧ ∃ O', FR r.2 O' ∧ GO ns fs' ms O' ∧ O'.map (·.1) = O.map (·.1) ++ [n] :=
  goes_of (Q := fun F' => ∃ O', FR F' O' ∧ GO ns fs' ms O' ∧ O'.map (·.1) = O.map (·.1) ++ [n]) (asked_add hS hf hi h g nn hn hw num)
theorem goes_rest {S : List (List Str)} {ns fs ms fs' : List Str} (hS : Some31 S ns fs ms) (hf : ∀ f, f ∈ fs → f ∈ fs') {F : Folders} {O : Own} (h : FR F O) (g : GO ns fs' ms O) {n : Str} (nn : n ∈ ns) (hn : dhas O n = true) {w : Int} (hw : Rest w) (num : Int) :
    Ok (m_law_goes F w n S num) fun r => r.1 = true ∧ ∃ O', FR r.2 O' ∧ GO ns fs' ms O' ∧ O'.map (·.1) = if w = 1 then (ddrop O n).map (·.1) else O.map (·.1) :=
  goes_of (Q := fun F' => ∃ O', FR F' O' ∧ GO ns fs' ms O' ∧ O'.map (·.1) = if w = 1 then (ddrop O n).map (·.1) else O.map (·.1)) (asked_rest hS hf h g nn hn hw num)
theorem does_add {F : Folders} {O : Own} (h : FR F O) (gb : GB O) {n f : Str} {l : List Str} (hn : dhas O n = false) (hl : l.length ≤ 60) : Ok (m_law_does F (Dd.add n f l).any false) fun F' => FR F' (O ++ [(n, (f, ssetT l))]) := by
  unfold m_law_does
  dsimp only [Dd.any]
  refine tupB (ixB (by decide) rfl ?_)
  refine kwB a_add a_add ?_
  refine .bind (Q := fun z => z = false) (.ifT (by decide +kernel) (.bind (Q := fun z => z = false) (.ifF (by decide) (.ret rfl)) fun z hz => .ret hz)) fun z hz => ?_
  subst hz
  refine .ifF (by decide) ?_
  refine tupB (ixB (by decide) rfl ?_)
  refine kwB a_add a_add (.ite (fun c2 => ?_) fun c2 => ?_)
  · refine tupB (ixB (by decide) rfl ?_)
    refine tupB (ixB (by decide) rfl ?_)
    refine tupB (ixB (by decide) rfl ?_)
    exact strB (strB (.bind (addA_ok h gb hn hl) fun F' h => .ret h))
  · refine tupB (ixB (by decide) rfl ?_)
    refine kwB a_add a_add (.ifT (by decide +kernel) ?_)
    refine tupB (ixB (by decide) rfl ?_)
    refine .bindE (strs_any l) ?_
    refine tupB (ixB (by decide) rfl ?_)
    refine tupB (ixB (by decide) rfl ?_)
    exact strB (strB (.bind (addL_ok h gb hn hl) fun F' h => .need (lt_line (m := 60) (by omega) (by decide)) (.ret h)))
theorem dhas_keys {A B : Own} (p : (A.map (·.1)).Perm (B.map (·.1))) (n : Str) : dhas A n = dhas B n := by
  rw [Bool.eq_iff_iff, dhas_iff, dhas_iff]; exact p.mem_iff
structure W32 (ns fs ms : List Str) (s : Folders × Own) : Prop where
  ex : ∃ O, FR s.1 O ∧ GO ns fs ms O ∧ (s.2.map (·.1)).Perm (O.map (·.1))
theorem law_ok (s : Script) (_ : s.ns.length ≤ 63) : m_law s = .ok true := by
  refine Ok.eq ?_
  unfold m_law
  refine .bind (m_law_row_ok s (n := 60) (by decide) (by decide)) fun row ⟨lr, hr⟩ => ?_
  have lr : row.length = 60 := by rw [lr]; rfl
  refine .idx (by decide) (by omega) fun b0 hb _ => .bind (some_ok (hr b0 hb)) fun S ⟨ns, fs, ms, hS⟩ => ?_
  obtain ⟨eS, l1, l2, l3, wn, wf, wm⟩ := id hS
  subst eS
  have hf : ∀ f, f ∈ fs → f ∈ ("inbox" : Str) :: fs := fun f h => List.mem_cons_of_mem _ h
  have hi : ("inbox" : Str) ∈ ("inbox" : Str) :: fs := by simp
  have wf2 : ∀ f, f ∈ ("inbox" : Str) :: fs → isWord f = true := fun f h => by
    rcases List.mem_cons.mp h with rfl | h
    · decide +kernel
    · exact wf f h
  obtain ⟨F0, e0, f0⟩ := init_ok
  refine .bindE e0 (.idx (by decide) (by omega) fun x10 _ _ => .need (by omega) ?_)
  refine .forK (fun s => FR s.1 s.2 ∧ GO ns (("inbox" : Str) :: fs) ms s.2) ⟨f0, List.nodup_nil, fun _ h => (nomatch h)⟩ (fun x st hx ⟨h, g⟩ => ?_) fun st ⟨h, g⟩ => ?_
  · have hx := rngL_mem hx
    have hx1 : 0 ≤ x := hx.1
    have hx2 : x < 9 := by omega
    refine ixB (by decide) rfl (.idx (by omega) (by omega) fun x25 _ _ => .idx (by omega) (by omega) fun n hn _ => ixB (by decide) rfl (.idx (by omega) (by omega) fun x35 _ _ => .idx (by omega) (by omega) fun f hfm _ => ixB (by decide) rfl (.idx (by omega) (by omega) fun x46 _ _ => ?_)))
    refine .bind (Q := fun s => FR s.1 s.2 ∧ GO ns (("inbox" : Str) :: fs) ms s.2) (.ite (fun c => ?_) fun _ => .ret ⟨h, g⟩) fun s hs => .ret hs
    have c : dhas st.2 n = false := by simpa using c
    have hl : (cutL ms none (some (x46 % 4))).length ≤ 6 := Nat.le_trans cutL_len (by omega)
    have hd : (Dd.add n f (cutL ms none (some (x46 % 4)))).ok ns (("inbox" : Str) :: fs) ms := ⟨hn, hf f hfm, fun w hw => cutL_mem hw, hl⟩
    have hu : due st.2 (Dd.add n f (cutL ms none (some (x46 % 4)))) = true := by unfold due Dd.name Dd.isAdd; rw [c]; rfl
    refine .bind (does_add (l := cutL ms none (some (x46 % 4))) (n := n) (f := f) h (g.gb l1 l3) c (by omega)) fun F' hF => ?_
    refine .bindE (done_ok g l1 l3 wm hd hu) (.ret ⟨hF, g.do hd hu⟩)
  refine .need (by split <;> omega) (.forFK (fun s => W32 ns (("inbox" : Str) :: fs) ms s) ⟨st.2, h, g, List.Perm.refl _⟩ (fun x s hx W => ?_) fun _ _ => .ret rfl)
  have hx := rngL_mem hx
  have hx1 : 0 ≤ x := hx.1
  have hx2 : x < 20 := by
    have := hx.2
    split at this <;> omega
  obtain ⟨F, own⟩ := s
  obtain ⟨O, h, g, po⟩ := W
  dsimp only at h po
  have few := g.few l1
  have lo : own.length ≤ 9 := by
    have := po.length_eq
    rw [List.length_map, List.length_map] at this; omega
  refine .idx (by omega) (by omega) fun num _ _ => ixB (by decide) rfl (.idx (by omega) (by omega) fun n hn _ => .name fun way hway => ?_)
  have hk : dhas own n = dhas O n := dhas_keys po n
  have w0 : 0 ≤ way := by rw [hway]; omega
  have w8 : way < 8 := by rw [hway]; omega
  refine .bind (Q := fun w => (dhas O n = true ∧ (w = 0 ∨ w = 6)) ∨ (dhas O n = false ∧ Rest w)) (.ite (fun c => ?_) fun c => .ret ?_) fun w hw => ?_
  · dsimp only
    rw [hk]
    cases e : dhas O n with
    | true =>
      have : num / 72 % 2 = 0 ∨ num / 72 % 2 = 1 := by omega
      simp only [if_true]
      rcases this with z | z <;> rw [z]
      · exact ixB (x := 0) (by decide) rfl (.ret (.inl ⟨by simp, .inl rfl⟩))
      · exact ixB (x := 6) (by decide) rfl (.ret (.inl ⟨by simp, .inr rfl⟩))
    | false =>
      have : num / 72 % 6 = 0 ∨ num / 72 % 6 = 1 ∨ num / 72 % 6 = 2 ∨ num / 72 % 6 = 3 ∨ num / 72 % 6 = 4 ∨ num / 72 % 6 = 5 := by omega
      simp only [Bool.false_eq_true, if_false]
      rcases this with z | z | z | z | z | z <;> rw [z]
      · exact ixB (x := 1) (by decide) rfl (.ret (.inr ⟨by simp, .inl rfl⟩))
      · exact ixB (x := 2) (by decide) rfl (.ret (.inr ⟨by simp, .inr (.inl rfl)⟩))
      · exact ixB (x := 3) (by decide) rfl (.ret (.inr ⟨by simp, .inr (.inr (.inl rfl))⟩))
      · exact ixB (x := 4) (by decide) rfl (.ret (.inr ⟨by simp, .inr (.inr (.inr (.inl rfl)))⟩))
      · exact ixB (x := 5) (by decide) rfl (.ret (.inr ⟨by simp, .inr (.inr (.inr (.inr (.inl rfl))))⟩))
      · exact ixB (x := 7) (by decide) rfl (.ret (.inr ⟨by simp, .inr (.inr (.inr (.inr (.inr rfl))))⟩))
  · have c : dhas O n = decide (way % 6 = 0) := by
      dsimp only at c
      rw [hk] at c
      simpa using c
    cases e : dhas O n with
    | true =>
      rw [e] at c
      have c := of_decide_eq_true c.symm
      exact .inl ⟨rfl, by omega⟩
    | false =>
      rw [e] at c
      have c := of_decide_eq_false c.symm
      exact .inr ⟨rfl, by unfold Rest; omega⟩
  have p1 : FP F O := ⟨⟨O, h, List.Perm.refl _⟩, g.nd, g.gb l1 l3⟩
  have sn := seen_ok hS p1 po few
  have rf : m_law_refused F w n [ns, fs, ms] num = .ok (true, F) := refused_of (by
    rcases hw with ⟨e, hw⟩ | ⟨e, hw⟩
    · exact asked_there hS h e hw num
    · exact asked_not hS h e hw num)
  refine .bindE sn (.bindE (odd_ok hS F num) ?_)
  refine .forK (fun s => s = (F, true)) rfl (fun _ s _ hs => ?_) fun s hs => ?_
  · subst hs
    exact .bind2 (Z := fun z => z = (F, true)) (.ifT rfl (.bindE rf (.ret rfl))) fun a b hz => .ret hz
  subst hs
  refine .bind (Q := fun b => b = false) (.ifF (by simp) (.bindE sn (.bindE (seen_self wn wf2 wm g fs) (.ret rfl)))) fun b hb => ?_
  subst hb
  refine .ifF (by decide) ?_
  rcases hw with ⟨e, hw⟩ | ⟨e, hw⟩
  · have w6 : w % 6 = 0 := by omega
    have w1 : ¬ w = 1 := by omega
    obtain ⟨⟨fv, Mv⟩, hv⟩ := dhas_get e
    obtain ⟨ov, hov⟩ := dhas_get (hk.trans e)
    have gd := g.do (d := .take n) hn (by unfold due Dd.name Dd.isAdd; rw [e]; rfl)
    have no : dhas (ddrop O n) n = false := dhas_false.mpr fun q => (mem_kdrop.mp q).2 rfl
    have no2 : dhas (ddrop own n) n = false := dhas_false.mpr fun q => (mem_kdrop.mp q).2 rfl
    refine .bind (Q := fun s => FR s.1 (ddrop O n) ∧ s.2 = ddrop own n) (.ifT (decide_eq_true w6) (.bind (take_ok h (g.gb l1 l3) hv) fun F1 h1 => .bindE (dgetR_ok hov) (.ret ⟨h1, rfl⟩))) fun s ⟨h1, e1⟩ => ?_
    obtain ⟨F1, o1⟩ := s
    dsimp only at h1 e1
    subst e1
    refine .ifT (by rw [decide_eq_true w6]; rfl) (.bind (goes_add hS hf hi h1 gd hn no hw num) fun r ⟨r1, O', h2, g2, k2⟩ => .ifF (by rw [r1]; decide) ?_)
    have ld := len_ddrop own n
    refine .bind (Q := fun o => o = ddrop own n ++ [(n, (("" : Str), []))]) (.ifT (decide_eq_true w6) (.need (lt_line (m := 9) (by dsimp only; omega) (by decide)) (.need no2 (.ret rfl)))) fun o ho => ?_
    subst ho
    refine .bind (Q := fun o => o = ddrop own n ++ [(n, (("" : Str), []))]) (.ifF (by simpa using w1) (.ret rfl)) fun o ho => .ret ⟨_, rfl, O', h2, g2, ?_⟩
    subst ho
    dsimp only
    rw [k2, List.map_append, keys_ddrop, keys_ddrop]
    exact (po.filter _).append_right _
  · have w6 : ¬ w % 6 = 0 := by unfold Rest at hw; omega
    by_cases c : num / 432 % 2 = 0
    · have du : due O (Dd.add n ("inbox" : Str) []) = true := by unfold due Dd.name Dd.isAdd; rw [e]; rfl
      have ga : GO ns (("inbox" : Str) :: fs) ms (O ++ [(n, (("inbox" : Str), []))]) := by
        have := g.do (d := .add n ("inbox" : Str) []) ⟨hn, hi, fun _ h => (nomatch h), by decide⟩ du
        rw [show doO O (Dd.add n ("inbox" : Str) []) = O ++ [(n, (("inbox" : Str), ssetT []))] from rfl, sset_nil] at this
        exact this
      have ha : dhas (O ++ [(n, (("inbox" : Str), ([] : List Str)))]) n = true := dhas_mid (A := O) (B := [])
      refine .bind (Q := fun s => FR s.1 (O ++ [(n, (("inbox" : Str), []))]) ∧ s.2 = own ++ [(n, (("inbox" : Str), []))]) (.ifF (by simpa using w6) (.bind (Q := fun s => FR s.1 (O ++ [(n, (("inbox" : Str), []))]) ∧ s.2 = own ++ [(n, (("inbox" : Str), []))]) (.ifT (decide_eq_true c) (.bind (addN_ok h (g.gb l1 l3) e) fun F1 h1 => .need (lt_line (m := 9) (by dsimp only; omega) (by decide)) (.need (hk.trans e) (.ret ⟨h1, rfl⟩)))) fun s h => .ret h)) fun s ⟨h1, e1⟩ => ?_
      obtain ⟨F1, o1⟩ := s
      dsimp only at h1 e1
      subst e1
      refine .ifT (by rw [decide_eq_true c, Bool.or_true]) (.bind (goes_rest hS hf h1 ga hn ha hw num) fun r ⟨r1, O', h2, g2, k2⟩ => .ifF (by rw [r1]; decide) ?_)
      refine .bind (Q := fun o => o = own ++ [(n, (("inbox" : Str), []))]) (.ifF (by simpa using w6) (.ret rfl)) fun o ho => ?_
      subst ho
      have pa : ((own ++ [(n, (("inbox" : Str), ([] : List Str)))]).map (·.1)).Perm ((O ++ [(n, (("inbox" : Str), ([] : List Str)))]).map (·.1)) := by
        rw [List.map_append, List.map_append]; exact po.append_right _
      by_cases c1 : w = 1
      · rw [if_pos c1] at k2
        have hgo : dget (own ++ [(n, (("inbox" : Str), ([] : List Str)))]) n = some (("inbox" : Str), []) := last_get (dhas_false.mp (hk.trans e))
        refine .bind (Q := fun o => o = ddrop (own ++ [(n, (("inbox" : Str), []))]) n) (.ifT (decide_eq_true c1) (.bindE (dgetR_ok hgo) (.ret rfl))) fun o ho => .ret ⟨_, rfl, O', h2, g2, ?_⟩
        subst ho
        dsimp only
        rw [k2, keys_ddrop, keys_ddrop]
        exact pa.filter _
      · rw [if_neg c1] at k2
        refine .bind (Q := fun o => o = own ++ [(n, (("inbox" : Str), []))]) (.ifF (by simpa using c1) (.ret rfl)) fun o ho => .ret ⟨_, rfl, O', h2, g2, ?_⟩
        subst ho
        dsimp only
        rw [k2]; exact pa
    · refine .bind (Q := fun s => s = (F, own)) (.ifF (by simpa using w6) (.bind (Q := fun s => s = (F, own)) (.ifF (by simpa using c) (.ret rfl)) fun s h => .ret h)) fun s hs => ?_
      subst hs
      exact .ifF (by simp [w6, c]) (.ret ⟨_, rfl, O, h, g, po⟩)
end Lw
namespace Lw
open PySem PySem.Spec PyProof.Rows L2 Ml
def FoldersA {G : Gx} (a : Addr) (x : Folders) : Asn G := exA fun (dx : Addr) => exA fun (p_boxes : Addr) => exA fun (p_tags : Addr) => exA fun (p_sums : Addr) => exA fun (p_tallies : Addr) => star [cell a (.ins (G.cl 7) dx [("boxes", .ref p_boxes), ("tags", .ref p_tags), ("sums", .ref p_sums), ("tallies", .ref p_tallies)]), dictA p_boxes (x.boxes : (List (Str × Str))), dictE dictA p_tags (x.tags : (List (Str × (List (Str × Bool))))), dictA p_sums (x.sums : (List (Str × (Int × Int)))), dictT p_tallies (x.tallies : (List (Kt × Int)))]
theorem open_Folders {G : Gx} {H : Hp} {a : Addr} {x : Folders} {M : List (Asn G)} (h : Sep H (FoldersA a x :: M)) : ∃ (dx : Addr) (p_boxes : Addr) (p_tags : Addr) (p_sums : Addr) (p_tallies : Addr), Sep H ([cell a (.ins (G.cl 7) dx [("boxes", .ref p_boxes), ("tags", .ref p_tags), ("sums", .ref p_sums), ("tallies", .ref p_tallies)]), dictA p_boxes (x.boxes : (List (Str × Str))), dictE dictA p_tags (x.tags : (List (Str × (List (Str × Bool))))), dictA p_sums (x.sums : (List (Str × (Int × Int)))), dictT p_tallies (x.tallies : (List (Kt × Int)))] ++ M : List (Asn G)) := by
  unfold FoldersA at h
  obtain ⟨dx, h⟩ := Sep.ex h
  obtain ⟨p_boxes, h⟩ := Sep.ex h
  obtain ⟨p_tags, h⟩ := Sep.ex h
  obtain ⟨p_sums, h⟩ := Sep.ex h
  obtain ⟨p_tallies, h⟩ := Sep.ex h
  exact ⟨dx, p_boxes, p_tags, p_sums, p_tallies, Sep.star1 h⟩
theorem ins_Folders {G : Gx} {H : Hp} {L : List (Asn G)} {i : Nat} {a : Addr} {x : Folders} (h : Sep H L) (e : L[i]? = some (FoldersA a x)) : ∃ (dx : Addr) (p_boxes : Addr) (p_tags : Addr) (p_sums : Addr) (p_tallies : Addr), H a = some (.ins (G.cl 7) dx [("boxes", .ref p_boxes), ("tags", .ref p_tags), ("sums", .ref p_sums), ("tallies", .ref p_tallies)]) := by
  obtain ⟨fp, dx, p_boxes, p_tags, p_sums, p_tallies, f1, f2, _, ⟨_, hO⟩, _⟩ := h.at e
  exact ⟨dx, p_boxes, p_tags, p_sums, p_tallies, hO⟩
theorem pack_Folders {G : Gx} {H : Hp} {a : Addr} {x : Folders} {M : List (Asn G)} {dx : Addr} {p_boxes : Addr} {p_tags : Addr} {p_sums : Addr} {p_tallies : Addr} (h : Sep H ([cell a (.ins (G.cl 7) dx [("boxes", .ref p_boxes), ("tags", .ref p_tags), ("sums", .ref p_sums), ("tallies", .ref p_tallies)]), dictA p_boxes (x.boxes : (List (Str × Str))), dictE dictA p_tags (x.tags : (List (Str × (List (Str × Bool))))), dictA p_sums (x.sums : (List (Str × (Int × Int)))), dictT p_tallies (x.tallies : (List (Kt × Int)))] ++ M : List (Asn G))) : Sep H (FoldersA a x :: M) := Sep.exI dx (Sep.exI p_boxes (Sep.exI p_tags (Sep.exI p_sums (Sep.exI p_tallies (Sep.unstar1 h)))))
structure Txt (G : Gx) (mg : Str → Option Value) where
  a_Folders___init__ : Addr
  fd_Folders___init__ : FuncData
  F_Folders___init__ : Fun G.K "__init__" "Folders.__init__" s_Folders___init__ a_Folders___init__ fd_Folders___init__
  b_Folders___init__ : Binds G.K fd_Folders___init__ ["self"] []
  kp_Folders___init__ : PySem.W.keepIn G.K (.ref a_Folders___init__) = true
  k_Folders : Mk G.K (G.cl 7) a_Folders___init__
  a_Folders_need : Addr
  fd_Folders_need : FuncData
  F_Folders_need : Fun G.K "need" "Folders.need" s_Folders_need a_Folders_need fd_Folders_need
  b_Folders_need : Binds G.K fd_Folders_need ["self", "name"] []
  kp_Folders_need : PySem.W.keepIn G.K (.ref a_Folders_need) = true
  m_Folders_need : Meth G.K (G.cl 7) "need" a_Folders_need
  a_Folders_tally : Addr
  fd_Folders_tally : FuncData
  F_Folders_tally : Fun G.K "tally" "Folders.tally" s_Folders_tally a_Folders_tally fd_Folders_tally
  b_Folders_tally : Binds G.K fd_Folders_tally ["self", "box", "word", "step"] []
  kp_Folders_tally : PySem.W.keepIn G.K (.ref a_Folders_tally) = true
  m_Folders_tally : Meth G.K (G.cl 7) "tally" a_Folders_tally
  a_Folders_shift : Addr
  fd_Folders_shift : FuncData
  F_Folders_shift : Fun G.K "shift" "Folders.shift" s_Folders_shift a_Folders_shift fd_Folders_shift
  b_Folders_shift : Binds G.K fd_Folders_shift ["self", "name", "step"] []
  kp_Folders_shift : PySem.W.keepIn G.K (.ref a_Folders_shift) = true
  m_Folders_shift : Meth G.K (G.cl 7) "shift" a_Folders_shift
  a_Folders_add : Addr
  fd_Folders_add : FuncData
  F_Folders_add : FunD G.K "add" "Folders.add" (defArgs s_Folders_add) (defBody s_Folders_add) (defScope s_Folders_add) [.str ("inbox" : Str), .non] [] a_Folders_add fd_Folders_add
  b_Folders_add : Binds G.K fd_Folders_add ["self", "name", "folder", "marks"] []
  kp_Folders_add : PySem.W.keepIn G.K (.ref a_Folders_add) = true
  ds_Folders_add_2 : List Value
  bd_Folders_add_2 : Vals (([.str ("inbox" : Str), .non] : List V).drop 0) ds_Folders_add_2 ∧ Binds G.K fd_Folders_add ["self", "name", "folder", "marks"] ds_Folders_add_2
  ds_Folders_add_3 : List Value
  bd_Folders_add_3 : Vals (([.str ("inbox" : Str), .non] : List V).drop 1) ds_Folders_add_3 ∧ Binds G.K fd_Folders_add ["self", "name", "folder", "marks"] ds_Folders_add_3
  m_Folders_add : Meth G.K (G.cl 7) "add" a_Folders_add
  a_Folders_take_out : Addr
  fd_Folders_take_out : FuncData
  F_Folders_take_out : Fun G.K "take_out" "Folders.take_out" s_Folders_take_out a_Folders_take_out fd_Folders_take_out
  b_Folders_take_out : Binds G.K fd_Folders_take_out ["self", "name"] []
  kp_Folders_take_out : PySem.W.keepIn G.K (.ref a_Folders_take_out) = true
  m_Folders_take_out : Meth G.K (G.cl 7) "take_out" a_Folders_take_out
  a_Folders_place : Addr
  fd_Folders_place : FuncData
  F_Folders_place : Fun G.K "place" "Folders.place" s_Folders_place a_Folders_place fd_Folders_place
  b_Folders_place : Binds G.K fd_Folders_place ["self", "name", "folder"] []
  kp_Folders_place : PySem.W.keepIn G.K (.ref a_Folders_place) = true
  m_Folders_place : Meth G.K (G.cl 7) "place" a_Folders_place
  a_Folders_mark : Addr
  fd_Folders_mark : FuncData
  F_Folders_mark : Fun G.K "mark" "Folders.mark" s_Folders_mark a_Folders_mark fd_Folders_mark
  b_Folders_mark : Binds G.K fd_Folders_mark ["self", "name", "word"] []
  kp_Folders_mark : PySem.W.keepIn G.K (.ref a_Folders_mark) = true
  m_Folders_mark : Meth G.K (G.cl 7) "mark" a_Folders_mark
  a_Folders_unmark : Addr
  fd_Folders_unmark : FuncData
  F_Folders_unmark : Fun G.K "unmark" "Folders.unmark" s_Folders_unmark a_Folders_unmark fd_Folders_unmark
  b_Folders_unmark : Binds G.K fd_Folders_unmark ["self", "name", "word"] []
  kp_Folders_unmark : PySem.W.keepIn G.K (.ref a_Folders_unmark) = true
  m_Folders_unmark : Meth G.K (G.cl 7) "unmark" a_Folders_unmark
  a_Folders_folder : Addr
  fd_Folders_folder : FuncData
  F_Folders_folder : Fun G.K "folder" "Folders.folder" s_Folders_folder a_Folders_folder fd_Folders_folder
  b_Folders_folder : Binds G.K fd_Folders_folder ["self", "name"] []
  kp_Folders_folder : PySem.W.keepIn G.K (.ref a_Folders_folder) = true
  m_Folders_folder : Meth G.K (G.cl 7) "folder" a_Folders_folder
  a_Folders_marks : Addr
  fd_Folders_marks : FuncData
  F_Folders_marks : Fun G.K "marks" "Folders.marks" s_Folders_marks a_Folders_marks fd_Folders_marks
  b_Folders_marks : Binds G.K fd_Folders_marks ["self", "name"] []
  kp_Folders_marks : PySem.W.keepIn G.K (.ref a_Folders_marks) = true
  m_Folders_marks : Meth G.K (G.cl 7) "marks" a_Folders_marks
  a_Folders_counts : Addr
  fd_Folders_counts : FuncData
  F_Folders_counts : Fun G.K "counts" "Folders.counts" s_Folders_counts a_Folders_counts fd_Folders_counts
  b_Folders_counts : Binds G.K fd_Folders_counts ["self", "folder"] []
  kp_Folders_counts : PySem.W.keepIn G.K (.ref a_Folders_counts) = true
  m_Folders_counts : Meth G.K (G.cl 7) "counts" a_Folders_counts
  a_Folders_marked : Addr
  fd_Folders_marked : FuncData
  F_Folders_marked : Fun G.K "marked" "Folders.marked" s_Folders_marked a_Folders_marked fd_Folders_marked
  b_Folders_marked : Binds G.K fd_Folders_marked ["self", "folder", "word"] []
  kp_Folders_marked : PySem.W.keepIn G.K (.ref a_Folders_marked) = true
  m_Folders_marked : Meth G.K (G.cl 7) "marked" a_Folders_marked
  a_Folders_names : Addr
  fd_Folders_names : FuncData
  F_Folders_names : Fun G.K "names" "Folders.names" s_Folders_names a_Folders_names fd_Folders_names
  b_Folders_names : Binds G.K fd_Folders_names ["self", "folder"] []
  kp_Folders_names : PySem.W.keepIn G.K (.ref a_Folders_names) = true
  m_Folders_names : Meth G.K (G.cl 7) "names" a_Folders_names
  a_Folders_folders : Addr
  fd_Folders_folders : FuncData
  F_Folders_folders : Fun G.K "folders" "Folders.folders" s_Folders_folders a_Folders_folders fd_Folders_folders
  b_Folders_folders : Binds G.K fd_Folders_folders ["self"] []
  kp_Folders_folders : PySem.W.keepIn G.K (.ref a_Folders_folders) = true
  m_Folders_folders : Meth G.K (G.cl 7) "folders" a_Folders_folders
  a_law_row : Addr
  fd_law_row : FuncData
  F_law_row : Fun G.K "_law_row" "_law_row" s_law_row a_law_row fd_law_row
  b_law_row : Binds G.K fd_law_row ["_law_script", "_law_many"] []
  kp_law_row : PySem.W.keepIn G.K (.ref a_law_row) = true
  g_law_row : mg "_law_row" = some (.ref a_law_row)
  a_law_word : Addr
  fd_law_word : FuncData
  F_law_word : Fun G.K "_law_word" "_law_word" s_law_word a_law_word fd_law_word
  b_law_word : Binds G.K fd_law_word ["_law_base", "_law_turn"] []
  kp_law_word : PySem.W.keepIn G.K (.ref a_law_word) = true
  g_law_word : mg "_law_word" = some (.ref a_law_word)
  a_law_done : Addr
  fd_law_done : FuncData
  F_law_done : Fun G.K "_law_done" "_law_done" s_law_done a_law_done fd_law_done
  b_law_done : Binds G.K fd_law_done ["_law_own", "_law_deed_here"] []
  kp_law_done : PySem.W.keepIn G.K (.ref a_law_done) = true
  g_law_done : mg "_law_done" = some (.ref a_law_done)
  a_law_does : Addr
  fd_law_does : FuncData
  F_law_does : Fun G.K "_law_does" "_law_does" s_law_does a_law_does fd_law_does
  b_law_does : Binds G.K fd_law_does ["_law_folders", "_law_deed_here", "_law_defaults"] []
  kp_law_does : PySem.W.keepIn G.K (.ref a_law_does) = true
  g_law_does : mg "_law_does" = some (.ref a_law_does)
  a_law_some : Addr
  fd_law_some : FuncData
  F_law_some : Fun G.K "_law_some" "_law_some" s_law_some a_law_some fd_law_some
  b_law_some : Binds G.K fd_law_some ["_law_base"] []
  kp_law_some : PySem.W.keepIn G.K (.ref a_law_some) = true
  g_law_some : mg "_law_some" = some (.ref a_law_some)
  a_law_of_one_class : Addr
  fd_law_of_one_class : FuncData
  F_law_of_one_class : Fun G.K "_law_of_one_class" "_law_of_one_class" s_law_of_one_class a_law_of_one_class fd_law_of_one_class
  b_law_of_one_class : Binds G.K fd_law_of_one_class ["_law_e"] []
  kp_law_of_one_class : PySem.W.keepIn G.K (.ref a_law_of_one_class) = true
  g_law_of_one_class : mg "_law_of_one_class" = some (.ref a_law_of_one_class)
  a_law_asked : Addr
  fd_law_asked : FuncData
  F_law_asked : Fun G.K "_law_asked" "_law_asked" s_law_asked a_law_asked fd_law_asked
  b_law_asked : Binds G.K fd_law_asked ["_law_folders", "_law_way", "_law_name", "_law_some_here", "_law_number"] []
  kp_law_asked : PySem.W.keepIn G.K (.ref a_law_asked) = true
  g_law_asked : mg "_law_asked" = some (.ref a_law_asked)
  a_law_refused : Addr
  fd_law_refused : FuncData
  F_law_refused : Fun G.K "_law_refused" "_law_refused" s_law_refused a_law_refused fd_law_refused
  b_law_refused : Binds G.K fd_law_refused ["_law_folders", "_law_way", "_law_name", "_law_some_here", "_law_number"] []
  kp_law_refused : PySem.W.keepIn G.K (.ref a_law_refused) = true
  g_law_refused : mg "_law_refused" = some (.ref a_law_refused)
  a_law_odd_refused : Addr
  fd_law_odd_refused : FuncData
  F_law_odd_refused : Fun G.K "_law_odd_refused" "_law_odd_refused" s_law_odd_refused a_law_odd_refused fd_law_odd_refused
  b_law_odd_refused : Binds G.K fd_law_odd_refused ["_law_folders", "_law_some_here", "_law_number"] []
  kp_law_odd_refused : PySem.W.keepIn G.K (.ref a_law_odd_refused) = true
  g_law_odd_refused : mg "_law_odd_refused" = some (.ref a_law_odd_refused)
  a_law_goes : Addr
  fd_law_goes : FuncData
  F_law_goes : Fun G.K "_law_goes" "_law_goes" s_law_goes a_law_goes fd_law_goes
  b_law_goes : Binds G.K fd_law_goes ["_law_folders", "_law_way", "_law_name", "_law_some_here", "_law_number"] []
  kp_law_goes : PySem.W.keepIn G.K (.ref a_law_goes) = true
  g_law_goes : mg "_law_goes" = some (.ref a_law_goes)
  a_law_seen : Addr
  fd_law_seen : FuncData
  F_law_seen : Fun G.K "_law_seen" "_law_seen" s_law_seen a_law_seen fd_law_seen
  b_law_seen : Binds G.K fd_law_seen ["_law_folders", "_law_own", "_law_some_here"] []
  kp_law_seen : PySem.W.keepIn G.K (.ref a_law_seen) = true
  g_law_seen : mg "_law_seen" = some (.ref a_law_seen)
  a_law : Addr
  fd_law : FuncData
  F_law : Fun G.K "law" "law" s_law a_law fd_law
  b_law : Binds G.K fd_law ["_law_script"] []
  kp_law : PySem.W.keepIn G.K (.ref a_law) = true
  g_law : mg "law" = some (.ref a_law)
  g_MailError : mg "MailError" = some (.ref (G.cl 0))
  ex_MailError : ∀ {i : Nat}, ([0, 1, 2, 3, 4, 5, 6] : List Nat).contains i = true → PySem.W.exmOne G.K (.ref (G.cl i)) (.ref (G.cl 0)) = some (([0, 1, 2, 3, 4, 5, 6] : List Nat).contains i)
  g_NoWord : mg "NoWord" = some (.ref (G.cl 1))
  g_NoLetter : mg "NoLetter" = some (.ref (G.cl 2))
  g_NoRule : mg "NoRule" = some (.ref (G.cl 3))
  g_NoName : mg "NoName" = some (.ref (G.cl 4))
  x_NoName : PySem.W.excIn G.K (G.cl 4) [.type "ValueError", .type "Exception", .type "BaseException", .type "object"] "ValueError.__new__" = true
  kp_NoName : PySem.W.keepIn G.K (.ref (G.cl 4)) = true
  r_NoName : ∀ {X : Cx}, X.K = G.K → Raises X (.ref (G.cl 4))
  g_NoParcel : mg "NoParcel" = some (.ref (G.cl 5))
  g_NoRow : mg "NoRow" = some (.ref (G.cl 6))
  g_Folders : mg "Folders" = some (.ref (G.cl 7))
  cl_Folders : Cls G.K (G.cl 7)
  n_Folders_boxes : NoAttr G.K (G.cl 7) "boxes"
  n_Folders_tags : NoAttr G.K (G.cl 7) "tags"
  n_Folders_sums : NoAttr G.K (G.cl 7) "sums"
  n_Folders_tallies : NoAttr G.K (G.cl 7) "tallies"
  fz_Folders : G.fz (G.cl 7) = none
  ec_ : ∀ {i : Nat}, ([0, 1, 2, 3, 4, 5, 6] : List Nat).contains i = true → ExcC G.K (G.cl i)
  ki_NoLetter : ∀ {i : Nat}, ([0, 1, 2, 3, 4, 5, 6] : List Nat).contains i = true → PySem.W.kitOne G.K (.ref (G.cl i)) (.ref (G.cl 2)) = some (([2] : List Nat).contains i)
  ki_NoName : ∀ {i : Nat}, ([0, 1, 2, 3, 4, 5, 6] : List Nat).contains i = true → PySem.W.kitOne G.K (.ref (G.cl i)) (.ref (G.cl 4)) = some (([4] : List Nat).contains i)
  ki_NoParcel : ∀ {i : Nat}, ([0, 1, 2, 3, 4, 5, 6] : List Nat).contains i = true → PySem.W.kitOne G.K (.ref (G.cl i)) (.ref (G.cl 5)) = some (([5] : List Nat).contains i)
  ki_NoRow : ∀ {i : Nat}, ([0, 1, 2, 3, 4, 5, 6] : List Nat).contains i = true → PySem.W.kitOne G.K (.ref (G.cl i)) (.ref (G.cl 6)) = some (([6] : List Nat).contains i)
  ki_NoRule : ∀ {i : Nat}, ([0, 1, 2, 3, 4, 5, 6] : List Nat).contains i = true → PySem.W.kitOne G.K (.ref (G.cl i)) (.ref (G.cl 3)) = some (([3] : List Nat).contains i)
  ki_NoWord : ∀ {i : Nat}, ([0, 1, 2, 3, 4, 5, 6] : List Nat).contains i = true → PySem.W.kitOne G.K (.ref (G.cl i)) (.ref (G.cl 1)) = some (([1] : List Nat).contains i)
  ki_ValueError : ∀ {i : Nat}, ([0, 1, 2, 3, 4, 5, 6] : List Nat).contains i = true → PySem.W.kitOne G.K (.ref (G.cl i)) (.type "ValueError") = some (([0, 1, 2, 3, 4, 5, 6] : List Nat).contains i)
  z_ValueError : mg "ValueError" = none
  z_int : mg "int" = none
  z_isinstance : mg "isinstance" = none
  z_len : mg "len" = none
  z_list : mg "list" = none
  z_min : mg "min" = none
  z_range : mg "range" = none
  z_set : mg "set" = none
  z_sorted : mg "sorted" = none
  z_str : mg "str" = none
  z_tuple : mg "tuple" = none
  t_SEEN : Tok
  c_SEEN : mg "SEEN" = some (.str ("seen" : Str) t_SEEN)
section
variable {P : Program} {w : World} {G : Gx} {mg : Str → Option Value} {base : Heap}
def sp_Folders___init__ (G : Gx) : Sp := fun vs H Q E => ∃ (a_v_self d_v_self : Addr) (F : Asn G), vs = [.ref a_v_self] ∧ Sep H ([cell a_v_self (.ins (G.cl 7) d_v_self []), F] : List (Asn G)) ∧ R.wp (m_Folders___init__ ) (fun r => ∀ H', Sep H' ([FoldersA a_v_self r, F] : List (Asn G)) → Q .non H') (fun _ => False)
abbrev N_Folders___init__ : List Str := ["self"]
theorem sc_Folders___init__ : FnScope N_Folders___init__ ["self"] (defScope s_Folders___init__) := ⟨rfl, rfl, rfl, by decide +kernel, rfl, by decide +kernel, by decide +kernel⟩
theorem ok_Folders___init__ (T : Txt G mg) : FnOk P w G.K mg base CX0 1 T.a_Folders___init__ T.fd_Folders___init__ ["self"] (sp_Folders___init__ G) := by
  have nd := sc_Folders___init__.nd
  refine Fun.ok T.F_Folders___init__ sc_Folders___init__ (fun vs H Q E h => ?_) (fun cdv A outer s H vs Q E hr h => ?_)
  · obtain ⟨a_v_self, d_v_self, F, rfl, _⟩ := h; rfl
  · obtain ⟨a_v_self, d_v_self, F, rfl, hS, hm⟩ := h
    refine ⟨_, (pss_cons (ps_fld (pv 0) pe_dnewK rfl)
      (pss_cons (ps_fld (pv 0) pe_dnewK rfl)
      (pss_cons (ps_fld (pv 0) pe_dnewK rfl)
      (pss_one (ps_fld (pv 0) pe_dnewT rfl))))), ?_⟩
    unfold m_Folders___init__ at hm
    refine f_seq ?_
    refine c_sfld ?_
    refine k_dnew (κ := Str) (β := Str) hS fun p1 H hS => ?_
    refine ev_to (ev_var rfl) ?_
    refine k_sfld (fs' := [("boxes", (.ref p1))]) hS (i := 1) rfl T.cl_Folders T.n_Folders_boxes rfl (by show 0 < 1000; decide) (by show decide (G.fz (G.cl 7) = some 1) = false; rw [T.fz_Folders]; rfl) rfl fun H hS => ?_
    have hS : Sep H ([dictA p1 (([] : (List (Str × Str))) : (List (Str × Str))), cell a_v_self (.ins (G.cl 7) d_v_self [("boxes", (.ref p1))]), F] : List (Asn G)) := hS
    refine sq_nx ?_
    refine f_seq ?_
    refine c_sfld ?_
    refine k_dnewE (κ := Str) (β := (List (Str × Bool))) (E := dictA) hS fun p2 H hS => ?_
    refine ev_to (ev_var rfl) ?_
    refine k_sfld (fs' := [("boxes", (.ref p1)), ("tags", (.ref p2))]) hS (i := 2) rfl T.cl_Folders T.n_Folders_tags rfl (by show 1 < 1000; decide) (by show decide (G.fz (G.cl 7) = some 2) = false; rw [T.fz_Folders]; rfl) rfl fun H hS => ?_
    have hS : Sep H ([dictE dictA p2 (([] : (List (Str × (List (Str × Bool))))) : (List (Str × (List (Str × Bool))))), dictA p1 (([] : (List (Str × Str))) : (List (Str × Str))), cell a_v_self (.ins (G.cl 7) d_v_self [("boxes", (.ref p1)), ("tags", (.ref p2))]), F] : List (Asn G)) := hS
    refine sq_nx ?_
    refine f_seq ?_
    refine c_sfld ?_
    refine k_dnew (κ := Str) (β := (Int × Int)) hS fun p3 H hS => ?_
    refine ev_to (ev_var rfl) ?_
    refine k_sfld (fs' := [("boxes", (.ref p1)), ("tags", (.ref p2)), ("sums", (.ref p3))]) hS (i := 3) rfl T.cl_Folders T.n_Folders_sums rfl (by show 2 < 1000; decide) (by show decide (G.fz (G.cl 7) = some 3) = false; rw [T.fz_Folders]; rfl) rfl fun H hS => ?_
    have hS : Sep H ([dictA p3 (([] : (List (Str × (Int × Int)))) : (List (Str × (Int × Int)))), dictE dictA p2 (([] : (List (Str × (List (Str × Bool))))) : (List (Str × (List (Str × Bool))))), dictA p1 (([] : (List (Str × Str))) : (List (Str × Str))), cell a_v_self (.ins (G.cl 7) d_v_self [("boxes", (.ref p1)), ("tags", (.ref p2)), ("sums", (.ref p3))]), F] : List (Asn G)) := hS
    refine sq_nx ?_
    refine c_sfld ?_
    refine k_dnewT (β := Int) hS fun p4 H hS => ?_
    refine ev_to (ev_var rfl) ?_
    refine k_sfld (fs' := [("boxes", (.ref p1)), ("tags", (.ref p2)), ("sums", (.ref p3)), ("tallies", (.ref p4))]) hS (i := 4) rfl T.cl_Folders T.n_Folders_tallies rfl (by show 3 < 1000; decide) (by show decide (G.fz (G.cl 7) = some 4) = false; rw [T.fz_Folders]; rfl) rfl fun H hS => ?_
    have hS : Sep H ([dictT p4 (([] : (List (Kt × Int))) : (List (Kt × Int))), dictA p3 (([] : (List (Str × (Int × Int)))) : (List (Str × (Int × Int)))), dictE dictA p2 (([] : (List (Str × (List (Str × Bool))))) : (List (Str × (List (Str × Bool))))), dictA p1 (([] : (List (Str × Str))) : (List (Str × Str))), cell a_v_self (.ins (G.cl 7) d_v_self [("boxes", (.ref p1)), ("tags", (.ref p2)), ("sums", (.ref p3)), ("tallies", (.ref p4))]), F] : List (Asn G)) := hS
    have hS : Sep H (FoldersA a_v_self (⟨([] : (List (Str × Str))), ([] : (List (Str × (List (Str × Bool))))), ([] : (List (Str × (Int × Int)))), ([] : (List (Kt × Int)))⟩ : Folders) :: [F] : List (Asn G)) := pack_Folders (hS.sel [4, 3, 2, 1, 0, 5] (by decide) rfl)
    exact hm _ (hS.sel [0, 1] (by decide) rfl)
def sp_Folders_need (G : Gx) : Sp := fun vs H Q E => ∃ (a_v_self : Addr) (v_self : Folders) (v_name : Str) (F : Asn G), vs = [.ref a_v_self, (.str (v_name))] ∧ Sep H ([FoldersA a_v_self v_self, F] : List (Asn G)) ∧ R.wp (m_Folders_need v_self v_name) (fun r => ∀ H', Sep H' ([FoldersA a_v_self v_self, F] : List (Asn G)) → Q .non H') (fun x => ∀ H', Sep H' ([FoldersA a_v_self v_self, F] : List (Asn G)) → Eok G x E H')
abbrev N_Folders_need : List Str := ["self", "name"]
theorem sc_Folders_need : FnScope N_Folders_need ["self", "name"] (defScope s_Folders_need) := ⟨rfl, rfl, rfl, by decide +kernel, rfl, by decide +kernel, by decide +kernel⟩
theorem ok_Folders_need (T : Txt G mg) : FnOk P w G.K mg base (L2.CX P w) 1 T.a_Folders_need T.fd_Folders_need ["self", "name"] (sp_Folders_need G) := by
  have nd := sc_Folders_need.nd
  refine Fun.okX T.F_Folders_need sc_Folders_need (fun vs H Q E h => ?_) (fun cdv A outer s H vs Q E hr h => ?_)
  · obtain ⟨a_v_self, v_self, v_name, F, rfl, _⟩ := h; rfl
  · obtain ⟨a_v_self, v_self, v_name, F, rfl, hS, hm⟩ := h
    refine ⟨_, (pss_one (ps_if (pt_cmp (pc_dnotin (hu_of hr) (pv 1) (pe_fld (pv 0) rfl))) (pss_one (ps_raise rfl (takes_of rfl rfl rfl rfl) (pmk_own PySem.F.excBase_ValueError T.x_NoName T.g_NoName T.kp_NoName (T.r_NoName rfl) rfl))) pss_nil)), ?_⟩
    unfold m_Folders_need at hm
    have hS : Sep H (FoldersA a_v_self v_self :: [F] : List (Asn G)) := hS.sel [0, 1] (by decide) rfl
    obtain ⟨dx1, p2, p3, p4, p5, hS⟩ := open_Folders hS
    have hS : Sep H ([cell a_v_self (.ins (G.cl 7) dx1 [("boxes", (.ref p2)), ("tags", (.ref p3)), ("sums", (.ref p4)), ("tallies", (.ref p5))]), dictA p2 (v_self.boxes : (List (Str × Str))), dictE dictA p3 (v_self.tags : (List (Str × (List (Str × Bool))))), dictA p4 (v_self.sums : (List (Str × (Int × Int)))), dictT p5 (v_self.tallies : (List (Kt × Int))), F] : List (Asn G)) := hS
    refine f_if ?_
    refine et_to (et_B (ev_dnotin hS (i := 1) (k := v_name) rfl (ev_var rfl) (ev_fld (ev_var rfl) (hS.getCell (i := 0) rfl) T.cl_Folders T.n_Folders_boxes rfl))) ?_
    refine ifK_2 (fun hb6 => ?_) (fun hb6 => ?_)
    · have hm := R.wp_ifY hm hb6
      have hS : Sep H (FoldersA a_v_self v_self :: [F] : List (Asn G)) := pack_Folders (hS.sel [0, 1, 2, 3, 4, 5] (by decide) rfl)
      exact hm _ (hS.sel [0, 1] (by decide) rfl)
    · have hm := R.wp_ifN hm (by first | (rw [hb6]; decide) | simpa using hb6)
      refine st_nx ?_
      have hS : Sep H (FoldersA a_v_self v_self :: [F] : List (Asn G)) := pack_Folders (hS.sel [0, 1, 2, 3, 4, 5] (by decide) rfl)
      exact hm _ (hS.sel [0, 1] (by decide) rfl)
def sp_Folders_need_A (G : Gx) : Sp := fun vs H Q E => ∃ (a_v_self : Addr) (v_self : Folders) (a_v_name : V) (v_name : Any) (F : Asn G), vs = [.ref a_v_self, a_v_name] ∧ Im.im G H a_v_name v_name ∧ Sep H ([FoldersA a_v_self v_self, F] : List (Asn G)) ∧ R.wp (m_Folders_need_A v_self v_name) (fun r => ∀ H', Sep H' ([FoldersA a_v_self v_self, F] : List (Asn G)) → Q .non H') (fun x => ∀ H', Sep H' ([FoldersA a_v_self v_self, F] : List (Asn G)) → Eok G x E H')
abbrev N_Folders_need_A : List Str := ["self", "name"]
theorem sc_Folders_need_A : FnScope N_Folders_need_A ["self", "name"] (defScope s_Folders_need) := ⟨rfl, rfl, rfl, by decide +kernel, rfl, by decide +kernel, by decide +kernel⟩
theorem ok_Folders_need_A (T : Txt G mg) : FnOk P w G.K mg base (L2.CX P w) 1 T.a_Folders_need T.fd_Folders_need ["self", "name"] (sp_Folders_need_A G) := by
  have nd := sc_Folders_need_A.nd
  refine Fun.okX T.F_Folders_need sc_Folders_need_A (fun vs H Q E h => ?_) (fun cdv A outer s H vs Q E hr h => ?_)
  · obtain ⟨a_v_self, v_self, a_v_name, v_name, F, rfl, _⟩ := h; rfl
  · obtain ⟨a_v_self, v_self, a_v_name, v_name, F, rfl, him_v_name, hS, hm⟩ := h
    have hS := hS.addIm him_v_name
    refine ⟨_, (pss_one (ps_if (pt_cmp (pc_dnotinN (hu_of hr) (pv 1) (pe_fld (pv 0) rfl))) (pss_one (ps_raise rfl (takes_of rfl rfl rfl rfl) (pmk_own PySem.F.excBase_ValueError T.x_NoName T.g_NoName T.kp_NoName (T.r_NoName rfl) rfl))) pss_nil)), ?_⟩
    unfold m_Folders_need_A at hm
    have hS : Sep H (FoldersA a_v_self v_self :: [imA a_v_name (v_name : Any), F] : List (Asn G)) := hS.sel [1, 0, 2] (by decide) rfl
    obtain ⟨dx1, p2, p3, p4, p5, hS⟩ := open_Folders hS
    have hS : Sep H ([cell a_v_self (.ins (G.cl 7) dx1 [("boxes", (.ref p2)), ("tags", (.ref p3)), ("sums", (.ref p4)), ("tallies", (.ref p5))]), dictA p2 (v_self.boxes : (List (Str × Str))), dictE dictA p3 (v_self.tags : (List (Str × (List (Str × Bool))))), dictA p4 (v_self.sums : (List (Str × (Int × Int)))), dictT p5 (v_self.tallies : (List (Kt × Int))), imA a_v_name (v_name : Any), F] : List (Asn G)) := hS
    refine f_if ?_
    obtain ⟨b6, hb6, hm⟩ := wp_hasA hm
    refine et_to (et_B (ev_dniN hS (i := 1) rfl (hS.im (i := 5) rfl) hb6 (ev_var rfl) (ev_fld (ev_var rfl) (hS.getCell (i := 0) rfl) T.cl_Folders T.n_Folders_boxes rfl))) ?_
    refine ifK_2 (fun hb7 => ?_) (fun hb7 => ?_)
    · have hm := R.wp_ifY hm hb7
      have hS : Sep H (FoldersA a_v_self v_self :: [imA a_v_name (v_name : Any), F] : List (Asn G)) := pack_Folders (hS.sel [0, 1, 2, 3, 4, 5, 6] (by decide) rfl)
      exact hm _ (hS.sel [0, 2] (by decide) rfl)
    · have hm := R.wp_ifN hm (by first | (rw [hb7]; decide) | simpa using hb7)
      refine st_nx ?_
      have hS : Sep H (FoldersA a_v_self v_self :: [imA a_v_name (v_name : Any), F] : List (Asn G)) := pack_Folders (hS.sel [0, 1, 2, 3, 4, 5, 6] (by decide) rfl)
      exact hm _ (hS.sel [0, 2] (by decide) rfl)
def sp_Folders_tally (G : Gx) : Sp := fun vs H Q E => ∃ (a_v_self d_v_self : Addr) (w_v_self_boxes : V) (w_v_self_tags : V) (w_v_self_sums : V) (p_v_self_tallies : Addr) (v_self_tallies : (List (Kt × Int))) (v_box : Str) (v_word : Str) (v_step : Int) (F : Asn G), vs = [.ref a_v_self, (.str (v_box)), (.str (v_word)), (.int (v_step))] ∧ Sep H ([cell a_v_self (.ins (G.cl 7) d_v_self [("boxes", w_v_self_boxes), ("tags", w_v_self_tags), ("sums", w_v_self_sums), ("tallies", (.ref p_v_self_tallies))]), dictT p_v_self_tallies (v_self_tallies : (List (Kt × Int))), F] : List (Asn G)) ∧ R.wp (m_Folders_tally v_self_tallies v_box v_word v_step) (fun r => ∀ H', Sep H' ([cell a_v_self (.ins (G.cl 7) d_v_self [("boxes", w_v_self_boxes), ("tags", w_v_self_tags), ("sums", w_v_self_sums), ("tallies", (.ref p_v_self_tallies))]), dictT p_v_self_tallies (r : (List (Kt × Int))), F] : List (Asn G)) → Q .non H') (fun _ => False)
abbrev N_Folders_tally : List Str := ["self", "box", "word", "step"]
theorem sc_Folders_tally : FnScope N_Folders_tally ["self", "box", "word", "step"] (defScope s_Folders_tally) := ⟨rfl, rfl, rfl, by decide +kernel, rfl, by decide +kernel, by decide +kernel⟩
theorem ok_Folders_tally (T : Txt G mg) : FnOk P w G.K mg base CX0 1 T.a_Folders_tally T.fd_Folders_tally ["self", "box", "word", "step"] (sp_Folders_tally G) := by
  have nd := sc_Folders_tally.nd
  refine Fun.ok T.F_Folders_tally sc_Folders_tally (fun vs H Q E h => ?_) (fun cdv A outer s H vs Q E hr h => ?_)
  · obtain ⟨a_v_self, d_v_self, w_v_self_boxes, w_v_self_tags, w_v_self_sums, p_v_self_tallies, v_self_tallies, v_box, v_word, v_step, F, rfl, _⟩ := h; rfl
  · obtain ⟨a_v_self, d_v_self, w_v_self_boxes, w_v_self_tags, w_v_self_sums, p_v_self_tallies, v_self_tallies, v_box, v_word, v_step, F, rfl, hS, hm⟩ := h
    refine ⟨_, (pss_cons (ps_asg (pe_op op_add (pe_dget2 (hu_of hr) (pe_fld (pv 0) rfl) (pe_tup (pa_cons (pv 1) (pa_cons (pv 2) pa_nil))) pe_int m2) (pv 3)) (pg_sub (pe_fld (pv 0) rfl) (pe_tup (pa_cons (pv 1) (pa_cons (pv 2) pa_nil))) (set_dict (hu_of hr))))
      (pss_one (ps_if (pt_cmpR op_eq (pe_dget (hu_of hr) (pe_fld (pv 0) rfl) (pe_tup (pa_cons (pv 1) (pa_cons (pv 2) pa_nil))) (fun _ _ => rfl)) pe_int (nomark _)) (pss_one (ps_expr (pe_bmK G.K PySem.F.plainAttrs_dict PySem.F.slot_dict_pop PySem.F.type_dict_pop (mt_popT1 (hu_of hr)) (pe_fld (pv 0) rfl) (pa_cons (pe_tup (pa_cons (pv 1) (pa_cons (pv 2) pa_nil))) pa_nil)))) pss_nil))), ?_⟩
    unfold m_Folders_tally at hm
    refine f_seq ?_
    refine c_asgS ?_
    refine c_op ?_
    refine c_dget2 ?_
    refine ev_to (ev_fld (ev_var rfl) (hS.getCell (i := 0) rfl) T.cl_Folders T.n_Folders_tallies rfl) ?_
    refine k_get2a (isD_T hS (i := 1) rfl) ?_
    refine c_tup ?_
    refine ea_to (ea_cons (ev_var rfl) (ea_cons (ev_var rfl) ea_nil)) ?_
    refine k_tupKt (xs := [v_box, v_word]) hS (by show 2 ≤ sizeLine; decide) fun p1 H hS => ?_
    refine k_get2b ?_
    refine ev_to ev_c ?_
    refine k_get2T (y := (0 : Int)) hS (i := 2) rfl (hS.im (i := 0) rfl) rfl fun v3 hS => ?_
    obtain rfl : v3 = (.int ((dget v_self_tallies (⟨[v_box, v_word]⟩ : Kt)).getD 0)) := hS.im (i := 0) rfl
    have hS := hS.tail
    have hS : Sep H ([imA (.ref p1) ((⟨[v_box, v_word]⟩ : Kt) : Kt), cell a_v_self (.ins (G.cl 7) d_v_self [("boxes", w_v_self_boxes), ("tags", w_v_self_tags), ("sums", w_v_self_sums), ("tallies", (.ref p_v_self_tallies))]), dictT p_v_self_tallies (v_self_tallies : (List (Kt × Int))), F] : List (Asn G)) := hS
    refine ev_to (ev_var rfl) ?_
    refine r_I0 _ ?_
    refine ev_to (ev_fld (ev_var rfl) (hS.getCell (i := 1) rfl) T.cl_Folders T.n_Folders_tallies rfl) ?_
    refine c_tup ?_
    refine ea_to (ea_cons (ev_var rfl) (ea_cons (ev_var rfl) ea_nil)) ?_
    refine k_tupKt (xs := [v_box, v_word]) hS (by show 2 ≤ sizeLine; decide) fun p4 H hS => ?_
    obtain ⟨h6, hm⟩ := R.wp_need hm
    refine k_setDT (k := (⟨[v_box, v_word]⟩ : Kt)) (y := ((dget v_self_tallies (⟨[v_box, v_word]⟩ : Kt)).getD 0) + v_step) hS (i := 3) rfl (hS.im (i := 0) rfl) rfl h6 rfl fun H hS => ?_
    have hS : Sep H ([imA (.ref p4) ((⟨[v_box, v_word]⟩ : Kt) : Kt), imA (.ref p1) ((⟨[v_box, v_word]⟩ : Kt) : Kt), cell a_v_self (.ins (G.cl 7) d_v_self [("boxes", w_v_self_boxes), ("tags", w_v_self_tags), ("sums", w_v_self_sums), ("tallies", (.ref p_v_self_tallies))]), dictT p_v_self_tallies (dput v_self_tallies (⟨[v_box, v_word]⟩ : Kt) (((dget v_self_tallies (⟨[v_box, v_word]⟩ : Kt)).getD 0) + v_step) : (List (Kt × Int))), F] : List (Asn G)) := hS
    refine sq_nx ?_
    refine f_if ?_
    refine f_test ?_
    refine c_op ?_
    refine c_dget ?_
    refine ev_to (ev_fld (ev_var rfl) (hS.getCell (i := 2) rfl) T.cl_Folders T.n_Folders_tallies rfl) ?_
    refine k_dget1 ?_
    refine c_tup ?_
    refine ea_to (ea_cons (ev_var rfl) (ea_cons (ev_var rfl) ea_nil)) ?_
    refine k_tupKt (xs := [v_box, v_word]) hS (by show 2 ≤ sizeLine; decide) fun p7 H hS => ?_
    obtain ⟨y9, hy9, hm⟩ := wp_dgetG hm
    obtain ⟨v10, g11, hv12⟩ := dget_someT hS (i := 4) rfl (hS.im (i := 0) rfl) hy9
    have hv12 : v10 = (.int (y9)) := hv12
    subst hv12
    refine k_dgetV g11 ?_
    refine ev_to ev_c ?_
    refine ev_op2 (ev_eqI ev_c ev_c) ?_
    refine f_bl ?_
    refine ifK_J (τ := (List (Kt × Int))) (fun (s13 : (List (Kt × Int))) (σ : L2.St) (H : Hp) => σ = [some (.ref a_v_self), some (.str (v_box)), some (.str (v_word)), some (.int (v_step))] ∧ Sep H ([imA (.ref p7) ((⟨[v_box, v_word]⟩ : Kt) : Kt), imA (.ref p4) ((⟨[v_box, v_word]⟩ : Kt) : Kt), imA (.ref p1) ((⟨[v_box, v_word]⟩ : Kt) : Kt), cell a_v_self (.ins (G.cl 7) d_v_self [("boxes", w_v_self_boxes), ("tags", w_v_self_tags), ("sums", w_v_self_sums), ("tallies", (.ref p_v_self_tallies))]), dictT p_v_self_tallies (s13 : (List (Kt × Int))), F] : List (Asn G))) hm (fun hb q hm nx => ?_) (fun hb q hm nx => ?_) (fun s13 σ H hm hI => ?_)
    ·
      refine c_drop ?_
      refine c_bm ?_
      refine ev_to (ev_fld (ev_var rfl) (hS.getCell (i := 3) rfl) T.cl_Folders T.n_Folders_tallies rfl) ?_
      refine ⟨tyDT hS (i := 4) rfl, ?_⟩
      refine c_cons ?_
      refine c_tup ?_
      refine ea_to (ea_cons (ev_var rfl) (ea_cons (ev_var rfl) ea_nil)) ?_
      refine k_tupKt (xs := [v_box, v_word]) hS (by show 2 ≤ sizeLine; decide) fun p14 H hS => ?_
      refine c_nil ?_
      obtain ⟨y16, hy16, hm⟩ := wp_dgetG hm
      refine k_pop1T hS (i := 5) rfl (hS.im (i := 0) rfl) hy16 rfl fun v17 H hS => ?_
      obtain rfl : v17 = (.int (y16)) := hS.im (i := 0) rfl
      have hS := hS.tail
      have hS : Sep H ([imA (.ref p14) ((⟨[v_box, v_word]⟩ : Kt) : Kt), imA (.ref p7) ((⟨[v_box, v_word]⟩ : Kt) : Kt), imA (.ref p4) ((⟨[v_box, v_word]⟩ : Kt) : Kt), imA (.ref p1) ((⟨[v_box, v_word]⟩ : Kt) : Kt), cell a_v_self (.ins (G.cl 7) d_v_self [("boxes", w_v_self_boxes), ("tags", w_v_self_tags), ("sums", w_v_self_sums), ("tallies", (.ref p_v_self_tallies))]), dictT p_v_self_tallies (ddrop (dput v_self_tallies (⟨[v_box, v_word]⟩ : Kt) (((dget v_self_tallies (⟨[v_box, v_word]⟩ : Kt)).getD 0) + v_step)) (⟨[v_box, v_word]⟩ : Kt) : (List (Kt × Int))), F] : List (Asn G)) := hS
      exact nx _ _ _ hm ⟨rfl, hS.sel [1, 2, 3, 4, 5, 6] (by decide) rfl⟩
    ·
      refine st_nx ?_
      exact nx _ _ _ hm ⟨rfl, hS.sel [0, 1, 2, 3, 4, 5] (by decide) rfl⟩
    · obtain ⟨rfl, hS⟩ := hI
      exact hm _ (hS.sel [3, 4, 5] (by decide) rfl)
def sp_Folders_shift (G : Gx) : Sp := fun vs H Q E => ∃ (a_v_self : Addr) (v_self : Folders) (v_name : Str) (v_step : Int) (F : Asn G), vs = [.ref a_v_self, (.str (v_name)), (.int (v_step))] ∧ Sep H ([FoldersA a_v_self v_self, F] : List (Asn G)) ∧ R.wp (m_Folders_shift v_self v_name v_step) (fun r => ∀ H', Sep H' ([FoldersA a_v_self r, F] : List (Asn G)) → Q .non H') (fun _ => False)
abbrev N_Folders_shift : List Str := ["self", "name", "step", "box", "both", "unseen", "word"]
theorem sc_Folders_shift : FnScope N_Folders_shift ["self", "name", "step"] (defScope s_Folders_shift) := ⟨rfl, rfl, rfl, by decide +kernel, rfl, by decide +kernel, by decide +kernel⟩
theorem ok_Folders_shift (T : Txt G mg) : FnOk P w G.K mg base CX0 2 T.a_Folders_shift T.fd_Folders_shift ["self", "name", "step"] (sp_Folders_shift G) := by
  have nd := sc_Folders_shift.nd
  refine Fun.ok T.F_Folders_shift sc_Folders_shift (fun vs H Q E h => ?_) (fun cdv A outer s H vs Q E hr h => ?_)
  · obtain ⟨a_v_self, v_self, v_name, v_step, F, rfl, _⟩ := h; rfl
  · obtain ⟨a_v_self, v_self, v_name, v_step, F, rfl, hS, hm⟩ := h
    refine ⟨_, (pss_cons (ps_set (i := 3) nd rfl (Or.inl rfl) (pe_dget (hu_of hr) (pe_fld (pv 0) rfl) (pv 1) (fun _ _ => rfl)))
      (pss_cons (ps_set (i := 4) nd rfl (Or.inl rfl) (pe_dsetd (pe_fld (pv 0) rfl) (pv 3) (pe_tup (pa_cons pe_int (pa_cons pe_int pa_nil))) m2))
      (pss_cons (ps_set (i := 5) nd rfl (Or.inl rfl) (pe_op op_add (pe_ix (ix_tupK G.K) (pv 4) pe_int (fun _ _ => rfl)) (pe_op op_mul (pv 2) (pe_callTy call_int1 (by rfl) T.z_int (by decide +kernel) (pa_cons (pe_cmp (pc_dnotin (hu_of hr) (pe_glob (v := .str ("seen" : Str)) rfl T.c_SEEN ⟨_, rfl⟩) (pe_dget (hu_of hr) (pe_fld (pv 0) rfl) (pv 1) (fun _ _ => rfl))) rfl) pa_nil)))))
      (pss_cons (ps_asg (pe_tup (pa_cons (pe_op op_add (pe_ix (ix_tupK G.K) (pv 4) pe_int (fun _ _ => rfl)) (pv 2)) (pa_cons (pv 5) pa_nil))) (pg_sub (pe_fld (pv 0) rfl) (pv 3) (set_dict (hu_of hr))))
      (pss_cons (ps_if (pt_cmpR op_eq (pe_ix (ix_tupK G.K) (pe_dget (hu_of hr) (pe_fld (pv 0) rfl) (pv 3) (fun _ _ => rfl)) pe_int (fun _ _ => rfl)) pe_int (nomark _)) (pss_one (ps_expr (pe_dpop1 (pe_fld (pv 0) rfl) (pv 3) m1))) pss_nil)
      (pss_one (ps_lock (ps_for PassesOwn.never rfl (pi_keys (pe_dget (hu_of hr) (pe_fld (pv 0) rfl) (pv 1) (fun _ _ => rfl))) (pg_name (i := 6) nd rfl (Or.inl rfl)) (pss_one (ps_expr (pe_meth (pv 0) T.cl_Folders T.m_Folders_tally (ok_Folders_tally T) (hr.mono (by decide)) T.b_Folders_tally .nil pass0 (pa_cons (pv 3) (pa_cons (pv 6) (pa_cons (pv 2) pa_nil)))))))))))))), ?_⟩
    unfold m_Folders_shift at hm
    have hS : Sep H (FoldersA a_v_self v_self :: [F] : List (Asn G)) := hS.sel [0, 1] (by decide) rfl
    obtain ⟨dx1, p2, p3, p4, p5, hS⟩ := open_Folders hS
    have hS : Sep H ([cell a_v_self (.ins (G.cl 7) dx1 [("boxes", (.ref p2)), ("tags", (.ref p3)), ("sums", (.ref p4)), ("tallies", (.ref p5))]), dictA p2 (v_self.boxes : (List (Str × Str))), dictE dictA p3 (v_self.tags : (List (Str × (List (Str × Bool))))), dictA p4 (v_self.sums : (List (Str × (Int × Int)))), dictT p5 (v_self.tallies : (List (Kt × Int))), F] : List (Asn G)) := hS
    refine f_seq ?_
    refine c_asg ?_
    obtain ⟨y6, hy6, hm⟩ := wp_dget hm
    obtain ⟨v7, g8, hv9⟩ := dget_some hS (i := 1) rfl hy6
    have hv9 : v7 = (.str (y6)) := hv9
    subst hv9
    refine ev_to (ev_dget (y := y6) hS (i := 1) rfl (ev_fld (ev_var rfl) (hS.getCell (i := 0) rfl) T.cl_Folders T.n_Folders_boxes rfl) (ev_var rfl) g8) ?_
    refine c_set (σ' := [some (.ref a_v_self), some (.str (v_name)), some (.int (v_step)), some (.str (y6)), none, none, none]) rfl ?_
    refine sq_nx ?_
    refine f_seq ?_
    refine c_asg ?_
    refine c_dsetd ?_
    refine ev_to (ev_fld (ev_var rfl) (hS.getCell (i := 0) rfl) T.cl_Folders T.n_Folders_sums rfl) ?_
    refine k_setda (isD_of hS (i := 3) rfl) ?_
    refine ev_to (ev_var rfl) ?_
    refine k_setdb ?_
    refine c_tup ?_
    refine ea_to (ea_cons ev_c (ea_cons ev_c ea_nil)) ?_
    refine k_tupP (x := ((0, 0) : (Int × Int))) hS (fun H' p h s => mk2 rfl rfl h s) (by show 2 ≤ sizeLine; decide) fun p10 H hS => ?_
    obtain ⟨h13, hm⟩ := R.wp_need hm
    refine k_setdA (k := y6) (y := ((0, 0) : (Int × Int))) hS (i := 4) rfl (hS.im (i := 0) rfl) h13 rfl fun v12 H hS => ?_
    obtain ⟨a15, rfl⟩ := isref (hS.im (i := 0) rfl)
    have hS : Sep H ([imA (.ref a15) ((dget v_self.sums y6).getD (0, 0) : (Int × Int)), imA (.ref p10) ((0, 0) : (Int × Int)), cell a_v_self (.ins (G.cl 7) dx1 [("boxes", (.ref p2)), ("tags", (.ref p3)), ("sums", (.ref p4)), ("tallies", (.ref p5))]), dictA p2 (v_self.boxes : (List (Str × Str))), dictE dictA p3 (v_self.tags : (List (Str × (List (Str × Bool))))), dictA p4 (dsetd v_self.sums y6 (0, 0) : (List (Str × (Int × Int)))), dictT p5 (v_self.tallies : (List (Kt × Int))), F] : List (Asn G)) := hS
    refine c_set (σ' := [some (.ref a_v_self), some (.str (v_name)), some (.int (v_step)), some (.str (y6)), some (.ref a15), none, none]) rfl ?_
    refine sq_nx ?_
    refine f_seq ?_
    refine c_asg ?_
    refine c_op ?_
    obtain ⟨u16, u17, hT20, h18, h19⟩ := im2 (hS.im (i := 0) rfl)
    obtain rfl : u16 = (.int (((dget v_self.sums y6).getD (0, 0)).1)) := h18
    obtain rfl : u17 = (.int (((dget v_self.sums y6).getD (0, 0)).2)) := h19
    refine ev_to (ev_ixT (ev_var rfl) ev_c hT20 rfl) ?_
    refine c_op ?_
    refine ev_to (ev_var rfl) ?_
    refine c_cb ?_
    refine c_cons ?_
    refine c_dni ?_
    refine ev_to ev_c ?_
    refine k_dni1 ?_
    refine c_dget ?_
    refine ev_to (ev_fld (ev_var rfl) (hS.getCell (i := 2) rfl) T.cl_Folders T.n_Folders_tags rfl) ?_
    refine k_dget1 ?_
    refine ev_to (ev_var rfl) ?_
    obtain ⟨x21, h22, hm⟩ := wp_dgetX hm
    refine k_dgetE (y := (x21 : (List (Str × Bool)))) (hS.sel [4, 0, 1, 2, 3, 5, 6, 7] (by decide) rfl : Sep _ (dictE dictA p3 (v_self.tags : (List (Str × (List (Str × Bool))))) :: [imA (.ref a15) ((dget v_self.sums y6).getD (0, 0) : (Int × Int)), imA (.ref p10) ((0, 0) : (Int × Int)), cell a_v_self (.ins (G.cl 7) dx1 [("boxes", (.ref p2)), ("tags", (.ref p3)), ("sums", (.ref p4)), ("tallies", (.ref p5))]), dictA p2 (v_self.boxes : (List (Str × Str))), dictA p4 (dsetd v_self.sums y6 (0, 0) : (List (Str × (Int × Int)))), dictT p5 (v_self.tallies : (List (Kt × Int))), F] : List (Asn G))) h22 fun ps23 p24 j25 hl26 hj27 hp28 hS => ?_
    have hS : Sep H ([dictA p24 (x21 : (List (Str × Bool))), dictXH id dictA p3 ps23 (v_self.tags : (List (Str × (List (Str × Bool))))) j25, imA (.ref a15) ((dget v_self.sums y6).getD (0, 0) : (Int × Int)), imA (.ref p10) ((0, 0) : (Int × Int)), cell a_v_self (.ins (G.cl 7) dx1 [("boxes", (.ref p2)), ("tags", (.ref p3)), ("sums", (.ref p4)), ("tallies", (.ref p5))]), dictA p2 (v_self.boxes : (List (Str × Str))), dictA p4 (dsetd v_self.sums y6 (0, 0) : (List (Str × (Int × Int)))), dictT p5 (v_self.tallies : (List (Kt × Int))), F] : List (Asn G)) := hS
    refine k_dniA hS (i := 0) (k := ("seen" : Str)) rfl ?_
    refine c_nil ?_
    refine .inr ⟨_, rfl, ?_⟩
    obtain ⟨h29, hm⟩ := R.wp_need hm
    refine r_mul h29 ?_
    refine r_I0 _ ?_
    obtain ⟨y30, hy30, hm⟩ := wp_let hm
    refine n_is (w := (.int (y30))) (by first | rw [hy30] | (subst hy30; rfl)) ?_
    refine c_set (σ' := [some (.ref a_v_self), some (.str (v_name)), some (.int (v_step)), some (.str (y6)), some (.ref a15), some (.int (y30)), none]) rfl ?_
    have hS : Sep H ([dictE dictA p3 (v_self.tags : (List (Str × (List (Str × Bool))))), imA (.ref a15) ((dget v_self.sums y6).getD (0, 0) : (Int × Int)), imA (.ref p10) ((0, 0) : (Int × Int)), cell a_v_self (.ins (G.cl 7) dx1 [("boxes", (.ref p2)), ("tags", (.ref p3)), ("sums", (.ref p4)), ("tallies", (.ref p5))]), dictA p2 (v_self.boxes : (List (Str × Str))), dictA p4 (dsetd v_self.sums y6 (0, 0) : (List (Str × (Int × Int)))), dictT p5 (v_self.tallies : (List (Kt × Int))), F] : List (Asn G)) := unfocDE0 hl26 hj27 hp28 (hS.sel [0, 1, 2, 3, 4, 5, 6, 7, 8] (by decide) rfl)
    refine sq_nx ?_
    refine f_seq ?_
    refine c_asgS ?_
    refine c_tup ?_
    obtain ⟨u31, u32, hT35, h33, h34⟩ := im2 (hS.im (i := 1) rfl)
    obtain rfl : u31 = (.int (((dget v_self.sums y6).getD (0, 0)).1)) := h33
    obtain rfl : u32 = (.int (((dget v_self.sums y6).getD (0, 0)).2)) := h34
    refine ea_to (ea_cons (ev_add (ev_ixT (ev_var rfl) ev_c hT35 rfl) (ev_var rfl)) (ea_cons (ev_var rfl) ea_nil)) ?_
    refine k_tupP (x := (((((dget v_self.sums y6).getD (0, 0)).1) + v_step, y30) : (Int × Int))) hS (fun H' p h s => mk2 rfl rfl h s) (by show 2 ≤ sizeLine; decide) fun p36 H hS => ?_
    refine ev_to (ev_fld (ev_var rfl) (hS.getCell (i := 4) rfl) T.cl_Folders T.n_Folders_sums rfl) ?_
    refine ev_to (ev_var rfl) ?_
    obtain ⟨h38, hm⟩ := R.wp_need hm
    refine k_setD (k := y6) (y := ((((dget v_self.sums y6).getD (0, 0)).1) + v_step, y30)) hS (i := 6) rfl (hS.im (i := 0) rfl) h38 rfl fun H hS => ?_
    have hS : Sep H ([imA (.ref p36) (((((dget v_self.sums y6).getD (0, 0)).1) + v_step, y30) : (Int × Int)), dictE dictA p3 (v_self.tags : (List (Str × (List (Str × Bool))))), imA (.ref a15) ((dget v_self.sums y6).getD (0, 0) : (Int × Int)), imA (.ref p10) ((0, 0) : (Int × Int)), cell a_v_self (.ins (G.cl 7) dx1 [("boxes", (.ref p2)), ("tags", (.ref p3)), ("sums", (.ref p4)), ("tallies", (.ref p5))]), dictA p2 (v_self.boxes : (List (Str × Str))), dictA p4 (dput (dsetd v_self.sums y6 (0, 0)) y6 ((((dget v_self.sums y6).getD (0, 0)).1) + v_step, y30) : (List (Str × (Int × Int)))), dictT p5 (v_self.tallies : (List (Kt × Int))), F] : List (Asn G)) := hS
    refine sq_nx ?_
    refine f_seq ?_
    refine f_if ?_
    obtain ⟨y39, hy39, hm⟩ := wp_dget hm
    obtain ⟨v40, g41, hv42⟩ := dget_some hS (i := 6) rfl hy39
    obtain ⟨a43, rfl⟩ := isref hv42
    obtain ⟨u44, u45, hT48, h46, h47⟩ := im2 hv42
    obtain rfl : u44 = (.int (y39.1)) := h46
    obtain rfl : u45 = (.int (y39.2)) := h47
    refine et_to (et_test (ev_eqI (ev_ixT (ev_dget (y := y39) hS (i := 6) rfl (ev_fld (ev_var rfl) (hS.getCell (i := 4) rfl) T.cl_Folders T.n_Folders_sums rfl) (ev_var rfl) g41) ev_c hT48 rfl) ev_c)) ?_
    refine ifK_J (τ := (List (Str × (Int × Int)))) (fun (s49 : (List (Str × (Int × Int)))) (σ : L2.St) (H : Hp) => σ = [some (.ref a_v_self), some (.str (v_name)), some (.int (v_step)), some (.str (y6)), some (.ref a15), some (.int (y30)), none] ∧ Sep H ([imA (.ref p36) (((((dget v_self.sums y6).getD (0, 0)).1) + v_step, y30) : (Int × Int)), dictE dictA p3 (v_self.tags : (List (Str × (List (Str × Bool))))), imA (.ref a15) ((dget v_self.sums y6).getD (0, 0) : (Int × Int)), imA (.ref p10) ((0, 0) : (Int × Int)), cell a_v_self (.ins (G.cl 7) dx1 [("boxes", (.ref p2)), ("tags", (.ref p3)), ("sums", (.ref p4)), ("tallies", (.ref p5))]), dictA p2 (v_self.boxes : (List (Str × Str))), dictA p4 (s49 : (List (Str × (Int × Int)))), dictT p5 (v_self.tallies : (List (Kt × Int))), F] : List (Asn G))) hm (fun hb q hm nx => ?_) (fun hb q hm nx => ?_) (fun s49 σ H hm hI => ?_)
    ·
      refine c_drop ?_
      refine c_dpop1 ?_
      refine ev_to (ev_fld (ev_var rfl) (hS.getCell (i := 4) rfl) T.cl_Folders T.n_Folders_sums rfl) ?_
      refine k_pop1a (isD_of hS (i := 6) rfl) ?_
      refine ev_to (ev_var rfl) ?_
      obtain ⟨y50, hy50, hm⟩ := wp_dgetX hm
      refine k_pop1A (k := y6) hS (i := 6) rfl hy50 rfl fun v51 H hS => ?_
      obtain ⟨a53, rfl⟩ := isref (hS.im (i := 0) rfl)
      have hS : Sep H ([imA (.ref a53) (y50 : (Int × Int)), imA (.ref p36) (((((dget v_self.sums y6).getD (0, 0)).1) + v_step, y30) : (Int × Int)), dictE dictA p3 (v_self.tags : (List (Str × (List (Str × Bool))))), imA (.ref a15) ((dget v_self.sums y6).getD (0, 0) : (Int × Int)), imA (.ref p10) ((0, 0) : (Int × Int)), cell a_v_self (.ins (G.cl 7) dx1 [("boxes", (.ref p2)), ("tags", (.ref p3)), ("sums", (.ref p4)), ("tallies", (.ref p5))]), dictA p2 (v_self.boxes : (List (Str × Str))), dictA p4 (ddrop (dput (dsetd v_self.sums y6 (0, 0)) y6 ((((dget v_self.sums y6).getD (0, 0)).1) + v_step, y30)) y6 : (List (Str × (Int × Int)))), dictT p5 (v_self.tallies : (List (Kt × Int))), F] : List (Asn G)) := hS
      exact nx _ _ _ hm ⟨rfl, hS.sel [1, 2, 3, 4, 5, 6, 7, 8, 9] (by decide) rfl⟩
    ·
      refine st_nx ?_
      exact nx _ _ _ hm ⟨rfl, hS.sel [0, 1, 2, 3, 4, 5, 6, 7, 8] (by decide) rfl⟩
    · obtain ⟨rfl, hS⟩ := hI
      refine sq_nx ?_
      obtain ⟨x54, h55, hm⟩ := wp_dgetX hm
      obtain ⟨ps56, p57, j58, hl59, hj60, hp61, hS⟩ := prefocD (y := (x54 : (List (Str × Bool)))) (hS.sel [1, 0, 2, 3, 4, 5, 6, 7, 8] (by decide) rfl : Sep _ (dictE dictA p3 (v_self.tags : (List (Str × (List (Str × Bool))))) :: [imA (.ref p36) (((((dget v_self.sums y6).getD (0, 0)).1) + v_step, y30) : (Int × Int)), imA (.ref a15) ((dget v_self.sums y6).getD (0, 0) : (Int × Int)), imA (.ref p10) ((0, 0) : (Int × Int)), cell a_v_self (.ins (G.cl 7) dx1 [("boxes", (.ref p2)), ("tags", (.ref p3)), ("sums", (.ref p4)), ("tallies", (.ref p5))]), dictA p2 (v_self.boxes : (List (Str × Str))), dictA p4 (s49 : (List (Str × (Int × Int)))), dictT p5 (v_self.tallies : (List (Kt × Int))), F] : List (Asn G))) h55
      have hS : Sep H ([dictA p57 (x54 : (List (Str × Bool))), dictXH id dictA p3 ps56 (v_self.tags : (List (Str × (List (Str × Bool))))) j58, imA (.ref p36) (((((dget v_self.sums y6).getD (0, 0)).1) + v_step, y30) : (Int × Int)), imA (.ref a15) ((dget v_self.sums y6).getD (0, 0) : (Int × Int)), imA (.ref p10) ((0, 0) : (Int × Int)), cell a_v_self (.ins (G.cl 7) dx1 [("boxes", (.ref p2)), ("tags", (.ref p3)), ("sums", (.ref p4)), ("tallies", (.ref p5))]), dictA p2 (v_self.boxes : (List (Str × Str))), dictA p4 (s49 : (List (Str × (Int × Int)))), dictT p5 (v_self.tallies : (List (Kt × Int))), F] : List (Asn G)) := hS
      refine k_lockSA hS (i := 0) rfl fun od62 ps63 H hS => ?_
      have hS : Sep H ([lockA p57 od62 ps63 (x54 : (List (Str × Bool))), dictXH id dictA p3 ps56 (v_self.tags : (List (Str × (List (Str × Bool))))) j58, imA (.ref p36) (((((dget v_self.sums y6).getD (0, 0)).1) + v_step, y30) : (Int × Int)), imA (.ref a15) ((dget v_self.sums y6).getD (0, 0) : (Int × Int)), imA (.ref p10) ((0, 0) : (Int × Int)), cell a_v_self (.ins (G.cl 7) dx1 [("boxes", (.ref p2)), ("tags", (.ref p3)), ("sums", (.ref p4)), ("tallies", (.ref p5))]), dictA p2 (v_self.boxes : (List (Str × Str))), dictA p4 (s49 : (List (Str × (Int × Int)))), dictT p5 (v_self.tallies : (List (Kt × Int))), F] : List (Asn G)) := hS
      refine c_for ?_
      refine c_keys ?_
      refine ev_to (ev_dgetV (ev_fld (ev_var rfl) (hS.getCell (i := 5) rfl) T.cl_Folders T.n_Folders_tags rfl) (ev_var rfl) (hole_get (k := v_name) hS (i := 1) rfl hl59 hj60 hp61)) ?_
      refine k_keysA (hS.lockA (i := 0) rfl).1 ?_
      refine k_for (τ := (List (Kt × Int))) (fun (s64 : (List (Kt × Int))) (σ : L2.St) (H : Hp) => ∃ (w67 : Option V), σ = [some (.ref a_v_self), some (.str (v_name)), some (.int (v_step)), some (.str (y6)), some (.ref a15), some (.int (y30)), w67] ∧ Sep H ([lockA p57 od62 ps63 (x54 : (List (Str × Bool))), dictXH id dictA p3 ps56 (v_self.tags : (List (Str × (List (Str × Bool))))) j58, imA (.ref p36) (((((dget v_self.sums y6).getD (0, 0)).1) + v_step, y30) : (Int × Int)), imA (.ref a15) ((dget v_self.sums y6).getD (0, 0) : (Int × Int)), imA (.ref p10) ((0, 0) : (Int × Int)), cell a_v_self (.ins (G.cl 7) dx1 [("boxes", (.ref p2)), ("tags", (.ref p3)), ("sums", (.ref p4)), ("tallies", (.ref p5))]), dictA p2 (v_self.boxes : (List (Str × Str))), dictA p4 (s49 : (List (Str × (Int × Int)))), dictT p5 (s64 : (List (Kt × Int))), F] : List (Asn G))) (im := (fun _ v (x : Str) => v = .str x)) (s := (v_self.tallies)) (fun _ => wk_keysA fun _ _ ⟨_, _, h⟩ => h.lockA (i := 0) rfl) ⟨_, rfl, hS.sel [0, 1, 2, 3, 4, 5, 6, 7, 8, 9] (by decide) rfl⟩ hm (fun s64 x65 v66 σ H q N hI hx hm nx => ?_) (fun s64 σ H hm hI => ?_)
      ·
        obtain ⟨w67, rfl, hS⟩ := hI
        cases hx
        refine c_gN (σ' := [some (.ref a_v_self), some (.str (v_name)), some (.int (v_step)), some (.str (y6)), some (.ref a15), some (.int (y30)), some (.str (x65))]) rfl ?_
        refine c_drop ?_
        refine c_meth ?_
        refine ev_to (ev_var rfl) ?_
        refine ⟨_, _, _, rfl, (hS.getCell (i := 5) rfl), rfl, ?_⟩
        refine ea_to (ea_cons (ev_var rfl) (ea_cons (ev_var rfl) (ea_cons (ev_var rfl) ea_nil))) ?_
        refine ⟨a_v_self, dx1, (.ref p2), (.ref p3), (.ref p4), p5, (s64 : (List (Kt × Int))), y6, x65, v_step, star [lockA p57 od62 ps63 (x54 : (List (Str × Bool))), dictXH id dictA p3 ps56 (v_self.tags : (List (Str × (List (Str × Bool))))) j58, imA (.ref p36) (((((dget v_self.sums y6).getD (0, 0)).1) + v_step, y30) : (Int × Int)), imA (.ref a15) ((dget v_self.sums y6).getD (0, 0) : (Int × Int)), imA (.ref p10) ((0, 0) : (Int × Int)), dictA p2 (v_self.boxes : (List (Str × Str))), dictA p4 (s49 : (List (Str × (Int × Int)))), F], rfl, Sep.unstar (M := [cell a_v_self (.ins (G.cl 7) dx1 [("boxes", (.ref p2)), ("tags", (.ref p3)), ("sums", (.ref p4)), ("tallies", (.ref p5))]), dictT p5 (s64 : (List (Kt × Int)))]) (hS.sel [5, 8, 0, 1, 2, 3, 4, 6, 7, 9] (by decide) rfl : Sep H (([cell a_v_self (.ins (G.cl 7) dx1 [("boxes", (.ref p2)), ("tags", (.ref p3)), ("sums", (.ref p4)), ("tallies", (.ref p5))]), dictT p5 (s64 : (List (Kt × Int)))] ++ [lockA p57 od62 ps63 (x54 : (List (Str × Bool))), dictXH id dictA p3 ps56 (v_self.tags : (List (Str × (List (Str × Bool))))) j58, imA (.ref p36) (((((dget v_self.sums y6).getD (0, 0)).1) + v_step, y30) : (Int × Int)), imA (.ref a15) ((dget v_self.sums y6).getD (0, 0) : (Int × Int)), imA (.ref p10) ((0, 0) : (Int × Int)), dictA p2 (v_self.boxes : (List (Str × Str))), dictA p4 (s49 : (List (Str × (Int × Int)))), F] : List (Asn G)))), R.wp_mono (R.wp_bind hm) (fun r68 hm H hS => ?_) (fun _ z => z)⟩
        have hS : Sep H ([cell a_v_self (.ins (G.cl 7) dx1 [("boxes", (.ref p2)), ("tags", (.ref p3)), ("sums", (.ref p4)), ("tallies", (.ref p5))]), dictT p5 (r68 : (List (Kt × Int))), lockA p57 od62 ps63 (x54 : (List (Str × Bool))), dictXH id dictA p3 ps56 (v_self.tags : (List (Str × (List (Str × Bool))))) j58, imA (.ref p36) (((((dget v_self.sums y6).getD (0, 0)).1) + v_step, y30) : (Int × Int)), imA (.ref a15) ((dget v_self.sums y6).getD (0, 0) : (Int × Int)), imA (.ref p10) ((0, 0) : (Int × Int)), dictA p2 (v_self.boxes : (List (Str × Str))), dictA p4 (s49 : (List (Str × (Int × Int)))), F] : List (Asn G)) := Sep.star (M := [cell a_v_self (.ins (G.cl 7) dx1 [("boxes", (.ref p2)), ("tags", (.ref p3)), ("sums", (.ref p4)), ("tallies", (.ref p5))]), dictT p5 (r68 : (List (Kt × Int)))]) hS
        exact nx _ _ _ hm ⟨_, rfl, hS.sel [2, 3, 4, 5, 6, 0, 7, 8, 1, 9] (by decide) rfl⟩
      · obtain ⟨w67, rfl, hS⟩ := hI
        refine k_unlSA hS (i := 0) rfl fun H hS => ?_
        have hS : Sep H ([dictA p57 (x54 : (List (Str × Bool))), dictXH id dictA p3 ps56 (v_self.tags : (List (Str × (List (Str × Bool))))) j58, imA (.ref p36) (((((dget v_self.sums y6).getD (0, 0)).1) + v_step, y30) : (Int × Int)), imA (.ref a15) ((dget v_self.sums y6).getD (0, 0) : (Int × Int)), imA (.ref p10) ((0, 0) : (Int × Int)), cell a_v_self (.ins (G.cl 7) dx1 [("boxes", (.ref p2)), ("tags", (.ref p3)), ("sums", (.ref p4)), ("tallies", (.ref p5))]), dictA p2 (v_self.boxes : (List (Str × Str))), dictA p4 (s49 : (List (Str × (Int × Int)))), dictT p5 (s64 : (List (Kt × Int))), F] : List (Asn G)) := hS
        have hS : Sep H ([dictE dictA p3 (v_self.tags : (List (Str × (List (Str × Bool))))), imA (.ref p36) (((((dget v_self.sums y6).getD (0, 0)).1) + v_step, y30) : (Int × Int)), imA (.ref a15) ((dget v_self.sums y6).getD (0, 0) : (Int × Int)), imA (.ref p10) ((0, 0) : (Int × Int)), cell a_v_self (.ins (G.cl 7) dx1 [("boxes", (.ref p2)), ("tags", (.ref p3)), ("sums", (.ref p4)), ("tallies", (.ref p5))]), dictA p2 (v_self.boxes : (List (Str × Str))), dictA p4 (s49 : (List (Str × (Int × Int)))), dictT p5 (s64 : (List (Kt × Int))), F] : List (Asn G)) := unfocDE0 hl59 hj60 hp61 (hS.sel [0, 1, 2, 3, 4, 5, 6, 7, 8, 9] (by decide) rfl)
        have hS : Sep H (FoldersA a_v_self (⟨v_self.boxes, v_self.tags, s49, s64⟩ : Folders) :: [imA (.ref p36) (((((dget v_self.sums y6).getD (0, 0)).1) + v_step, y30) : (Int × Int)), imA (.ref a15) ((dget v_self.sums y6).getD (0, 0) : (Int × Int)), imA (.ref p10) ((0, 0) : (Int × Int)), F] : List (Asn G)) := pack_Folders (hS.sel [4, 5, 0, 6, 7, 1, 2, 3, 8] (by decide) rfl)
        exact hm _ (hS.sel [0, 4] (by decide) rfl)
def sp_Folders_add (G : Gx) : Sp := fun vs H Q E => ∃ (a_v_self : Addr) (v_self : Folders) (v_name : Str) (v_folder : Str) (a_v_marks : V) (v_marks : Any) (F : Asn G), vs = [.ref a_v_self, (.str (v_name)), (.str (v_folder)), a_v_marks] ∧ Im.im G H a_v_marks v_marks ∧ Sep H ([FoldersA a_v_self v_self, F] : List (Asn G)) ∧ R.wp (m_Folders_add v_self v_name v_folder v_marks) (fun r => ∀ H', Sep H' ([FoldersA a_v_self r, F] : List (Asn G)) → Q .non H') (fun x => ∀ H', Sep H' ([FoldersA a_v_self v_self, F] : List (Asn G)) → Eok G x E H')
abbrev N_Folders_add : List Str := ["self", "name", "folder", "marks", "word"]
theorem sc_Folders_add : FnScope N_Folders_add ["self", "name", "folder", "marks"] (defScope s_Folders_add) := ⟨rfl, rfl, rfl, by decide +kernel, rfl, by decide +kernel, by decide +kernel⟩
theorem ok_Folders_add (T : Txt G mg) : FnOk P w G.K mg base (L2.CX P w) 3 T.a_Folders_add T.fd_Folders_add ["self", "name", "folder", "marks"] (sp_Folders_add G) := by
  have nd := sc_Folders_add.nd
  refine FunD.ok T.F_Folders_add sc_Folders_add (fun vs H Q E h => ?_) (fun cdv A outer s H vs Q E hr h => ?_)
  · obtain ⟨a_v_self, v_self, v_name, v_folder, a_v_marks, v_marks, F, rfl, _⟩ := h; rfl
  · obtain ⟨a_v_self, v_self, v_name, v_folder, a_v_marks, v_marks, F, rfl, him_v_marks, hS, hm⟩ := h
    have hS := hS.addIm him_v_marks
    refine ⟨_, (pss_cons (ps_if (pt_cmp (pc_din (hu_of hr) (pv 1) (pe_fld (pv 0) rfl))) (pss_one (ps_raise rfl (takes_of rfl rfl rfl rfl) (pmk_own PySem.F.excBase_ValueError T.x_NoName T.g_NoName T.kp_NoName (T.r_NoName rfl) rfl))) pss_nil)
      (pss_cons (ps_asg (pv 2) (pg_sub (pe_fld (pv 0) rfl) (pv 1) (set_dict (hu_of hr))))
      (pss_cons (ps_asg pe_dnewK (pg_sub (pe_fld (pv 0) rfl) (pv 1) (set_dict (hu_of hr))))
      (pss_cons (ps_if (pt_cmp (pc_notN (pv 3))) (pss_one (ps_for (passes_of rfl) rfl (pi_tupK G.K (pv 3)) (pg_name (i := 4) nd rfl (Or.inl rfl)) (pss_one (ps_asg pe_bl (pg_sub (pe_dget (hu_of hr) (pe_fld (pv 0) rfl) (pv 1) (fun _ _ => rfl)) (pv 4) (set_dict (hu_of hr))))))) pss_nil)
      (pss_one (ps_expr (pe_meth (pv 0) T.cl_Folders T.m_Folders_shift (ok_Folders_shift T) (hr.mono (by decide)) T.b_Folders_shift .nil pass0 (pa_cons (pv 1) (pa_cons pe_int pa_nil))))))))), ?_⟩
    unfold m_Folders_add at hm
    have hS : Sep H (FoldersA a_v_self v_self :: [imA a_v_marks (v_marks : Any), F] : List (Asn G)) := hS.sel [1, 0, 2] (by decide) rfl
    obtain ⟨dx1, p2, p3, p4, p5, hS⟩ := open_Folders hS
    have hS : Sep H ([cell a_v_self (.ins (G.cl 7) dx1 [("boxes", (.ref p2)), ("tags", (.ref p3)), ("sums", (.ref p4)), ("tallies", (.ref p5))]), dictA p2 (v_self.boxes : (List (Str × Str))), dictE dictA p3 (v_self.tags : (List (Str × (List (Str × Bool))))), dictA p4 (v_self.sums : (List (Str × (Int × Int)))), dictT p5 (v_self.tallies : (List (Kt × Int))), imA a_v_marks (v_marks : Any), F] : List (Asn G)) := hS
    refine f_seq ?_
    refine f_if ?_
    refine et_to (et_B (ev_din hS (i := 1) (k := v_name) rfl (ev_var rfl) (ev_fld (ev_var rfl) (hS.getCell (i := 0) rfl) T.cl_Folders T.n_Folders_boxes rfl))) ?_
    refine ifK_2 (fun hb6 => ?_) (fun hb6 => ?_)
    · have hm := R.wp_ifY hm hb6
      have hS : Sep H (FoldersA a_v_self v_self :: [imA a_v_marks (v_marks : Any), F] : List (Asn G)) := pack_Folders (hS.sel [0, 1, 2, 3, 4, 5, 6] (by decide) rfl)
      exact hm _ (hS.sel [0, 2] (by decide) rfl)
    · have hm := R.wp_ifN hm (by first | (rw [hb6]; decide) | simpa using hb6)
      refine st_nx ?_
      refine sq_nx ?_
      refine f_seq ?_
      refine c_asgS ?_
      refine ev_to (ev_var rfl) ?_
      refine ev_to (ev_fld (ev_var rfl) (hS.getCell (i := 0) rfl) T.cl_Folders T.n_Folders_boxes rfl) ?_
      refine ev_to (ev_var rfl) ?_
      obtain ⟨h7, hm⟩ := R.wp_need hm
      refine k_setD (k := v_name) (y := v_folder) hS (i := 1) rfl rfl h7 rfl fun H hS => ?_
      have hS : Sep H ([cell a_v_self (.ins (G.cl 7) dx1 [("boxes", (.ref p2)), ("tags", (.ref p3)), ("sums", (.ref p4)), ("tallies", (.ref p5))]), dictA p2 (dput v_self.boxes v_name v_folder : (List (Str × Str))), dictE dictA p3 (v_self.tags : (List (Str × (List (Str × Bool))))), dictA p4 (v_self.sums : (List (Str × (Int × Int)))), dictT p5 (v_self.tallies : (List (Kt × Int))), imA a_v_marks (v_marks : Any), F] : List (Asn G)) := hS
      refine sq_nx ?_
      refine f_seq ?_
      refine c_asgS ?_
      refine k_dnew (κ := Str) (β := Bool) hS fun p8 H hS => ?_
      refine ev_to (ev_fld (ev_var rfl) (hS.getCell (i := 1) rfl) T.cl_Folders T.n_Folders_tags rfl) ?_
      refine ev_to (ev_var rfl) ?_
      obtain ⟨h9, hm⟩ := R.wp_need hm
      obtain ⟨h10, hm⟩ := R.wp_need hm
      refine k_newE' (k := v_name) (hS.sel [3, 0, 1, 2, 4, 5, 6, 7] (by decide) rfl : Sep H (dictE dictA p3 (v_self.tags : (List (Str × (List (Str × Bool))))) :: dictA p8 (([] : (List (Str × Bool))) : (List (Str × Bool))) :: [cell a_v_self (.ins (G.cl 7) dx1 [("boxes", (.ref p2)), ("tags", (.ref p3)), ("sums", (.ref p4)), ("tallies", (.ref p5))]), dictA p2 (dput v_self.boxes v_name v_folder : (List (Str × Str))), dictA p4 (v_self.sums : (List (Str × (Int × Int)))), dictT p5 (v_self.tallies : (List (Kt × Int))), imA a_v_marks (v_marks : Any), F] : List (Asn G))) h10 h9 fun H hS => ?_
      have hS : Sep H ([dictE dictA p3 (v_self.tags ++ [(v_name, ([] : (List (Str × Bool))))] : (List (Str × (List (Str × Bool))))), cell a_v_self (.ins (G.cl 7) dx1 [("boxes", (.ref p2)), ("tags", (.ref p3)), ("sums", (.ref p4)), ("tallies", (.ref p5))]), dictA p2 (dput v_self.boxes v_name v_folder : (List (Str × Str))), dictA p4 (v_self.sums : (List (Str × (Int × Int)))), dictT p5 (v_self.tallies : (List (Kt × Int))), imA a_v_marks (v_marks : Any), F] : List (Asn G)) := hS
      refine sq_nx ?_
      refine f_seq ?_
      refine f_if ?_
      refine et_to (et_B (ev_notN (ev_var rfl) (hS.im (i := 5) rfl))) ?_
      refine ifK_J (τ := (List (Str × (List (Str × Bool))))) (fun (s11 : (List (Str × (List (Str × Bool))))) (σ : L2.St) (H : Hp) => ∃ (w12 : Option V), σ = [some (.ref a_v_self), some (.str (v_name)), some (.str (v_folder)), some a_v_marks, w12] ∧ Sep H ([dictE dictA p3 (s11 : (List (Str × (List (Str × Bool))))), cell a_v_self (.ins (G.cl 7) dx1 [("boxes", (.ref p2)), ("tags", (.ref p3)), ("sums", (.ref p4)), ("tallies", (.ref p5))]), dictA p2 (dput v_self.boxes v_name v_folder : (List (Str × Str))), dictA p4 (v_self.sums : (List (Str × (Int × Int)))), dictT p5 (v_self.tallies : (List (Kt × Int))), imA a_v_marks (v_marks : Any), F] : List (Asn G))) hm (fun hb q hm nx => ?_) (fun hb q hm nx => ?_) (fun s11 σ H hm hI => ?_)
      ·
        refine c_for ?_
        refine c_it ?_
        refine ev_to (ev_var rfl) ?_
        obtain ⟨xs13, h14, hm⟩ := Ml.wp_asTup hm
        refine k_itE (xs := xs13) (hS.im (i := 5) rfl) h14 fun a15 he16 => ?_
        subst he16
        refine k_for (τ := (List (Str × (List (Str × Bool))))) (fun (s17 : (List (Str × (List (Str × Bool))))) (σ : L2.St) (H : Hp) => ∃ (w20 : Option V), σ = [some (.ref a_v_self), some (.str (v_name)), some (.str (v_folder)), some (.ref a15), w20] ∧ Sep H ([dictE dictA p3 (s17 : (List (Str × (List (Str × Bool))))), cell a_v_self (.ins (G.cl 7) dx1 [("boxes", (.ref p2)), ("tags", (.ref p3)), ("sums", (.ref p4)), ("tallies", (.ref p5))]), dictA p2 (dput v_self.boxes v_name v_folder : (List (Str × Str))), dictA p4 (v_self.sums : (List (Str × (Int × Int)))), dictT p5 (v_self.tallies : (List (Kt × Int))), imA (.ref a15) (v_marks : Any), F] : List (Asn G))) (im := (Im.im G)) (s := (v_self.tags ++ [(v_name, ([] : (List (Str × Bool))))])) (fun _ => wk_tupA fun _ _ ⟨_, _, h⟩ => imE h14 (h.im (i := 5) rfl)) ⟨_, rfl, hS.sel [0, 1, 2, 3, 4, 5, 6] (by decide) rfl⟩ hm (fun s17 x18 v19 σ H q N hI hx hm nx => ?_) (fun s17 σ H hm hI => ?_)
        ·
          obtain ⟨w20, rfl, hS⟩ := hI
          have hS := hS.addIm (v := v19) (x := (x18 : Any)) hx
          refine c_gN (σ' := [some (.ref a_v_self), some (.str (v_name)), some (.str (v_folder)), some (.ref a15), some v19]) rfl ?_
          refine c_asgS ?_
          refine ev_to ev_c ?_
          refine c_dget ?_
          refine ev_to (ev_fld (ev_var rfl) (hS.getCell (i := 2) rfl) T.cl_Folders T.n_Folders_tags rfl) ?_
          refine k_dget1 ?_
          refine ev_to (ev_var rfl) ?_
          obtain ⟨x22, h23, hm⟩ := wp_dgetX hm
          refine k_dgetE (y := (x22 : (List (Str × Bool)))) (hS.sel [1, 0, 2, 3, 4, 5, 6, 7] (by decide) rfl : Sep _ (dictE dictA p3 (s17 : (List (Str × (List (Str × Bool))))) :: [imA v19 (x18 : Any), cell a_v_self (.ins (G.cl 7) dx1 [("boxes", (.ref p2)), ("tags", (.ref p3)), ("sums", (.ref p4)), ("tallies", (.ref p5))]), dictA p2 (dput v_self.boxes v_name v_folder : (List (Str × Str))), dictA p4 (v_self.sums : (List (Str × (Int × Int)))), dictT p5 (v_self.tallies : (List (Kt × Int))), imA (.ref a15) (v_marks : Any), F] : List (Asn G))) h23 fun ps24 p25 j26 hl27 hj28 hp29 hS => ?_
          have hS : Sep H ([dictA p25 (x22 : (List (Str × Bool))), dictXH id dictA p3 ps24 (s17 : (List (Str × (List (Str × Bool))))) j26, imA v19 (x18 : Any), cell a_v_self (.ins (G.cl 7) dx1 [("boxes", (.ref p2)), ("tags", (.ref p3)), ("sums", (.ref p4)), ("tallies", (.ref p5))]), dictA p2 (dput v_self.boxes v_name v_folder : (List (Str × Str))), dictA p4 (v_self.sums : (List (Str × (Int × Int)))), dictT p5 (v_self.tallies : (List (Kt × Int))), imA (.ref a15) (v_marks : Any), F] : List (Asn G)) := hS
          refine ev_to (ev_var rfl) ?_
          obtain ⟨s30, hs31, hm⟩ := Ml.wp_asStr hm
          have hv32 := v_str (hS.im (i := 2) rfl) hs31
          subst hv32
          obtain ⟨h33, hm⟩ := R.wp_need hm
          refine k_setD (k := s30) (y := true) hS (i := 0) rfl rfl h33 rfl fun H hS => ?_
          have hS : Sep H ([dictA p25 (dput x22 s30 true : (List (Str × Bool))), dictXH id dictA p3 ps24 (s17 : (List (Str × (List (Str × Bool))))) j26, imA (.str (s30)) (x18 : Any), cell a_v_self (.ins (G.cl 7) dx1 [("boxes", (.ref p2)), ("tags", (.ref p3)), ("sums", (.ref p4)), ("tallies", (.ref p5))]), dictA p2 (dput v_self.boxes v_name v_folder : (List (Str × Str))), dictA p4 (v_self.sums : (List (Str × (Int × Int)))), dictT p5 (v_self.tallies : (List (Kt × Int))), imA (.ref a15) (v_marks : Any), F] : List (Asn G)) := hS
          have hS : Sep H ([dictE dictA p3 (dput s17 v_name (dput x22 s30 true) : (List (Str × (List (Str × Bool))))), imA (.str (s30)) (x18 : Any), cell a_v_self (.ins (G.cl 7) dx1 [("boxes", (.ref p2)), ("tags", (.ref p3)), ("sums", (.ref p4)), ("tallies", (.ref p5))]), dictA p2 (dput v_self.boxes v_name v_folder : (List (Str × Str))), dictA p4 (v_self.sums : (List (Str × (Int × Int)))), dictT p5 (v_self.tallies : (List (Kt × Int))), imA (.ref a15) (v_marks : Any), F] : List (Asn G)) := unfocDE (z := (dput x22 s30 true : (List (Str × Bool)))) hl27 hj28 hp29 (hS.sel [0, 1, 2, 3, 4, 5, 6, 7, 8] (by decide) rfl)
          exact nx _ _ _ hm ⟨_, rfl, hS.sel [0, 2, 3, 4, 5, 6, 7] (by decide) rfl⟩
        · obtain ⟨w20, rfl, hS⟩ := hI
          exact nx _ _ _ hm ⟨_, rfl, hS.sel [0, 1, 2, 3, 4, 5, 6] (by decide) rfl⟩
      ·
        refine st_nx ?_
        exact nx _ _ _ hm ⟨_, rfl, hS.sel [0, 1, 2, 3, 4, 5, 6] (by decide) rfl⟩
      · obtain ⟨w12, rfl, hS⟩ := hI
        refine sq_nx ?_
        refine c_drop ?_
        refine c_meth ?_
        refine ev_to (ev_var rfl) ?_
        refine ⟨_, _, _, rfl, (hS.getCell (i := 1) rfl), rfl, ?_⟩
        refine ea_to (ea_cons (ev_var rfl) (ea_cons ev_c ea_nil)) ?_
        have hS : Sep H (FoldersA a_v_self (⟨dput v_self.boxes v_name v_folder, s11, v_self.sums, v_self.tallies⟩ : Folders) :: [imA a_v_marks (v_marks : Any), F] : List (Asn G)) := pack_Folders (hS.sel [1, 2, 0, 3, 4, 5, 6] (by decide) rfl)
        refine ⟨a_v_self, ((⟨dput v_self.boxes v_name v_folder, s11, v_self.sums, v_self.tallies⟩ : Folders) : Folders), v_name, 1, star [imA a_v_marks (v_marks : Any), F], rfl, Sep.unstar (M := [FoldersA a_v_self (⟨dput v_self.boxes v_name v_folder, s11, v_self.sums, v_self.tallies⟩ : Folders)]) (hS.sel [0, 1, 2] (by decide) rfl : Sep H (([FoldersA a_v_self (⟨dput v_self.boxes v_name v_folder, s11, v_self.sums, v_self.tallies⟩ : Folders)] ++ [imA a_v_marks (v_marks : Any), F] : List (Asn G)))), R.wp_mono (R.wp_noexc hm) (fun r34 hm H hS => ?_) (fun _ z => z)⟩
        have hS : Sep H ([FoldersA a_v_self r34, imA a_v_marks (v_marks : Any), F] : List (Asn G)) := Sep.star (M := [FoldersA a_v_self r34]) hS
        have hS : Sep H (FoldersA a_v_self r34 :: [imA a_v_marks (v_marks : Any), F] : List (Asn G)) := hS.sel [0, 1, 2] (by decide) rfl
        obtain ⟨dx35, p36, p37, p38, p39, hS⟩ := open_Folders hS
        have hS : Sep H ([cell a_v_self (.ins (G.cl 7) dx35 [("boxes", (.ref p36)), ("tags", (.ref p37)), ("sums", (.ref p38)), ("tallies", (.ref p39))]), dictA p36 (r34.boxes : (List (Str × Str))), dictE dictA p37 (r34.tags : (List (Str × (List (Str × Bool))))), dictA p38 (r34.sums : (List (Str × (Int × Int)))), dictT p39 (r34.tallies : (List (Kt × Int))), imA a_v_marks (v_marks : Any), F] : List (Asn G)) := hS
        have hS : Sep H (FoldersA a_v_self r34 :: [imA a_v_marks (v_marks : Any), F] : List (Asn G)) := pack_Folders (hS.sel [0, 1, 2, 3, 4, 5, 6] (by decide) rfl)
        exact hm _ (hS.sel [0, 2] (by decide) rfl)
def sp_Folders_add_L (G : Gx) : Sp := fun vs H Q E => ∃ (a_v_self : Addr) (v_self : Folders) (v_name : Str) (v_folder : Str) (a_v_marks : Addr) (v_marks : (List Str)) (F : Asn G), vs = [.ref a_v_self, (.str (v_name)), (.str (v_folder)), .ref a_v_marks] ∧ Sep H ([FoldersA a_v_self v_self, lstA a_v_marks (v_marks : (List Str)), F] : List (Asn G)) ∧ R.wp (m_Folders_add_L v_self v_name v_folder v_marks) (fun r => ∀ H', Sep H' ([FoldersA a_v_self r, lstA a_v_marks (v_marks : (List Str)), F] : List (Asn G)) → Q .non H') (fun x => ∀ H', Sep H' ([FoldersA a_v_self v_self, lstA a_v_marks (v_marks : (List Str)), F] : List (Asn G)) → Eok G x E H')
abbrev N_Folders_add_L : List Str := ["self", "name", "folder", "marks", "word"]
theorem sc_Folders_add_L : FnScope N_Folders_add_L ["self", "name", "folder", "marks"] (defScope s_Folders_add) := ⟨rfl, rfl, rfl, by decide +kernel, rfl, by decide +kernel, by decide +kernel⟩
theorem ok_Folders_add_L (T : Txt G mg) : FnOk P w G.K mg base (L2.CX P w) 3 T.a_Folders_add T.fd_Folders_add ["self", "name", "folder", "marks"] (sp_Folders_add_L G) := by
  have nd := sc_Folders_add_L.nd
  refine FunD.ok T.F_Folders_add sc_Folders_add_L (fun vs H Q E h => ?_) (fun cdv A outer s H vs Q E hr h => ?_)
  · obtain ⟨a_v_self, v_self, v_name, v_folder, a_v_marks, v_marks, F, rfl, _⟩ := h; rfl
  · obtain ⟨a_v_self, v_self, v_name, v_folder, a_v_marks, v_marks, F, rfl, hS, hm⟩ := h
    refine ⟨_, (pss_cons (ps_if (pt_cmp (pc_din (hu_of hr) (pv 1) (pe_fld (pv 0) rfl))) (pss_one (ps_raise rfl (takes_of rfl rfl rfl rfl) (pmk_own PySem.F.excBase_ValueError T.x_NoName T.g_NoName T.kp_NoName (T.r_NoName rfl) rfl))) pss_nil)
      (pss_cons (ps_asg (pv 2) (pg_sub (pe_fld (pv 0) rfl) (pv 1) (set_dict (hu_of hr))))
      (pss_cons (ps_asg pe_dnewK (pg_sub (pe_fld (pv 0) rfl) (pv 1) (set_dict (hu_of hr))))
      (pss_cons (ps_if (pt_cmp (pc_notN (pe_fz (pv 3)))) (pss_one (ps_for (passes_of rfl) rfl (pi_listK G.K (pe_fz (pv 3))) (pg_name (i := 4) nd rfl (Or.inl rfl)) (pss_one (ps_asg pe_bl (pg_sub (pe_dget (hu_of hr) (pe_fld (pv 0) rfl) (pv 1) (fun _ _ => rfl)) (pv 4) (set_dict (hu_of hr))))))) pss_nil)
      (pss_one (ps_expr (pe_meth (pv 0) T.cl_Folders T.m_Folders_shift (ok_Folders_shift T) (hr.mono (by decide)) T.b_Folders_shift .nil pass0 (pa_cons (pv 1) (pa_cons pe_int pa_nil))))))))), ?_⟩
    unfold m_Folders_add_L at hm
    have hS : Sep H (FoldersA a_v_self v_self :: [lstA a_v_marks (v_marks : (List Str)), F] : List (Asn G)) := hS.sel [0, 1, 2] (by decide) rfl
    obtain ⟨dx1, p2, p3, p4, p5, hS⟩ := open_Folders hS
    have hS : Sep H ([cell a_v_self (.ins (G.cl 7) dx1 [("boxes", (.ref p2)), ("tags", (.ref p3)), ("sums", (.ref p4)), ("tallies", (.ref p5))]), dictA p2 (v_self.boxes : (List (Str × Str))), dictE dictA p3 (v_self.tags : (List (Str × (List (Str × Bool))))), dictA p4 (v_self.sums : (List (Str × (Int × Int)))), dictT p5 (v_self.tallies : (List (Kt × Int))), lstA a_v_marks (v_marks : (List Str)), F] : List (Asn G)) := hS
    refine f_seq ?_
    refine f_if ?_
    refine et_to (et_B (ev_din hS (i := 1) (k := v_name) rfl (ev_var rfl) (ev_fld (ev_var rfl) (hS.getCell (i := 0) rfl) T.cl_Folders T.n_Folders_boxes rfl))) ?_
    refine ifK_2 (fun hb6 => ?_) (fun hb6 => ?_)
    · have hm := R.wp_ifY hm hb6
      have hS : Sep H (FoldersA a_v_self v_self :: [lstA a_v_marks (v_marks : (List Str)), F] : List (Asn G)) := pack_Folders (hS.sel [0, 1, 2, 3, 4, 5, 6] (by decide) rfl)
      exact hm _ (hS.sel [0, 1, 2] (by decide) rfl)
    · have hm := R.wp_ifN hm (by first | (rw [hb6]; decide) | simpa using hb6)
      refine st_nx ?_
      refine sq_nx ?_
      refine f_seq ?_
      refine c_asgS ?_
      refine ev_to (ev_var rfl) ?_
      refine ev_to (ev_fld (ev_var rfl) (hS.getCell (i := 0) rfl) T.cl_Folders T.n_Folders_boxes rfl) ?_
      refine ev_to (ev_var rfl) ?_
      obtain ⟨h7, hm⟩ := R.wp_need hm
      refine k_setD (k := v_name) (y := v_folder) hS (i := 1) rfl rfl h7 rfl fun H hS => ?_
      have hS : Sep H ([cell a_v_self (.ins (G.cl 7) dx1 [("boxes", (.ref p2)), ("tags", (.ref p3)), ("sums", (.ref p4)), ("tallies", (.ref p5))]), dictA p2 (dput v_self.boxes v_name v_folder : (List (Str × Str))), dictE dictA p3 (v_self.tags : (List (Str × (List (Str × Bool))))), dictA p4 (v_self.sums : (List (Str × (Int × Int)))), dictT p5 (v_self.tallies : (List (Kt × Int))), lstA a_v_marks (v_marks : (List Str)), F] : List (Asn G)) := hS
      refine sq_nx ?_
      refine f_seq ?_
      refine c_asgS ?_
      refine k_dnew (κ := Str) (β := Bool) hS fun p8 H hS => ?_
      refine ev_to (ev_fld (ev_var rfl) (hS.getCell (i := 1) rfl) T.cl_Folders T.n_Folders_tags rfl) ?_
      refine ev_to (ev_var rfl) ?_
      obtain ⟨h9, hm⟩ := R.wp_need hm
      obtain ⟨h10, hm⟩ := R.wp_need hm
      refine k_newE' (k := v_name) (hS.sel [3, 0, 1, 2, 4, 5, 6, 7] (by decide) rfl : Sep H (dictE dictA p3 (v_self.tags : (List (Str × (List (Str × Bool))))) :: dictA p8 (([] : (List (Str × Bool))) : (List (Str × Bool))) :: [cell a_v_self (.ins (G.cl 7) dx1 [("boxes", (.ref p2)), ("tags", (.ref p3)), ("sums", (.ref p4)), ("tallies", (.ref p5))]), dictA p2 (dput v_self.boxes v_name v_folder : (List (Str × Str))), dictA p4 (v_self.sums : (List (Str × (Int × Int)))), dictT p5 (v_self.tallies : (List (Kt × Int))), lstA a_v_marks (v_marks : (List Str)), F] : List (Asn G))) h10 h9 fun H hS => ?_
      have hS : Sep H ([dictE dictA p3 (v_self.tags ++ [(v_name, ([] : (List (Str × Bool))))] : (List (Str × (List (Str × Bool))))), cell a_v_self (.ins (G.cl 7) dx1 [("boxes", (.ref p2)), ("tags", (.ref p3)), ("sums", (.ref p4)), ("tallies", (.ref p5))]), dictA p2 (dput v_self.boxes v_name v_folder : (List (Str × Str))), dictA p4 (v_self.sums : (List (Str × (Int × Int)))), dictT p5 (v_self.tallies : (List (Kt × Int))), lstA a_v_marks (v_marks : (List Str)), F] : List (Asn G)) := hS
      refine sq_nx ?_
      refine f_seq ?_
      refine f_if ?_
      refine et_to (et_B (ev_notN (ev_fz (ev_var rfl)) (any_lst hS (i := 5) rfl))) ?_
      refine ifK_t ?_
      refine c_for ?_
      refine c_il ?_
      refine ev_to (ev_fz (ev_var rfl)) ?_
      refine k_il hS (i := 5) rfl ?_
      refine k_for (τ := (List (Str × (List (Str × Bool))))) (fun (s11 : (List (Str × (List (Str × Bool))))) (σ : L2.St) (H : Hp) => ∃ (w14 : Option V), σ = [some (.ref a_v_self), some (.str (v_name)), some (.str (v_folder)), some (.ref a_v_marks), w14] ∧ Sep H ([dictE dictA p3 (s11 : (List (Str × (List (Str × Bool))))), cell a_v_self (.ins (G.cl 7) dx1 [("boxes", (.ref p2)), ("tags", (.ref p3)), ("sums", (.ref p4)), ("tallies", (.ref p5))]), dictA p2 (dput v_self.boxes v_name v_folder : (List (Str × Str))), dictA p4 (v_self.sums : (List (Str × (Int × Int)))), dictT p5 (v_self.tallies : (List (Kt × Int))), lstA a_v_marks (v_marks : (List Str)), F] : List (Asn G))) (im := (Im.im G)) (s := (v_self.tags ++ [(v_name, ([] : (List (Str × Bool))))])) (fun _ => wk_list fun _ _ ⟨_, _, h⟩ => h.sq (i := 5) rfl) ⟨_, rfl, hS.sel [0, 1, 2, 3, 4, 5, 6] (by decide) rfl⟩ hm (fun s11 x12 v13 σ H q N hI hx hm nx => ?_) (fun s11 σ H hm hI => ?_)
      ·
        obtain ⟨w14, rfl, hS⟩ := hI
        cases hx
        refine c_gN (σ' := [some (.ref a_v_self), some (.str (v_name)), some (.str (v_folder)), some (.ref a_v_marks), some (.str (x12))]) rfl ?_
        refine c_asgS ?_
        refine ev_to ev_c ?_
        refine c_dget ?_
        refine ev_to (ev_fld (ev_var rfl) (hS.getCell (i := 1) rfl) T.cl_Folders T.n_Folders_tags rfl) ?_
        refine k_dget1 ?_
        refine ev_to (ev_var rfl) ?_
        obtain ⟨x15, h16, hm⟩ := wp_dgetX hm
        refine k_dgetE (y := (x15 : (List (Str × Bool)))) (hS.sel [0, 1, 2, 3, 4, 5, 6] (by decide) rfl : Sep _ (dictE dictA p3 (s11 : (List (Str × (List (Str × Bool))))) :: [cell a_v_self (.ins (G.cl 7) dx1 [("boxes", (.ref p2)), ("tags", (.ref p3)), ("sums", (.ref p4)), ("tallies", (.ref p5))]), dictA p2 (dput v_self.boxes v_name v_folder : (List (Str × Str))), dictA p4 (v_self.sums : (List (Str × (Int × Int)))), dictT p5 (v_self.tallies : (List (Kt × Int))), lstA a_v_marks (v_marks : (List Str)), F] : List (Asn G))) h16 fun ps17 p18 j19 hl20 hj21 hp22 hS => ?_
        have hS : Sep H ([dictA p18 (x15 : (List (Str × Bool))), dictXH id dictA p3 ps17 (s11 : (List (Str × (List (Str × Bool))))) j19, cell a_v_self (.ins (G.cl 7) dx1 [("boxes", (.ref p2)), ("tags", (.ref p3)), ("sums", (.ref p4)), ("tallies", (.ref p5))]), dictA p2 (dput v_self.boxes v_name v_folder : (List (Str × Str))), dictA p4 (v_self.sums : (List (Str × (Int × Int)))), dictT p5 (v_self.tallies : (List (Kt × Int))), lstA a_v_marks (v_marks : (List Str)), F] : List (Asn G)) := hS
        refine ev_to (ev_var rfl) ?_
        obtain ⟨h23, hm⟩ := R.wp_need hm
        refine k_setD (k := x12) (y := true) hS (i := 0) rfl rfl h23 rfl fun H hS => ?_
        have hS : Sep H ([dictA p18 (dput x15 x12 true : (List (Str × Bool))), dictXH id dictA p3 ps17 (s11 : (List (Str × (List (Str × Bool))))) j19, cell a_v_self (.ins (G.cl 7) dx1 [("boxes", (.ref p2)), ("tags", (.ref p3)), ("sums", (.ref p4)), ("tallies", (.ref p5))]), dictA p2 (dput v_self.boxes v_name v_folder : (List (Str × Str))), dictA p4 (v_self.sums : (List (Str × (Int × Int)))), dictT p5 (v_self.tallies : (List (Kt × Int))), lstA a_v_marks (v_marks : (List Str)), F] : List (Asn G)) := hS
        have hS : Sep H ([dictE dictA p3 (dput s11 v_name (dput x15 x12 true) : (List (Str × (List (Str × Bool))))), cell a_v_self (.ins (G.cl 7) dx1 [("boxes", (.ref p2)), ("tags", (.ref p3)), ("sums", (.ref p4)), ("tallies", (.ref p5))]), dictA p2 (dput v_self.boxes v_name v_folder : (List (Str × Str))), dictA p4 (v_self.sums : (List (Str × (Int × Int)))), dictT p5 (v_self.tallies : (List (Kt × Int))), lstA a_v_marks (v_marks : (List Str)), F] : List (Asn G)) := unfocDE (z := (dput x15 x12 true : (List (Str × Bool)))) hl20 hj21 hp22 (hS.sel [0, 1, 2, 3, 4, 5, 6, 7] (by decide) rfl)
        exact nx _ _ _ hm ⟨_, rfl, hS.sel [0, 1, 2, 3, 4, 5, 6] (by decide) rfl⟩
      · obtain ⟨w14, rfl, hS⟩ := hI
        refine sq_nx ?_
        refine c_drop ?_
        refine c_meth ?_
        refine ev_to (ev_var rfl) ?_
        refine ⟨_, _, _, rfl, (hS.getCell (i := 1) rfl), rfl, ?_⟩
        refine ea_to (ea_cons (ev_var rfl) (ea_cons ev_c ea_nil)) ?_
        have hS : Sep H (FoldersA a_v_self (⟨dput v_self.boxes v_name v_folder, s11, v_self.sums, v_self.tallies⟩ : Folders) :: [lstA a_v_marks (v_marks : (List Str)), F] : List (Asn G)) := pack_Folders (hS.sel [1, 2, 0, 3, 4, 5, 6] (by decide) rfl)
        refine ⟨a_v_self, ((⟨dput v_self.boxes v_name v_folder, s11, v_self.sums, v_self.tallies⟩ : Folders) : Folders), v_name, 1, star [lstA a_v_marks (v_marks : (List Str)), F], rfl, Sep.unstar (M := [FoldersA a_v_self (⟨dput v_self.boxes v_name v_folder, s11, v_self.sums, v_self.tallies⟩ : Folders)]) (hS.sel [0, 1, 2] (by decide) rfl : Sep H (([FoldersA a_v_self (⟨dput v_self.boxes v_name v_folder, s11, v_self.sums, v_self.tallies⟩ : Folders)] ++ [lstA a_v_marks (v_marks : (List Str)), F] : List (Asn G)))), R.wp_mono (R.wp_noexc hm) (fun r24 hm H hS => ?_) (fun _ z => z)⟩
        have hS : Sep H ([FoldersA a_v_self r24, lstA a_v_marks (v_marks : (List Str)), F] : List (Asn G)) := Sep.star (M := [FoldersA a_v_self r24]) hS
        have hS : Sep H (FoldersA a_v_self r24 :: [lstA a_v_marks (v_marks : (List Str)), F] : List (Asn G)) := hS.sel [0, 1, 2] (by decide) rfl
        obtain ⟨dx25, p26, p27, p28, p29, hS⟩ := open_Folders hS
        have hS : Sep H ([cell a_v_self (.ins (G.cl 7) dx25 [("boxes", (.ref p26)), ("tags", (.ref p27)), ("sums", (.ref p28)), ("tallies", (.ref p29))]), dictA p26 (r24.boxes : (List (Str × Str))), dictE dictA p27 (r24.tags : (List (Str × (List (Str × Bool))))), dictA p28 (r24.sums : (List (Str × (Int × Int)))), dictT p29 (r24.tallies : (List (Kt × Int))), lstA a_v_marks (v_marks : (List Str)), F] : List (Asn G)) := hS
        have hS : Sep H (FoldersA a_v_self r24 :: [lstA a_v_marks (v_marks : (List Str)), F] : List (Asn G)) := pack_Folders (hS.sel [0, 1, 2, 3, 4, 5, 6] (by decide) rfl)
        exact hm _ (hS.sel [0, 1, 2] (by decide) rfl)
def sp_Folders_take_out (G : Gx) : Sp := fun vs H Q E => ∃ (a_v_self : Addr) (v_self : Folders) (v_name : Str) (F : Asn G), vs = [.ref a_v_self, (.str (v_name))] ∧ Sep H ([FoldersA a_v_self v_self, F] : List (Asn G)) ∧ R.wp (m_Folders_take_out v_self v_name) (fun r => ∀ H', Sep H' ([FoldersA a_v_self r, F] : List (Asn G)) → Q .non H') (fun x => ∀ H', Sep H' ([FoldersA a_v_self v_self, F] : List (Asn G)) → Eok G x E H')
abbrev N_Folders_take_out : List Str := ["self", "name"]
theorem sc_Folders_take_out : FnScope N_Folders_take_out ["self", "name"] (defScope s_Folders_take_out) := ⟨rfl, rfl, rfl, by decide +kernel, rfl, by decide +kernel, by decide +kernel⟩
theorem ok_Folders_take_out (T : Txt G mg) : FnOk P w G.K mg base (L2.CX P w) 3 T.a_Folders_take_out T.fd_Folders_take_out ["self", "name"] (sp_Folders_take_out G) := by
  have nd := sc_Folders_take_out.nd
  refine Fun.okX T.F_Folders_take_out sc_Folders_take_out (fun vs H Q E h => ?_) (fun cdv A outer s H vs Q E hr h => ?_)
  · obtain ⟨a_v_self, v_self, v_name, F, rfl, _⟩ := h; rfl
  · obtain ⟨a_v_self, v_self, v_name, F, rfl, hS, hm⟩ := h
    refine ⟨_, (pss_cons (ps_expr (pe_meth (pv 0) T.cl_Folders T.m_Folders_need (ok_Folders_need T) (hr.mono (by decide)) T.b_Folders_need .nil (passes_call (takes_of rfl rfl rfl rfl) (fun _ _ _ _ h => h)) (pa_cons (pv 1) pa_nil)))
      (pss_cons (ps_expr (pe_meth (pv 0) T.cl_Folders T.m_Folders_shift (ok_Folders_shift T) (hr.mono (by decide)) T.b_Folders_shift .nil pass0 (pa_cons (pv 1) (pa_cons (pe_un un_neg pe_int) pa_nil))))
      (pss_cons (ps_expr (pe_dpop1 (pe_fld (pv 0) rfl) (pv 1) m1))
      (pss_one (ps_expr (pe_dpop1 (pe_fld (pv 0) rfl) (pv 1) m1)))))), ?_⟩
    unfold m_Folders_take_out at hm
    have hS : Sep H (FoldersA a_v_self v_self :: [F] : List (Asn G)) := hS.sel [0, 1] (by decide) rfl
    obtain ⟨dx1, p2, p3, p4, p5, hS⟩ := open_Folders hS
    have hS : Sep H ([cell a_v_self (.ins (G.cl 7) dx1 [("boxes", (.ref p2)), ("tags", (.ref p3)), ("sums", (.ref p4)), ("tallies", (.ref p5))]), dictA p2 (v_self.boxes : (List (Str × Str))), dictE dictA p3 (v_self.tags : (List (Str × (List (Str × Bool))))), dictA p4 (v_self.sums : (List (Str × (Int × Int)))), dictT p5 (v_self.tallies : (List (Kt × Int))), F] : List (Asn G)) := hS
    refine f_seq ?_
    refine c_drop ?_
    refine c_meth ?_
    refine ev_to (ev_var rfl) ?_
    refine ⟨_, _, _, rfl, (hS.getCell (i := 0) rfl), rfl, ?_⟩
    refine ea_to (ea_cons (ev_var rfl) ea_nil) ?_
    have hS : Sep H (FoldersA a_v_self v_self :: [F] : List (Asn G)) := pack_Folders (hS.sel [0, 1, 2, 3, 4, 5] (by decide) rfl)
    refine ⟨a_v_self, (v_self : Folders), v_name, star [F], rfl, Sep.unstar (M := [FoldersA a_v_self v_self]) (hS.sel [0, 1] (by decide) rfl : Sep H (([FoldersA a_v_self v_self] ++ [F] : List (Asn G)))), R.wp_mono (R.wp_bind hm) (fun r6 hm H hS => ?_) (fun x hx H hS => ?_)⟩
    ·
      have hS : Sep H ([FoldersA a_v_self v_self, F] : List (Asn G)) := Sep.star (M := [FoldersA a_v_self v_self]) hS
      have hS : Sep H (FoldersA a_v_self v_self :: [F] : List (Asn G)) := hS.sel [0, 1] (by decide) rfl
      obtain ⟨dx7, p8, p9, p10, p11, hS⟩ := open_Folders hS
      have hS : Sep H ([cell a_v_self (.ins (G.cl 7) dx7 [("boxes", (.ref p8)), ("tags", (.ref p9)), ("sums", (.ref p10)), ("tallies", (.ref p11))]), dictA p8 (v_self.boxes : (List (Str × Str))), dictE dictA p9 (v_self.tags : (List (Str × (List (Str × Bool))))), dictA p10 (v_self.sums : (List (Str × (Int × Int)))), dictT p11 (v_self.tallies : (List (Kt × Int))), F] : List (Asn G)) := hS
      refine sq_nx ?_
      refine f_seq ?_
      refine c_drop ?_
      refine c_meth ?_
      refine ev_to (ev_var rfl) ?_
      refine ⟨_, _, _, rfl, (hS.getCell (i := 0) rfl), rfl, ?_⟩
      refine ea_to (ea_cons (ev_var rfl) (ea_cons (ev_un ev_c fun _ q => ⟨_, rfl, q⟩) ea_nil)) ?_
      have hS : Sep H (FoldersA a_v_self v_self :: [F] : List (Asn G)) := pack_Folders (hS.sel [0, 1, 2, 3, 4, 5] (by decide) rfl)
      refine ⟨a_v_self, (v_self : Folders), v_name, (-1), star [F], rfl, Sep.unstar (M := [FoldersA a_v_self v_self]) (hS.sel [0, 1] (by decide) rfl : Sep H (([FoldersA a_v_self v_self] ++ [F] : List (Asn G)))), R.wp_mono (R.wp_noexc hm) (fun r12 hm H hS => ?_) (fun _ z => z)⟩
      have hS : Sep H ([FoldersA a_v_self r12, F] : List (Asn G)) := Sep.star (M := [FoldersA a_v_self r12]) hS
      have hS : Sep H (FoldersA a_v_self r12 :: [F] : List (Asn G)) := hS.sel [0, 1] (by decide) rfl
      obtain ⟨dx13, p14, p15, p16, p17, hS⟩ := open_Folders hS
      have hS : Sep H ([cell a_v_self (.ins (G.cl 7) dx13 [("boxes", (.ref p14)), ("tags", (.ref p15)), ("sums", (.ref p16)), ("tallies", (.ref p17))]), dictA p14 (r12.boxes : (List (Str × Str))), dictE dictA p15 (r12.tags : (List (Str × (List (Str × Bool))))), dictA p16 (r12.sums : (List (Str × (Int × Int)))), dictT p17 (r12.tallies : (List (Kt × Int))), F] : List (Asn G)) := hS
      refine sq_nx ?_
      refine f_seq ?_
      refine c_drop ?_
      refine c_dpop1 ?_
      refine ev_to (ev_fld (ev_var rfl) (hS.getCell (i := 0) rfl) T.cl_Folders T.n_Folders_boxes rfl) ?_
      refine k_pop1a (isD_of hS (i := 1) rfl) ?_
      refine ev_to (ev_var rfl) ?_
      obtain ⟨y18, hy18, hm⟩ := wp_dgetX hm
      refine k_pop1A (k := v_name) hS (i := 1) rfl hy18 rfl fun v19 H hS => ?_
      obtain rfl : v19 = (.str (y18)) := hS.im (i := 0) rfl
      have hS := hS.tail
      have hS : Sep H ([cell a_v_self (.ins (G.cl 7) dx13 [("boxes", (.ref p14)), ("tags", (.ref p15)), ("sums", (.ref p16)), ("tallies", (.ref p17))]), dictA p14 (ddrop r12.boxes v_name : (List (Str × Str))), dictE dictA p15 (r12.tags : (List (Str × (List (Str × Bool))))), dictA p16 (r12.sums : (List (Str × (Int × Int)))), dictT p17 (r12.tallies : (List (Kt × Int))), F] : List (Asn G)) := hS
      refine sq_nx ?_
      refine c_drop ?_
      refine c_dpop1 ?_
      refine ev_to (ev_fld (ev_var rfl) (hS.getCell (i := 0) rfl) T.cl_Folders T.n_Folders_tags rfl) ?_
      refine k_pop1a (isD_Ei hS (i := 2) rfl) ?_
      refine ev_to (ev_var rfl) ?_
      obtain ⟨y20, hy20, hm⟩ := wp_dgetX hm
      refine k_pop1E (hS.sel [2, 0, 1, 3, 4, 5] (by decide) rfl : Sep _ (dictE dictA p15 (r12.tags : (List (Str × (List (Str × Bool))))) :: [cell a_v_self (.ins (G.cl 7) dx13 [("boxes", (.ref p14)), ("tags", (.ref p15)), ("sums", (.ref p16)), ("tallies", (.ref p17))]), dictA p14 (ddrop r12.boxes v_name : (List (Str × Str))), dictA p16 (r12.sums : (List (Str × (Int × Int)))), dictT p17 (r12.tallies : (List (Kt × Int))), F] : List (Asn G))) hy20 fun v21 H hS => ?_
      have hS : Sep H ([dictA v21 (y20 : (List (Str × Bool))), dictE dictA p15 (ddrop r12.tags v_name : (List (Str × (List (Str × Bool))))), cell a_v_self (.ins (G.cl 7) dx13 [("boxes", (.ref p14)), ("tags", (.ref p15)), ("sums", (.ref p16)), ("tallies", (.ref p17))]), dictA p14 (ddrop r12.boxes v_name : (List (Str × Str))), dictA p16 (r12.sums : (List (Str × (Int × Int)))), dictT p17 (r12.tallies : (List (Kt × Int))), F] : List (Asn G)) := hS
      have hS : Sep H (FoldersA a_v_self (⟨ddrop r12.boxes v_name, ddrop r12.tags v_name, r12.sums, r12.tallies⟩ : Folders) :: [dictA v21 (y20 : (List (Str × Bool))), F] : List (Asn G)) := pack_Folders (hS.sel [2, 3, 1, 4, 5, 0, 6] (by decide) rfl)
      exact hm _ (hS.sel [0, 2] (by decide) rfl)
    ·
      have hS : Sep H ([FoldersA a_v_self v_self, F] : List (Asn G)) := Sep.star (M := [FoldersA a_v_self v_self]) hS
      exact hx _ (hS.sel [0, 1] (by decide) rfl)
def sp_Folders_take_out_A (G : Gx) : Sp := fun vs H Q E => ∃ (a_v_self : Addr) (v_self : Folders) (a_v_name : V) (v_name : Any) (F : Asn G), vs = [.ref a_v_self, a_v_name] ∧ Im.im G H a_v_name v_name ∧ Sep H ([FoldersA a_v_self v_self, F] : List (Asn G)) ∧ R.wp (m_Folders_take_out_A v_self v_name) (fun r => ∀ H', Sep H' ([FoldersA a_v_self r, F] : List (Asn G)) → Q .non H') (fun x => ∀ H', Sep H' ([FoldersA a_v_self v_self, F] : List (Asn G)) → Eok G x E H')
abbrev N_Folders_take_out_A : List Str := ["self", "name"]
theorem sc_Folders_take_out_A : FnScope N_Folders_take_out_A ["self", "name"] (defScope s_Folders_take_out) := ⟨rfl, rfl, rfl, by decide +kernel, rfl, by decide +kernel, by decide +kernel⟩
theorem ok_Folders_take_out_A (T : Txt G mg) : FnOk P w G.K mg base (L2.CX P w) 3 T.a_Folders_take_out T.fd_Folders_take_out ["self", "name"] (sp_Folders_take_out_A G) := by
  have nd := sc_Folders_take_out_A.nd
  refine Fun.okX T.F_Folders_take_out sc_Folders_take_out_A (fun vs H Q E h => ?_) (fun cdv A outer s H vs Q E hr h => ?_)
  · obtain ⟨a_v_self, v_self, a_v_name, v_name, F, rfl, _⟩ := h; rfl
  · obtain ⟨a_v_self, v_self, a_v_name, v_name, F, rfl, him_v_name, hS, hm⟩ := h
    have hS := hS.addIm him_v_name
    refine ⟨_, (pss_cons (ps_expr (pe_meth (pv 0) T.cl_Folders T.m_Folders_need (ok_Folders_need_A T) (hr.mono (by decide)) T.b_Folders_need .nil (passes_call (takes_of rfl rfl rfl rfl) (fun _ _ _ _ h => h)) (pa_cons (pv 1) pa_nil)))
      (pss_cons (ps_expr (pe_meth (pv 0) T.cl_Folders T.m_Folders_shift (ok_Folders_shift T) (hr.mono (by decide)) T.b_Folders_shift .nil pass0 (pa_cons (pv 1) (pa_cons (pe_un un_neg pe_int) pa_nil))))
      (pss_cons (ps_expr (pe_dpop1 (pe_fld (pv 0) rfl) (pv 1) m1))
      (pss_one (ps_expr (pe_dpop1 (pe_fld (pv 0) rfl) (pv 1) m1)))))), ?_⟩
    unfold m_Folders_take_out_A at hm
    have hS : Sep H (FoldersA a_v_self v_self :: [imA a_v_name (v_name : Any), F] : List (Asn G)) := hS.sel [1, 0, 2] (by decide) rfl
    obtain ⟨dx1, p2, p3, p4, p5, hS⟩ := open_Folders hS
    have hS : Sep H ([cell a_v_self (.ins (G.cl 7) dx1 [("boxes", (.ref p2)), ("tags", (.ref p3)), ("sums", (.ref p4)), ("tallies", (.ref p5))]), dictA p2 (v_self.boxes : (List (Str × Str))), dictE dictA p3 (v_self.tags : (List (Str × (List (Str × Bool))))), dictA p4 (v_self.sums : (List (Str × (Int × Int)))), dictT p5 (v_self.tallies : (List (Kt × Int))), imA a_v_name (v_name : Any), F] : List (Asn G)) := hS
    refine f_seq ?_
    refine c_drop ?_
    refine c_meth ?_
    refine ev_to (ev_var rfl) ?_
    refine ⟨_, _, _, rfl, (hS.getCell (i := 0) rfl), rfl, ?_⟩
    refine ea_to (ea_cons (ev_var rfl) ea_nil) ?_
    have hS : Sep H (FoldersA a_v_self v_self :: [imA a_v_name (v_name : Any), F] : List (Asn G)) := pack_Folders (hS.sel [0, 1, 2, 3, 4, 5, 6] (by decide) rfl)
    refine ⟨a_v_self, (v_self : Folders), a_v_name, (v_name : Any), star [imA a_v_name (v_name : Any), F], rfl, (hS.im (i := 1) rfl), Sep.unstar (M := [FoldersA a_v_self v_self]) (hS.sel [0, 1, 2] (by decide) rfl : Sep H (([FoldersA a_v_self v_self] ++ [imA a_v_name (v_name : Any), F] : List (Asn G)))), R.wp_mono (R.wp_bind hm) (fun r6 hm H hS => ?_) (fun x hx H hS => ?_)⟩
    ·
      have hS : Sep H ([FoldersA a_v_self v_self, imA a_v_name (v_name : Any), F] : List (Asn G)) := Sep.star (M := [FoldersA a_v_self v_self]) hS
      have hS : Sep H (FoldersA a_v_self v_self :: [imA a_v_name (v_name : Any), F] : List (Asn G)) := hS.sel [0, 1, 2] (by decide) rfl
      obtain ⟨dx7, p8, p9, p10, p11, hS⟩ := open_Folders hS
      have hS : Sep H ([cell a_v_self (.ins (G.cl 7) dx7 [("boxes", (.ref p8)), ("tags", (.ref p9)), ("sums", (.ref p10)), ("tallies", (.ref p11))]), dictA p8 (v_self.boxes : (List (Str × Str))), dictE dictA p9 (v_self.tags : (List (Str × (List (Str × Bool))))), dictA p10 (v_self.sums : (List (Str × (Int × Int)))), dictT p11 (v_self.tallies : (List (Kt × Int))), imA a_v_name (v_name : Any), F] : List (Asn G)) := hS
      refine sq_nx ?_
      refine f_seq ?_
      refine c_drop ?_
      refine c_meth ?_
      refine ev_to (ev_var rfl) ?_
      refine ⟨_, _, _, rfl, (hS.getCell (i := 0) rfl), rfl, ?_⟩
      refine ea_to (ea_cons (ev_var rfl) (ea_cons (ev_un ev_c fun _ q => ⟨_, rfl, q⟩) ea_nil)) ?_
      have hS : Sep H (FoldersA a_v_self v_self :: [imA a_v_name (v_name : Any), F] : List (Asn G)) := pack_Folders (hS.sel [0, 1, 2, 3, 4, 5, 6] (by decide) rfl)
      obtain ⟨s12, hs13, hm⟩ := Ml.wp_asStr hm
      have hv14 := v_str (hS.im (i := 1) rfl) hs13
      subst hv14
      refine ⟨a_v_self, (v_self : Folders), s12, (-1), star [imA (.str (s12)) (v_name : Any), F], rfl, Sep.unstar (M := [FoldersA a_v_self v_self]) (hS.sel [0, 1, 2] (by decide) rfl : Sep H (([FoldersA a_v_self v_self] ++ [imA (.str (s12)) (v_name : Any), F] : List (Asn G)))), R.wp_mono (R.wp_noexc hm) (fun r15 hm H hS => ?_) (fun _ z => z)⟩
      have hS : Sep H ([FoldersA a_v_self r15, imA (.str (s12)) (v_name : Any), F] : List (Asn G)) := Sep.star (M := [FoldersA a_v_self r15]) hS
      have hS : Sep H (FoldersA a_v_self r15 :: [imA (.str (s12)) (v_name : Any), F] : List (Asn G)) := hS.sel [0, 1, 2] (by decide) rfl
      obtain ⟨dx16, p17, p18, p19, p20, hS⟩ := open_Folders hS
      have hS : Sep H ([cell a_v_self (.ins (G.cl 7) dx16 [("boxes", (.ref p17)), ("tags", (.ref p18)), ("sums", (.ref p19)), ("tallies", (.ref p20))]), dictA p17 (r15.boxes : (List (Str × Str))), dictE dictA p18 (r15.tags : (List (Str × (List (Str × Bool))))), dictA p19 (r15.sums : (List (Str × (Int × Int)))), dictT p20 (r15.tallies : (List (Kt × Int))), imA (.str (s12)) (v_name : Any), F] : List (Asn G)) := hS
      refine sq_nx ?_
      refine f_seq ?_
      refine c_drop ?_
      refine c_dpop1 ?_
      refine ev_to (ev_fld (ev_var rfl) (hS.getCell (i := 0) rfl) T.cl_Folders T.n_Folders_boxes rfl) ?_
      refine k_pop1a (isD_of hS (i := 1) rfl) ?_
      refine ev_to (ev_var rfl) ?_
      obtain ⟨s21, hs22, hm⟩ := Ml.wp_asStr hm
      have hv23 := v_str (hS.im (i := 5) rfl) hs22
      injection hv23 with hv23; subst hv23
      obtain ⟨y24, hy24, hm⟩ := wp_dgetX hm
      refine k_pop1A (k := s12) hS (i := 1) rfl hy24 rfl fun v25 H hS => ?_
      obtain rfl : v25 = (.str (y24)) := hS.im (i := 0) rfl
      have hS := hS.tail
      have hS : Sep H ([cell a_v_self (.ins (G.cl 7) dx16 [("boxes", (.ref p17)), ("tags", (.ref p18)), ("sums", (.ref p19)), ("tallies", (.ref p20))]), dictA p17 (ddrop r15.boxes s12 : (List (Str × Str))), dictE dictA p18 (r15.tags : (List (Str × (List (Str × Bool))))), dictA p19 (r15.sums : (List (Str × (Int × Int)))), dictT p20 (r15.tallies : (List (Kt × Int))), imA (.str (s12)) (v_name : Any), F] : List (Asn G)) := hS
      refine sq_nx ?_
      refine c_drop ?_
      refine c_dpop1 ?_
      refine ev_to (ev_fld (ev_var rfl) (hS.getCell (i := 0) rfl) T.cl_Folders T.n_Folders_tags rfl) ?_
      refine k_pop1a (isD_Ei hS (i := 2) rfl) ?_
      refine ev_to (ev_var rfl) ?_
      obtain ⟨s26, hs27, hm⟩ := Ml.wp_asStr hm
      have hv28 := v_str (hS.im (i := 5) rfl) hs27
      injection hv28 with hv28; subst hv28
      obtain ⟨y29, hy29, hm⟩ := wp_dgetX hm
      refine k_pop1E (hS.sel [2, 0, 1, 3, 4, 5, 6] (by decide) rfl : Sep _ (dictE dictA p18 (r15.tags : (List (Str × (List (Str × Bool))))) :: [cell a_v_self (.ins (G.cl 7) dx16 [("boxes", (.ref p17)), ("tags", (.ref p18)), ("sums", (.ref p19)), ("tallies", (.ref p20))]), dictA p17 (ddrop r15.boxes s12 : (List (Str × Str))), dictA p19 (r15.sums : (List (Str × (Int × Int)))), dictT p20 (r15.tallies : (List (Kt × Int))), imA (.str (s12)) (v_name : Any), F] : List (Asn G))) hy29 fun v30 H hS => ?_
      have hS : Sep H ([dictA v30 (y29 : (List (Str × Bool))), dictE dictA p18 (ddrop r15.tags s12 : (List (Str × (List (Str × Bool))))), cell a_v_self (.ins (G.cl 7) dx16 [("boxes", (.ref p17)), ("tags", (.ref p18)), ("sums", (.ref p19)), ("tallies", (.ref p20))]), dictA p17 (ddrop r15.boxes s12 : (List (Str × Str))), dictA p19 (r15.sums : (List (Str × (Int × Int)))), dictT p20 (r15.tallies : (List (Kt × Int))), imA (.str (s12)) (v_name : Any), F] : List (Asn G)) := hS
      have hS : Sep H (FoldersA a_v_self (⟨ddrop r15.boxes s12, ddrop r15.tags s12, r15.sums, r15.tallies⟩ : Folders) :: [dictA v30 (y29 : (List (Str × Bool))), imA (.str (s12)) (v_name : Any), F] : List (Asn G)) := pack_Folders (hS.sel [2, 3, 1, 4, 5, 0, 6, 7] (by decide) rfl)
      exact hm _ (hS.sel [0, 3] (by decide) rfl)
    ·
      have hS : Sep H ([FoldersA a_v_self v_self, imA a_v_name (v_name : Any), F] : List (Asn G)) := Sep.star (M := [FoldersA a_v_self v_self]) hS
      exact hx _ (hS.sel [0, 2] (by decide) rfl)
def sp_Folders_place (G : Gx) : Sp := fun vs H Q E => ∃ (a_v_self : Addr) (v_self : Folders) (v_name : Str) (v_folder : Str) (F : Asn G), vs = [.ref a_v_self, (.str (v_name)), (.str (v_folder))] ∧ Sep H ([FoldersA a_v_self v_self, F] : List (Asn G)) ∧ R.wp (m_Folders_place v_self v_name v_folder) (fun r => ∀ H', Sep H' ([FoldersA a_v_self r, F] : List (Asn G)) → Q .non H') (fun x => ∀ H', Sep H' ([FoldersA a_v_self v_self, F] : List (Asn G)) → Eok G x E H')
abbrev N_Folders_place : List Str := ["self", "name", "folder"]
theorem sc_Folders_place : FnScope N_Folders_place ["self", "name", "folder"] (defScope s_Folders_place) := ⟨rfl, rfl, rfl, by decide +kernel, rfl, by decide +kernel, by decide +kernel⟩
theorem ok_Folders_place (T : Txt G mg) : FnOk P w G.K mg base (L2.CX P w) 3 T.a_Folders_place T.fd_Folders_place ["self", "name", "folder"] (sp_Folders_place G) := by
  have nd := sc_Folders_place.nd
  refine Fun.okX T.F_Folders_place sc_Folders_place (fun vs H Q E h => ?_) (fun cdv A outer s H vs Q E hr h => ?_)
  · obtain ⟨a_v_self, v_self, v_name, v_folder, F, rfl, _⟩ := h; rfl
  · obtain ⟨a_v_self, v_self, v_name, v_folder, F, rfl, hS, hm⟩ := h
    refine ⟨_, (pss_cons (ps_expr (pe_meth (pv 0) T.cl_Folders T.m_Folders_need (ok_Folders_need T) (hr.mono (by decide)) T.b_Folders_need .nil (passes_call (takes_of rfl rfl rfl rfl) (fun _ _ _ _ h => h)) (pa_cons (pv 1) pa_nil)))
      (pss_cons (ps_expr (pe_meth (pv 0) T.cl_Folders T.m_Folders_shift (ok_Folders_shift T) (hr.mono (by decide)) T.b_Folders_shift .nil pass0 (pa_cons (pv 1) (pa_cons (pe_un un_neg pe_int) pa_nil))))
      (pss_cons (ps_asg (pv 2) (pg_sub (pe_fld (pv 0) rfl) (pv 1) (set_dict (hu_of hr))))
      (pss_one (ps_expr (pe_meth (pv 0) T.cl_Folders T.m_Folders_shift (ok_Folders_shift T) (hr.mono (by decide)) T.b_Folders_shift .nil pass0 (pa_cons (pv 1) (pa_cons pe_int pa_nil)))))))), ?_⟩
    unfold m_Folders_place at hm
    have hS : Sep H (FoldersA a_v_self v_self :: [F] : List (Asn G)) := hS.sel [0, 1] (by decide) rfl
    obtain ⟨dx1, p2, p3, p4, p5, hS⟩ := open_Folders hS
    have hS : Sep H ([cell a_v_self (.ins (G.cl 7) dx1 [("boxes", (.ref p2)), ("tags", (.ref p3)), ("sums", (.ref p4)), ("tallies", (.ref p5))]), dictA p2 (v_self.boxes : (List (Str × Str))), dictE dictA p3 (v_self.tags : (List (Str × (List (Str × Bool))))), dictA p4 (v_self.sums : (List (Str × (Int × Int)))), dictT p5 (v_self.tallies : (List (Kt × Int))), F] : List (Asn G)) := hS
    refine f_seq ?_
    refine c_drop ?_
    refine c_meth ?_
    refine ev_to (ev_var rfl) ?_
    refine ⟨_, _, _, rfl, (hS.getCell (i := 0) rfl), rfl, ?_⟩
    refine ea_to (ea_cons (ev_var rfl) ea_nil) ?_
    have hS : Sep H (FoldersA a_v_self v_self :: [F] : List (Asn G)) := pack_Folders (hS.sel [0, 1, 2, 3, 4, 5] (by decide) rfl)
    refine ⟨a_v_self, (v_self : Folders), v_name, star [F], rfl, Sep.unstar (M := [FoldersA a_v_self v_self]) (hS.sel [0, 1] (by decide) rfl : Sep H (([FoldersA a_v_self v_self] ++ [F] : List (Asn G)))), R.wp_mono (R.wp_bind hm) (fun r6 hm H hS => ?_) (fun x hx H hS => ?_)⟩
    ·
      have hS : Sep H ([FoldersA a_v_self v_self, F] : List (Asn G)) := Sep.star (M := [FoldersA a_v_self v_self]) hS
      have hS : Sep H (FoldersA a_v_self v_self :: [F] : List (Asn G)) := hS.sel [0, 1] (by decide) rfl
      obtain ⟨dx7, p8, p9, p10, p11, hS⟩ := open_Folders hS
      have hS : Sep H ([cell a_v_self (.ins (G.cl 7) dx7 [("boxes", (.ref p8)), ("tags", (.ref p9)), ("sums", (.ref p10)), ("tallies", (.ref p11))]), dictA p8 (v_self.boxes : (List (Str × Str))), dictE dictA p9 (v_self.tags : (List (Str × (List (Str × Bool))))), dictA p10 (v_self.sums : (List (Str × (Int × Int)))), dictT p11 (v_self.tallies : (List (Kt × Int))), F] : List (Asn G)) := hS
      refine sq_nx ?_
      refine f_seq ?_
      refine c_drop ?_
      refine c_meth ?_
      refine ev_to (ev_var rfl) ?_
      refine ⟨_, _, _, rfl, (hS.getCell (i := 0) rfl), rfl, ?_⟩
      refine ea_to (ea_cons (ev_var rfl) (ea_cons (ev_un ev_c fun _ q => ⟨_, rfl, q⟩) ea_nil)) ?_
      have hS : Sep H (FoldersA a_v_self v_self :: [F] : List (Asn G)) := pack_Folders (hS.sel [0, 1, 2, 3, 4, 5] (by decide) rfl)
      refine ⟨a_v_self, (v_self : Folders), v_name, (-1), star [F], rfl, Sep.unstar (M := [FoldersA a_v_self v_self]) (hS.sel [0, 1] (by decide) rfl : Sep H (([FoldersA a_v_self v_self] ++ [F] : List (Asn G)))), R.wp_mono (R.wp_noexc hm) (fun r12 hm H hS => ?_) (fun _ z => z)⟩
      have hS : Sep H ([FoldersA a_v_self r12, F] : List (Asn G)) := Sep.star (M := [FoldersA a_v_self r12]) hS
      have hS : Sep H (FoldersA a_v_self r12 :: [F] : List (Asn G)) := hS.sel [0, 1] (by decide) rfl
      obtain ⟨dx13, p14, p15, p16, p17, hS⟩ := open_Folders hS
      have hS : Sep H ([cell a_v_self (.ins (G.cl 7) dx13 [("boxes", (.ref p14)), ("tags", (.ref p15)), ("sums", (.ref p16)), ("tallies", (.ref p17))]), dictA p14 (r12.boxes : (List (Str × Str))), dictE dictA p15 (r12.tags : (List (Str × (List (Str × Bool))))), dictA p16 (r12.sums : (List (Str × (Int × Int)))), dictT p17 (r12.tallies : (List (Kt × Int))), F] : List (Asn G)) := hS
      refine sq_nx ?_
      refine f_seq ?_
      refine c_asgS ?_
      refine ev_to (ev_var rfl) ?_
      refine ev_to (ev_fld (ev_var rfl) (hS.getCell (i := 0) rfl) T.cl_Folders T.n_Folders_boxes rfl) ?_
      refine ev_to (ev_var rfl) ?_
      obtain ⟨h18, hm⟩ := R.wp_need hm
      refine k_setD (k := v_name) (y := v_folder) hS (i := 1) rfl rfl h18 rfl fun H hS => ?_
      have hS : Sep H ([cell a_v_self (.ins (G.cl 7) dx13 [("boxes", (.ref p14)), ("tags", (.ref p15)), ("sums", (.ref p16)), ("tallies", (.ref p17))]), dictA p14 (dput r12.boxes v_name v_folder : (List (Str × Str))), dictE dictA p15 (r12.tags : (List (Str × (List (Str × Bool))))), dictA p16 (r12.sums : (List (Str × (Int × Int)))), dictT p17 (r12.tallies : (List (Kt × Int))), F] : List (Asn G)) := hS
      refine sq_nx ?_
      refine c_drop ?_
      refine c_meth ?_
      refine ev_to (ev_var rfl) ?_
      refine ⟨_, _, _, rfl, (hS.getCell (i := 0) rfl), rfl, ?_⟩
      refine ea_to (ea_cons (ev_var rfl) (ea_cons ev_c ea_nil)) ?_
      have hS : Sep H (FoldersA a_v_self (⟨dput r12.boxes v_name v_folder, r12.tags, r12.sums, r12.tallies⟩ : Folders) :: [F] : List (Asn G)) := pack_Folders (hS.sel [0, 1, 2, 3, 4, 5] (by decide) rfl)
      refine ⟨a_v_self, ((⟨dput r12.boxes v_name v_folder, r12.tags, r12.sums, r12.tallies⟩ : Folders) : Folders), v_name, 1, star [F], rfl, Sep.unstar (M := [FoldersA a_v_self (⟨dput r12.boxes v_name v_folder, r12.tags, r12.sums, r12.tallies⟩ : Folders)]) (hS.sel [0, 1] (by decide) rfl : Sep H (([FoldersA a_v_self (⟨dput r12.boxes v_name v_folder, r12.tags, r12.sums, r12.tallies⟩ : Folders)] ++ [F] : List (Asn G)))), R.wp_mono (R.wp_noexc hm) (fun r19 hm H hS => ?_) (fun _ z => z)⟩
      have hS : Sep H ([FoldersA a_v_self r19, F] : List (Asn G)) := Sep.star (M := [FoldersA a_v_self r19]) hS
      have hS : Sep H (FoldersA a_v_self r19 :: [F] : List (Asn G)) := hS.sel [0, 1] (by decide) rfl
      obtain ⟨dx20, p21, p22, p23, p24, hS⟩ := open_Folders hS
      have hS : Sep H ([cell a_v_self (.ins (G.cl 7) dx20 [("boxes", (.ref p21)), ("tags", (.ref p22)), ("sums", (.ref p23)), ("tallies", (.ref p24))]), dictA p21 (r19.boxes : (List (Str × Str))), dictE dictA p22 (r19.tags : (List (Str × (List (Str × Bool))))), dictA p23 (r19.sums : (List (Str × (Int × Int)))), dictT p24 (r19.tallies : (List (Kt × Int))), F] : List (Asn G)) := hS
      have hS : Sep H (FoldersA a_v_self r19 :: [F] : List (Asn G)) := pack_Folders (hS.sel [0, 1, 2, 3, 4, 5] (by decide) rfl)
      exact hm _ (hS.sel [0, 1] (by decide) rfl)
    ·
      have hS : Sep H ([FoldersA a_v_self v_self, F] : List (Asn G)) := Sep.star (M := [FoldersA a_v_self v_self]) hS
      exact hx _ (hS.sel [0, 1] (by decide) rfl)
def sp_Folders_place_A (G : Gx) : Sp := fun vs H Q E => ∃ (a_v_self : Addr) (v_self : Folders) (a_v_name : V) (v_name : Any) (v_folder : Str) (F : Asn G), vs = [.ref a_v_self, a_v_name, (.str (v_folder))] ∧ Im.im G H a_v_name v_name ∧ Sep H ([FoldersA a_v_self v_self, F] : List (Asn G)) ∧ R.wp (m_Folders_place_A v_self v_name v_folder) (fun r => ∀ H', Sep H' ([FoldersA a_v_self r, F] : List (Asn G)) → Q .non H') (fun x => ∀ H', Sep H' ([FoldersA a_v_self v_self, F] : List (Asn G)) → Eok G x E H')
abbrev N_Folders_place_A : List Str := ["self", "name", "folder"]
theorem sc_Folders_place_A : FnScope N_Folders_place_A ["self", "name", "folder"] (defScope s_Folders_place) := ⟨rfl, rfl, rfl, by decide +kernel, rfl, by decide +kernel, by decide +kernel⟩
theorem ok_Folders_place_A (T : Txt G mg) : FnOk P w G.K mg base (L2.CX P w) 3 T.a_Folders_place T.fd_Folders_place ["self", "name", "folder"] (sp_Folders_place_A G) := by
  have nd := sc_Folders_place_A.nd
  refine Fun.okX T.F_Folders_place sc_Folders_place_A (fun vs H Q E h => ?_) (fun cdv A outer s H vs Q E hr h => ?_)
  · obtain ⟨a_v_self, v_self, a_v_name, v_name, v_folder, F, rfl, _⟩ := h; rfl
  · obtain ⟨a_v_self, v_self, a_v_name, v_name, v_folder, F, rfl, him_v_name, hS, hm⟩ := h
    have hS := hS.addIm him_v_name
    refine ⟨_, (pss_cons (ps_expr (pe_meth (pv 0) T.cl_Folders T.m_Folders_need (ok_Folders_need_A T) (hr.mono (by decide)) T.b_Folders_need .nil (passes_call (takes_of rfl rfl rfl rfl) (fun _ _ _ _ h => h)) (pa_cons (pv 1) pa_nil)))
      (pss_cons (ps_expr (pe_meth (pv 0) T.cl_Folders T.m_Folders_shift (ok_Folders_shift T) (hr.mono (by decide)) T.b_Folders_shift .nil pass0 (pa_cons (pv 1) (pa_cons (pe_un un_neg pe_int) pa_nil))))
      (pss_cons (ps_asg (pv 2) (pg_sub (pe_fld (pv 0) rfl) (pv 1) (set_dict (hu_of hr))))
      (pss_one (ps_expr (pe_meth (pv 0) T.cl_Folders T.m_Folders_shift (ok_Folders_shift T) (hr.mono (by decide)) T.b_Folders_shift .nil pass0 (pa_cons (pv 1) (pa_cons pe_int pa_nil)))))))), ?_⟩
    unfold m_Folders_place_A at hm
    have hS : Sep H (FoldersA a_v_self v_self :: [imA a_v_name (v_name : Any), F] : List (Asn G)) := hS.sel [1, 0, 2] (by decide) rfl
    obtain ⟨dx1, p2, p3, p4, p5, hS⟩ := open_Folders hS
    have hS : Sep H ([cell a_v_self (.ins (G.cl 7) dx1 [("boxes", (.ref p2)), ("tags", (.ref p3)), ("sums", (.ref p4)), ("tallies", (.ref p5))]), dictA p2 (v_self.boxes : (List (Str × Str))), dictE dictA p3 (v_self.tags : (List (Str × (List (Str × Bool))))), dictA p4 (v_self.sums : (List (Str × (Int × Int)))), dictT p5 (v_self.tallies : (List (Kt × Int))), imA a_v_name (v_name : Any), F] : List (Asn G)) := hS
    refine f_seq ?_
    refine c_drop ?_
    refine c_meth ?_
    refine ev_to (ev_var rfl) ?_
    refine ⟨_, _, _, rfl, (hS.getCell (i := 0) rfl), rfl, ?_⟩
    refine ea_to (ea_cons (ev_var rfl) ea_nil) ?_
    have hS : Sep H (FoldersA a_v_self v_self :: [imA a_v_name (v_name : Any), F] : List (Asn G)) := pack_Folders (hS.sel [0, 1, 2, 3, 4, 5, 6] (by decide) rfl)
    refine ⟨a_v_self, (v_self : Folders), a_v_name, (v_name : Any), star [imA a_v_name (v_name : Any), F], rfl, (hS.im (i := 1) rfl), Sep.unstar (M := [FoldersA a_v_self v_self]) (hS.sel [0, 1, 2] (by decide) rfl : Sep H (([FoldersA a_v_self v_self] ++ [imA a_v_name (v_name : Any), F] : List (Asn G)))), R.wp_mono (R.wp_bind hm) (fun r6 hm H hS => ?_) (fun x hx H hS => ?_)⟩
    ·
      have hS : Sep H ([FoldersA a_v_self v_self, imA a_v_name (v_name : Any), F] : List (Asn G)) := Sep.star (M := [FoldersA a_v_self v_self]) hS
      have hS : Sep H (FoldersA a_v_self v_self :: [imA a_v_name (v_name : Any), F] : List (Asn G)) := hS.sel [0, 1, 2] (by decide) rfl
      obtain ⟨dx7, p8, p9, p10, p11, hS⟩ := open_Folders hS
      have hS : Sep H ([cell a_v_self (.ins (G.cl 7) dx7 [("boxes", (.ref p8)), ("tags", (.ref p9)), ("sums", (.ref p10)), ("tallies", (.ref p11))]), dictA p8 (v_self.boxes : (List (Str × Str))), dictE dictA p9 (v_self.tags : (List (Str × (List (Str × Bool))))), dictA p10 (v_self.sums : (List (Str × (Int × Int)))), dictT p11 (v_self.tallies : (List (Kt × Int))), imA a_v_name (v_name : Any), F] : List (Asn G)) := hS
      refine sq_nx ?_
      refine f_seq ?_
      refine c_drop ?_
      refine c_meth ?_
      refine ev_to (ev_var rfl) ?_
      refine ⟨_, _, _, rfl, (hS.getCell (i := 0) rfl), rfl, ?_⟩
      refine ea_to (ea_cons (ev_var rfl) (ea_cons (ev_un ev_c fun _ q => ⟨_, rfl, q⟩) ea_nil)) ?_
      have hS : Sep H (FoldersA a_v_self v_self :: [imA a_v_name (v_name : Any), F] : List (Asn G)) := pack_Folders (hS.sel [0, 1, 2, 3, 4, 5, 6] (by decide) rfl)
      obtain ⟨s12, hs13, hm⟩ := Ml.wp_asStr hm
      have hv14 := v_str (hS.im (i := 1) rfl) hs13
      subst hv14
      refine ⟨a_v_self, (v_self : Folders), s12, (-1), star [imA (.str (s12)) (v_name : Any), F], rfl, Sep.unstar (M := [FoldersA a_v_self v_self]) (hS.sel [0, 1, 2] (by decide) rfl : Sep H (([FoldersA a_v_self v_self] ++ [imA (.str (s12)) (v_name : Any), F] : List (Asn G)))), R.wp_mono (R.wp_noexc hm) (fun r15 hm H hS => ?_) (fun _ z => z)⟩
      have hS : Sep H ([FoldersA a_v_self r15, imA (.str (s12)) (v_name : Any), F] : List (Asn G)) := Sep.star (M := [FoldersA a_v_self r15]) hS
      have hS : Sep H (FoldersA a_v_self r15 :: [imA (.str (s12)) (v_name : Any), F] : List (Asn G)) := hS.sel [0, 1, 2] (by decide) rfl
      obtain ⟨dx16, p17, p18, p19, p20, hS⟩ := open_Folders hS
      have hS : Sep H ([cell a_v_self (.ins (G.cl 7) dx16 [("boxes", (.ref p17)), ("tags", (.ref p18)), ("sums", (.ref p19)), ("tallies", (.ref p20))]), dictA p17 (r15.boxes : (List (Str × Str))), dictE dictA p18 (r15.tags : (List (Str × (List (Str × Bool))))), dictA p19 (r15.sums : (List (Str × (Int × Int)))), dictT p20 (r15.tallies : (List (Kt × Int))), imA (.str (s12)) (v_name : Any), F] : List (Asn G)) := hS
      refine sq_nx ?_
      refine f_seq ?_
      refine c_asgS ?_
      refine ev_to (ev_var rfl) ?_
      refine ev_to (ev_fld (ev_var rfl) (hS.getCell (i := 0) rfl) T.cl_Folders T.n_Folders_boxes rfl) ?_
      refine ev_to (ev_var rfl) ?_
      obtain ⟨s21, hs22, hm⟩ := Ml.wp_asStr hm
      have hv23 := v_str (hS.im (i := 5) rfl) hs22
      injection hv23 with hv23; subst hv23
      obtain ⟨h24, hm⟩ := R.wp_need hm
      refine k_setD (k := s12) (y := v_folder) hS (i := 1) rfl rfl h24 rfl fun H hS => ?_
      have hS : Sep H ([cell a_v_self (.ins (G.cl 7) dx16 [("boxes", (.ref p17)), ("tags", (.ref p18)), ("sums", (.ref p19)), ("tallies", (.ref p20))]), dictA p17 (dput r15.boxes s12 v_folder : (List (Str × Str))), dictE dictA p18 (r15.tags : (List (Str × (List (Str × Bool))))), dictA p19 (r15.sums : (List (Str × (Int × Int)))), dictT p20 (r15.tallies : (List (Kt × Int))), imA (.str (s12)) (v_name : Any), F] : List (Asn G)) := hS
      refine sq_nx ?_
      refine c_drop ?_
      refine c_meth ?_
      refine ev_to (ev_var rfl) ?_
      refine ⟨_, _, _, rfl, (hS.getCell (i := 0) rfl), rfl, ?_⟩
      refine ea_to (ea_cons (ev_var rfl) (ea_cons ev_c ea_nil)) ?_
      have hS : Sep H (FoldersA a_v_self (⟨dput r15.boxes s12 v_folder, r15.tags, r15.sums, r15.tallies⟩ : Folders) :: [imA (.str (s12)) (v_name : Any), F] : List (Asn G)) := pack_Folders (hS.sel [0, 1, 2, 3, 4, 5, 6] (by decide) rfl)
      obtain ⟨s25, hs26, hm⟩ := Ml.wp_asStr hm
      have hv27 := v_str (hS.im (i := 1) rfl) hs26
      injection hv27 with hv27; subst hv27
      refine ⟨a_v_self, ((⟨dput r15.boxes s12 v_folder, r15.tags, r15.sums, r15.tallies⟩ : Folders) : Folders), s12, 1, star [imA (.str (s12)) (v_name : Any), F], rfl, Sep.unstar (M := [FoldersA a_v_self (⟨dput r15.boxes s12 v_folder, r15.tags, r15.sums, r15.tallies⟩ : Folders)]) (hS.sel [0, 1, 2] (by decide) rfl : Sep H (([FoldersA a_v_self (⟨dput r15.boxes s12 v_folder, r15.tags, r15.sums, r15.tallies⟩ : Folders)] ++ [imA (.str (s12)) (v_name : Any), F] : List (Asn G)))), R.wp_mono (R.wp_noexc hm) (fun r28 hm H hS => ?_) (fun _ z => z)⟩
      have hS : Sep H ([FoldersA a_v_self r28, imA (.str (s12)) (v_name : Any), F] : List (Asn G)) := Sep.star (M := [FoldersA a_v_self r28]) hS
      have hS : Sep H (FoldersA a_v_self r28 :: [imA (.str (s12)) (v_name : Any), F] : List (Asn G)) := hS.sel [0, 1, 2] (by decide) rfl
      obtain ⟨dx29, p30, p31, p32, p33, hS⟩ := open_Folders hS
      have hS : Sep H ([cell a_v_self (.ins (G.cl 7) dx29 [("boxes", (.ref p30)), ("tags", (.ref p31)), ("sums", (.ref p32)), ("tallies", (.ref p33))]), dictA p30 (r28.boxes : (List (Str × Str))), dictE dictA p31 (r28.tags : (List (Str × (List (Str × Bool))))), dictA p32 (r28.sums : (List (Str × (Int × Int)))), dictT p33 (r28.tallies : (List (Kt × Int))), imA (.str (s12)) (v_name : Any), F] : List (Asn G)) := hS
      have hS : Sep H (FoldersA a_v_self r28 :: [imA (.str (s12)) (v_name : Any), F] : List (Asn G)) := pack_Folders (hS.sel [0, 1, 2, 3, 4, 5, 6] (by decide) rfl)
      exact hm _ (hS.sel [0, 2] (by decide) rfl)
    ·
      have hS : Sep H ([FoldersA a_v_self v_self, imA a_v_name (v_name : Any), F] : List (Asn G)) := Sep.star (M := [FoldersA a_v_self v_self]) hS
      exact hx _ (hS.sel [0, 2] (by decide) rfl)
def sp_Folders_mark (G : Gx) : Sp := fun vs H Q E => ∃ (a_v_self : Addr) (v_self : Folders) (v_name : Str) (v_word : Str) (F : Asn G), vs = [.ref a_v_self, (.str (v_name)), (.str (v_word))] ∧ Sep H ([FoldersA a_v_self v_self, F] : List (Asn G)) ∧ R.wp (m_Folders_mark v_self v_name v_word) (fun r => ∀ H', Sep H' ([FoldersA a_v_self r, F] : List (Asn G)) → Q .non H') (fun x => ∀ H', Sep H' ([FoldersA a_v_self v_self, F] : List (Asn G)) → Eok G x E H')
abbrev N_Folders_mark : List Str := ["self", "name", "word"]
theorem sc_Folders_mark : FnScope N_Folders_mark ["self", "name", "word"] (defScope s_Folders_mark) := ⟨rfl, rfl, rfl, by decide +kernel, rfl, by decide +kernel, by decide +kernel⟩
theorem ok_Folders_mark (T : Txt G mg) : FnOk P w G.K mg base (L2.CX P w) 3 T.a_Folders_mark T.fd_Folders_mark ["self", "name", "word"] (sp_Folders_mark G) := by
  have nd := sc_Folders_mark.nd
  refine Fun.okX T.F_Folders_mark sc_Folders_mark (fun vs H Q E h => ?_) (fun cdv A outer s H vs Q E hr h => ?_)
  · obtain ⟨a_v_self, v_self, v_name, v_word, F, rfl, _⟩ := h; rfl
  · obtain ⟨a_v_self, v_self, v_name, v_word, F, rfl, hS, hm⟩ := h
    refine ⟨_, (pss_cons (ps_expr (pe_meth (pv 0) T.cl_Folders T.m_Folders_need (ok_Folders_need T) (hr.mono (by decide)) T.b_Folders_need .nil (passes_call (takes_of rfl rfl rfl rfl) (fun _ _ _ _ h => h)) (pa_cons (pv 1) pa_nil)))
      (pss_cons (ps_expr (pe_meth (pv 0) T.cl_Folders T.m_Folders_shift (ok_Folders_shift T) (hr.mono (by decide)) T.b_Folders_shift .nil pass0 (pa_cons (pv 1) (pa_cons (pe_un un_neg pe_int) pa_nil))))
      (pss_cons (ps_asg pe_bl (pg_sub (pe_dget (hu_of hr) (pe_fld (pv 0) rfl) (pv 1) (fun _ _ => rfl)) (pv 2) (set_dict (hu_of hr))))
      (pss_one (ps_expr (pe_meth (pv 0) T.cl_Folders T.m_Folders_shift (ok_Folders_shift T) (hr.mono (by decide)) T.b_Folders_shift .nil pass0 (pa_cons (pv 1) (pa_cons pe_int pa_nil)))))))), ?_⟩
    unfold m_Folders_mark at hm
    have hS : Sep H (FoldersA a_v_self v_self :: [F] : List (Asn G)) := hS.sel [0, 1] (by decide) rfl
    obtain ⟨dx1, p2, p3, p4, p5, hS⟩ := open_Folders hS
    have hS : Sep H ([cell a_v_self (.ins (G.cl 7) dx1 [("boxes", (.ref p2)), ("tags", (.ref p3)), ("sums", (.ref p4)), ("tallies", (.ref p5))]), dictA p2 (v_self.boxes : (List (Str × Str))), dictE dictA p3 (v_self.tags : (List (Str × (List (Str × Bool))))), dictA p4 (v_self.sums : (List (Str × (Int × Int)))), dictT p5 (v_self.tallies : (List (Kt × Int))), F] : List (Asn G)) := hS
    refine f_seq ?_
    refine c_drop ?_
    refine c_meth ?_
    refine ev_to (ev_var rfl) ?_
    refine ⟨_, _, _, rfl, (hS.getCell (i := 0) rfl), rfl, ?_⟩
    refine ea_to (ea_cons (ev_var rfl) ea_nil) ?_
    have hS : Sep H (FoldersA a_v_self v_self :: [F] : List (Asn G)) := pack_Folders (hS.sel [0, 1, 2, 3, 4, 5] (by decide) rfl)
    refine ⟨a_v_self, (v_self : Folders), v_name, star [F], rfl, Sep.unstar (M := [FoldersA a_v_self v_self]) (hS.sel [0, 1] (by decide) rfl : Sep H (([FoldersA a_v_self v_self] ++ [F] : List (Asn G)))), R.wp_mono (R.wp_bind hm) (fun r6 hm H hS => ?_) (fun x hx H hS => ?_)⟩
    ·
      have hS : Sep H ([FoldersA a_v_self v_self, F] : List (Asn G)) := Sep.star (M := [FoldersA a_v_self v_self]) hS
      have hS : Sep H (FoldersA a_v_self v_self :: [F] : List (Asn G)) := hS.sel [0, 1] (by decide) rfl
      obtain ⟨dx7, p8, p9, p10, p11, hS⟩ := open_Folders hS
      have hS : Sep H ([cell a_v_self (.ins (G.cl 7) dx7 [("boxes", (.ref p8)), ("tags", (.ref p9)), ("sums", (.ref p10)), ("tallies", (.ref p11))]), dictA p8 (v_self.boxes : (List (Str × Str))), dictE dictA p9 (v_self.tags : (List (Str × (List (Str × Bool))))), dictA p10 (v_self.sums : (List (Str × (Int × Int)))), dictT p11 (v_self.tallies : (List (Kt × Int))), F] : List (Asn G)) := hS
      refine sq_nx ?_
      refine f_seq ?_
      refine c_drop ?_
      refine c_meth ?_
      refine ev_to (ev_var rfl) ?_
      refine ⟨_, _, _, rfl, (hS.getCell (i := 0) rfl), rfl, ?_⟩
      refine ea_to (ea_cons (ev_var rfl) (ea_cons (ev_un ev_c fun _ q => ⟨_, rfl, q⟩) ea_nil)) ?_
      have hS : Sep H (FoldersA a_v_self v_self :: [F] : List (Asn G)) := pack_Folders (hS.sel [0, 1, 2, 3, 4, 5] (by decide) rfl)
      refine ⟨a_v_self, (v_self : Folders), v_name, (-1), star [F], rfl, Sep.unstar (M := [FoldersA a_v_self v_self]) (hS.sel [0, 1] (by decide) rfl : Sep H (([FoldersA a_v_self v_self] ++ [F] : List (Asn G)))), R.wp_mono (R.wp_noexc hm) (fun r12 hm H hS => ?_) (fun _ z => z)⟩
      have hS : Sep H ([FoldersA a_v_self r12, F] : List (Asn G)) := Sep.star (M := [FoldersA a_v_self r12]) hS
      have hS : Sep H (FoldersA a_v_self r12 :: [F] : List (Asn G)) := hS.sel [0, 1] (by decide) rfl
      obtain ⟨dx13, p14, p15, p16, p17, hS⟩ := open_Folders hS
      have hS : Sep H ([cell a_v_self (.ins (G.cl 7) dx13 [("boxes", (.ref p14)), ("tags", (.ref p15)), ("sums", (.ref p16)), ("tallies", (.ref p17))]), dictA p14 (r12.boxes : (List (Str × Str))), dictE dictA p15 (r12.tags : (List (Str × (List (Str × Bool))))), dictA p16 (r12.sums : (List (Str × (Int × Int)))), dictT p17 (r12.tallies : (List (Kt × Int))), F] : List (Asn G)) := hS
      refine sq_nx ?_
      refine f_seq ?_
      refine c_asgS ?_
      refine ev_to ev_c ?_
      refine c_dget ?_
      refine ev_to (ev_fld (ev_var rfl) (hS.getCell (i := 0) rfl) T.cl_Folders T.n_Folders_tags rfl) ?_
      refine k_dget1 ?_
      refine ev_to (ev_var rfl) ?_
      obtain ⟨x18, h19, hm⟩ := wp_dgetX hm
      refine k_dgetE (y := (x18 : (List (Str × Bool)))) (hS.sel [2, 0, 1, 3, 4, 5] (by decide) rfl : Sep _ (dictE dictA p15 (r12.tags : (List (Str × (List (Str × Bool))))) :: [cell a_v_self (.ins (G.cl 7) dx13 [("boxes", (.ref p14)), ("tags", (.ref p15)), ("sums", (.ref p16)), ("tallies", (.ref p17))]), dictA p14 (r12.boxes : (List (Str × Str))), dictA p16 (r12.sums : (List (Str × (Int × Int)))), dictT p17 (r12.tallies : (List (Kt × Int))), F] : List (Asn G))) h19 fun ps20 p21 j22 hl23 hj24 hp25 hS => ?_
      have hS : Sep H ([dictA p21 (x18 : (List (Str × Bool))), dictXH id dictA p15 ps20 (r12.tags : (List (Str × (List (Str × Bool))))) j22, cell a_v_self (.ins (G.cl 7) dx13 [("boxes", (.ref p14)), ("tags", (.ref p15)), ("sums", (.ref p16)), ("tallies", (.ref p17))]), dictA p14 (r12.boxes : (List (Str × Str))), dictA p16 (r12.sums : (List (Str × (Int × Int)))), dictT p17 (r12.tallies : (List (Kt × Int))), F] : List (Asn G)) := hS
      refine ev_to (ev_var rfl) ?_
      obtain ⟨h26, hm⟩ := R.wp_need hm
      refine k_setD (k := v_word) (y := true) hS (i := 0) rfl rfl h26 rfl fun H hS => ?_
      have hS : Sep H ([dictA p21 (dput x18 v_word true : (List (Str × Bool))), dictXH id dictA p15 ps20 (r12.tags : (List (Str × (List (Str × Bool))))) j22, cell a_v_self (.ins (G.cl 7) dx13 [("boxes", (.ref p14)), ("tags", (.ref p15)), ("sums", (.ref p16)), ("tallies", (.ref p17))]), dictA p14 (r12.boxes : (List (Str × Str))), dictA p16 (r12.sums : (List (Str × (Int × Int)))), dictT p17 (r12.tallies : (List (Kt × Int))), F] : List (Asn G)) := hS
      have hS : Sep H ([dictE dictA p15 (dput r12.tags v_name (dput x18 v_word true) : (List (Str × (List (Str × Bool))))), cell a_v_self (.ins (G.cl 7) dx13 [("boxes", (.ref p14)), ("tags", (.ref p15)), ("sums", (.ref p16)), ("tallies", (.ref p17))]), dictA p14 (r12.boxes : (List (Str × Str))), dictA p16 (r12.sums : (List (Str × (Int × Int)))), dictT p17 (r12.tallies : (List (Kt × Int))), F] : List (Asn G)) := unfocDE (z := (dput x18 v_word true : (List (Str × Bool)))) hl23 hj24 hp25 (hS.sel [0, 1, 2, 3, 4, 5, 6] (by decide) rfl)
      refine sq_nx ?_
      refine c_drop ?_
      refine c_meth ?_
      refine ev_to (ev_var rfl) ?_
      refine ⟨_, _, _, rfl, (hS.getCell (i := 1) rfl), rfl, ?_⟩
      refine ea_to (ea_cons (ev_var rfl) (ea_cons ev_c ea_nil)) ?_
      have hS : Sep H (FoldersA a_v_self (⟨r12.boxes, dput r12.tags v_name (dput x18 v_word true), r12.sums, r12.tallies⟩ : Folders) :: [F] : List (Asn G)) := pack_Folders (hS.sel [1, 2, 0, 3, 4, 5] (by decide) rfl)
      refine ⟨a_v_self, ((⟨r12.boxes, dput r12.tags v_name (dput x18 v_word true), r12.sums, r12.tallies⟩ : Folders) : Folders), v_name, 1, star [F], rfl, Sep.unstar (M := [FoldersA a_v_self (⟨r12.boxes, dput r12.tags v_name (dput x18 v_word true), r12.sums, r12.tallies⟩ : Folders)]) (hS.sel [0, 1] (by decide) rfl : Sep H (([FoldersA a_v_self (⟨r12.boxes, dput r12.tags v_name (dput x18 v_word true), r12.sums, r12.tallies⟩ : Folders)] ++ [F] : List (Asn G)))), R.wp_mono (R.wp_noexc hm) (fun r27 hm H hS => ?_) (fun _ z => z)⟩
      have hS : Sep H ([FoldersA a_v_self r27, F] : List (Asn G)) := Sep.star (M := [FoldersA a_v_self r27]) hS
      have hS : Sep H (FoldersA a_v_self r27 :: [F] : List (Asn G)) := hS.sel [0, 1] (by decide) rfl
      obtain ⟨dx28, p29, p30, p31, p32, hS⟩ := open_Folders hS
      have hS : Sep H ([cell a_v_self (.ins (G.cl 7) dx28 [("boxes", (.ref p29)), ("tags", (.ref p30)), ("sums", (.ref p31)), ("tallies", (.ref p32))]), dictA p29 (r27.boxes : (List (Str × Str))), dictE dictA p30 (r27.tags : (List (Str × (List (Str × Bool))))), dictA p31 (r27.sums : (List (Str × (Int × Int)))), dictT p32 (r27.tallies : (List (Kt × Int))), F] : List (Asn G)) := hS
      have hS : Sep H (FoldersA a_v_self r27 :: [F] : List (Asn G)) := pack_Folders (hS.sel [0, 1, 2, 3, 4, 5] (by decide) rfl)
      exact hm _ (hS.sel [0, 1] (by decide) rfl)
    ·
      have hS : Sep H ([FoldersA a_v_self v_self, F] : List (Asn G)) := Sep.star (M := [FoldersA a_v_self v_self]) hS
      exact hx _ (hS.sel [0, 1] (by decide) rfl)
def sp_Folders_mark_A (G : Gx) : Sp := fun vs H Q E => ∃ (a_v_self : Addr) (v_self : Folders) (a_v_name : V) (v_name : Any) (v_word : Str) (F : Asn G), vs = [.ref a_v_self, a_v_name, (.str (v_word))] ∧ Im.im G H a_v_name v_name ∧ Sep H ([FoldersA a_v_self v_self, F] : List (Asn G)) ∧ R.wp (m_Folders_mark_A v_self v_name v_word) (fun r => ∀ H', Sep H' ([FoldersA a_v_self r, F] : List (Asn G)) → Q .non H') (fun x => ∀ H', Sep H' ([FoldersA a_v_self v_self, F] : List (Asn G)) → Eok G x E H')
abbrev N_Folders_mark_A : List Str := ["self", "name", "word"]
theorem sc_Folders_mark_A : FnScope N_Folders_mark_A ["self", "name", "word"] (defScope s_Folders_mark) := ⟨rfl, rfl, rfl, by decide +kernel, rfl, by decide +kernel, by decide +kernel⟩
theorem ok_Folders_mark_A (T : Txt G mg) : FnOk P w G.K mg base (L2.CX P w) 3 T.a_Folders_mark T.fd_Folders_mark ["self", "name", "word"] (sp_Folders_mark_A G) := by
  have nd := sc_Folders_mark_A.nd
  refine Fun.okX T.F_Folders_mark sc_Folders_mark_A (fun vs H Q E h => ?_) (fun cdv A outer s H vs Q E hr h => ?_)
  · obtain ⟨a_v_self, v_self, a_v_name, v_name, v_word, F, rfl, _⟩ := h; rfl
  · obtain ⟨a_v_self, v_self, a_v_name, v_name, v_word, F, rfl, him_v_name, hS, hm⟩ := h
    have hS := hS.addIm him_v_name
    refine ⟨_, (pss_cons (ps_expr (pe_meth (pv 0) T.cl_Folders T.m_Folders_need (ok_Folders_need_A T) (hr.mono (by decide)) T.b_Folders_need .nil (passes_call (takes_of rfl rfl rfl rfl) (fun _ _ _ _ h => h)) (pa_cons (pv 1) pa_nil)))
      (pss_cons (ps_expr (pe_meth (pv 0) T.cl_Folders T.m_Folders_shift (ok_Folders_shift T) (hr.mono (by decide)) T.b_Folders_shift .nil pass0 (pa_cons (pv 1) (pa_cons (pe_un un_neg pe_int) pa_nil))))
      (pss_cons (ps_asg pe_bl (pg_sub (pe_dget (hu_of hr) (pe_fld (pv 0) rfl) (pv 1) (fun _ _ => rfl)) (pv 2) (set_dict (hu_of hr))))
      (pss_one (ps_expr (pe_meth (pv 0) T.cl_Folders T.m_Folders_shift (ok_Folders_shift T) (hr.mono (by decide)) T.b_Folders_shift .nil pass0 (pa_cons (pv 1) (pa_cons pe_int pa_nil)))))))), ?_⟩
    unfold m_Folders_mark_A at hm
    have hS : Sep H (FoldersA a_v_self v_self :: [imA a_v_name (v_name : Any), F] : List (Asn G)) := hS.sel [1, 0, 2] (by decide) rfl
    obtain ⟨dx1, p2, p3, p4, p5, hS⟩ := open_Folders hS
    have hS : Sep H ([cell a_v_self (.ins (G.cl 7) dx1 [("boxes", (.ref p2)), ("tags", (.ref p3)), ("sums", (.ref p4)), ("tallies", (.ref p5))]), dictA p2 (v_self.boxes : (List (Str × Str))), dictE dictA p3 (v_self.tags : (List (Str × (List (Str × Bool))))), dictA p4 (v_self.sums : (List (Str × (Int × Int)))), dictT p5 (v_self.tallies : (List (Kt × Int))), imA a_v_name (v_name : Any), F] : List (Asn G)) := hS
    refine f_seq ?_
    refine c_drop ?_
    refine c_meth ?_
    refine ev_to (ev_var rfl) ?_
    refine ⟨_, _, _, rfl, (hS.getCell (i := 0) rfl), rfl, ?_⟩
    refine ea_to (ea_cons (ev_var rfl) ea_nil) ?_
    have hS : Sep H (FoldersA a_v_self v_self :: [imA a_v_name (v_name : Any), F] : List (Asn G)) := pack_Folders (hS.sel [0, 1, 2, 3, 4, 5, 6] (by decide) rfl)
    refine ⟨a_v_self, (v_self : Folders), a_v_name, (v_name : Any), star [imA a_v_name (v_name : Any), F], rfl, (hS.im (i := 1) rfl), Sep.unstar (M := [FoldersA a_v_self v_self]) (hS.sel [0, 1, 2] (by decide) rfl : Sep H (([FoldersA a_v_self v_self] ++ [imA a_v_name (v_name : Any), F] : List (Asn G)))), R.wp_mono (R.wp_bind hm) (fun r6 hm H hS => ?_) (fun x hx H hS => ?_)⟩
    ·
      have hS : Sep H ([FoldersA a_v_self v_self, imA a_v_name (v_name : Any), F] : List (Asn G)) := Sep.star (M := [FoldersA a_v_self v_self]) hS
      have hS : Sep H (FoldersA a_v_self v_self :: [imA a_v_name (v_name : Any), F] : List (Asn G)) := hS.sel [0, 1, 2] (by decide) rfl
      obtain ⟨dx7, p8, p9, p10, p11, hS⟩ := open_Folders hS
      have hS : Sep H ([cell a_v_self (.ins (G.cl 7) dx7 [("boxes", (.ref p8)), ("tags", (.ref p9)), ("sums", (.ref p10)), ("tallies", (.ref p11))]), dictA p8 (v_self.boxes : (List (Str × Str))), dictE dictA p9 (v_self.tags : (List (Str × (List (Str × Bool))))), dictA p10 (v_self.sums : (List (Str × (Int × Int)))), dictT p11 (v_self.tallies : (List (Kt × Int))), imA a_v_name (v_name : Any), F] : List (Asn G)) := hS
      refine sq_nx ?_
      refine f_seq ?_
      refine c_drop ?_
      refine c_meth ?_
      refine ev_to (ev_var rfl) ?_
      refine ⟨_, _, _, rfl, (hS.getCell (i := 0) rfl), rfl, ?_⟩
      refine ea_to (ea_cons (ev_var rfl) (ea_cons (ev_un ev_c fun _ q => ⟨_, rfl, q⟩) ea_nil)) ?_
      have hS : Sep H (FoldersA a_v_self v_self :: [imA a_v_name (v_name : Any), F] : List (Asn G)) := pack_Folders (hS.sel [0, 1, 2, 3, 4, 5, 6] (by decide) rfl)
      obtain ⟨s12, hs13, hm⟩ := Ml.wp_asStr hm
      have hv14 := v_str (hS.im (i := 1) rfl) hs13
      subst hv14
      refine ⟨a_v_self, (v_self : Folders), s12, (-1), star [imA (.str (s12)) (v_name : Any), F], rfl, Sep.unstar (M := [FoldersA a_v_self v_self]) (hS.sel [0, 1, 2] (by decide) rfl : Sep H (([FoldersA a_v_self v_self] ++ [imA (.str (s12)) (v_name : Any), F] : List (Asn G)))), R.wp_mono (R.wp_noexc hm) (fun r15 hm H hS => ?_) (fun _ z => z)⟩
      have hS : Sep H ([FoldersA a_v_self r15, imA (.str (s12)) (v_name : Any), F] : List (Asn G)) := Sep.star (M := [FoldersA a_v_self r15]) hS
      have hS : Sep H (FoldersA a_v_self r15 :: [imA (.str (s12)) (v_name : Any), F] : List (Asn G)) := hS.sel [0, 1, 2] (by decide) rfl
      obtain ⟨dx16, p17, p18, p19, p20, hS⟩ := open_Folders hS
      have hS : Sep H ([cell a_v_self (.ins (G.cl 7) dx16 [("boxes", (.ref p17)), ("tags", (.ref p18)), ("sums", (.ref p19)), ("tallies", (.ref p20))]), dictA p17 (r15.boxes : (List (Str × Str))), dictE dictA p18 (r15.tags : (List (Str × (List (Str × Bool))))), dictA p19 (r15.sums : (List (Str × (Int × Int)))), dictT p20 (r15.tallies : (List (Kt × Int))), imA (.str (s12)) (v_name : Any), F] : List (Asn G)) := hS
      refine sq_nx ?_
      refine f_seq ?_
      refine c_asgS ?_
      refine ev_to ev_c ?_
      refine c_dget ?_
      refine ev_to (ev_fld (ev_var rfl) (hS.getCell (i := 0) rfl) T.cl_Folders T.n_Folders_tags rfl) ?_
      refine k_dget1 ?_
      refine ev_to (ev_var rfl) ?_
      obtain ⟨s21, hs22, hm⟩ := Ml.wp_asStr hm
      have hv23 := v_str (hS.im (i := 5) rfl) hs22
      injection hv23 with hv23; subst hv23
      obtain ⟨x24, h25, hm⟩ := wp_dgetX hm
      refine k_dgetE (y := (x24 : (List (Str × Bool)))) (hS.sel [2, 0, 1, 3, 4, 5, 6] (by decide) rfl : Sep _ (dictE dictA p18 (r15.tags : (List (Str × (List (Str × Bool))))) :: [cell a_v_self (.ins (G.cl 7) dx16 [("boxes", (.ref p17)), ("tags", (.ref p18)), ("sums", (.ref p19)), ("tallies", (.ref p20))]), dictA p17 (r15.boxes : (List (Str × Str))), dictA p19 (r15.sums : (List (Str × (Int × Int)))), dictT p20 (r15.tallies : (List (Kt × Int))), imA (.str (s12)) (v_name : Any), F] : List (Asn G))) h25 fun ps26 p27 j28 hl29 hj30 hp31 hS => ?_
      have hS : Sep H ([dictA p27 (x24 : (List (Str × Bool))), dictXH id dictA p18 ps26 (r15.tags : (List (Str × (List (Str × Bool))))) j28, cell a_v_self (.ins (G.cl 7) dx16 [("boxes", (.ref p17)), ("tags", (.ref p18)), ("sums", (.ref p19)), ("tallies", (.ref p20))]), dictA p17 (r15.boxes : (List (Str × Str))), dictA p19 (r15.sums : (List (Str × (Int × Int)))), dictT p20 (r15.tallies : (List (Kt × Int))), imA (.str (s12)) (v_name : Any), F] : List (Asn G)) := hS
      refine ev_to (ev_var rfl) ?_
      obtain ⟨h32, hm⟩ := R.wp_need hm
      refine k_setD (k := v_word) (y := true) hS (i := 0) rfl rfl h32 rfl fun H hS => ?_
      have hS : Sep H ([dictA p27 (dput x24 v_word true : (List (Str × Bool))), dictXH id dictA p18 ps26 (r15.tags : (List (Str × (List (Str × Bool))))) j28, cell a_v_self (.ins (G.cl 7) dx16 [("boxes", (.ref p17)), ("tags", (.ref p18)), ("sums", (.ref p19)), ("tallies", (.ref p20))]), dictA p17 (r15.boxes : (List (Str × Str))), dictA p19 (r15.sums : (List (Str × (Int × Int)))), dictT p20 (r15.tallies : (List (Kt × Int))), imA (.str (s12)) (v_name : Any), F] : List (Asn G)) := hS
      have hS : Sep H ([dictE dictA p18 (dput r15.tags s12 (dput x24 v_word true) : (List (Str × (List (Str × Bool))))), cell a_v_self (.ins (G.cl 7) dx16 [("boxes", (.ref p17)), ("tags", (.ref p18)), ("sums", (.ref p19)), ("tallies", (.ref p20))]), dictA p17 (r15.boxes : (List (Str × Str))), dictA p19 (r15.sums : (List (Str × (Int × Int)))), dictT p20 (r15.tallies : (List (Kt × Int))), imA (.str (s12)) (v_name : Any), F] : List (Asn G)) := unfocDE (z := (dput x24 v_word true : (List (Str × Bool)))) hl29 hj30 hp31 (hS.sel [0, 1, 2, 3, 4, 5, 6, 7] (by decide) rfl)
      refine sq_nx ?_
      refine c_drop ?_
      refine c_meth ?_
      refine ev_to (ev_var rfl) ?_
      refine ⟨_, _, _, rfl, (hS.getCell (i := 1) rfl), rfl, ?_⟩
      refine ea_to (ea_cons (ev_var rfl) (ea_cons ev_c ea_nil)) ?_
      have hS : Sep H (FoldersA a_v_self (⟨r15.boxes, dput r15.tags s12 (dput x24 v_word true), r15.sums, r15.tallies⟩ : Folders) :: [imA (.str (s12)) (v_name : Any), F] : List (Asn G)) := pack_Folders (hS.sel [1, 2, 0, 3, 4, 5, 6] (by decide) rfl)
      obtain ⟨s33, hs34, hm⟩ := Ml.wp_asStr hm
      have hv35 := v_str (hS.im (i := 1) rfl) hs34
      injection hv35 with hv35; subst hv35
      refine ⟨a_v_self, ((⟨r15.boxes, dput r15.tags s12 (dput x24 v_word true), r15.sums, r15.tallies⟩ : Folders) : Folders), s12, 1, star [imA (.str (s12)) (v_name : Any), F], rfl, Sep.unstar (M := [FoldersA a_v_self (⟨r15.boxes, dput r15.tags s12 (dput x24 v_word true), r15.sums, r15.tallies⟩ : Folders)]) (hS.sel [0, 1, 2] (by decide) rfl : Sep H (([FoldersA a_v_self (⟨r15.boxes, dput r15.tags s12 (dput x24 v_word true), r15.sums, r15.tallies⟩ : Folders)] ++ [imA (.str (s12)) (v_name : Any), F] : List (Asn G)))), R.wp_mono (R.wp_noexc hm) (fun r36 hm H hS => ?_) (fun _ z => z)⟩
      have hS : Sep H ([FoldersA a_v_self r36, imA (.str (s12)) (v_name : Any), F] : List (Asn G)) := Sep.star (M := [FoldersA a_v_self r36]) hS
      have hS : Sep H (FoldersA a_v_self r36 :: [imA (.str (s12)) (v_name : Any), F] : List (Asn G)) := hS.sel [0, 1, 2] (by decide) rfl
      obtain ⟨dx37, p38, p39, p40, p41, hS⟩ := open_Folders hS
      have hS : Sep H ([cell a_v_self (.ins (G.cl 7) dx37 [("boxes", (.ref p38)), ("tags", (.ref p39)), ("sums", (.ref p40)), ("tallies", (.ref p41))]), dictA p38 (r36.boxes : (List (Str × Str))), dictE dictA p39 (r36.tags : (List (Str × (List (Str × Bool))))), dictA p40 (r36.sums : (List (Str × (Int × Int)))), dictT p41 (r36.tallies : (List (Kt × Int))), imA (.str (s12)) (v_name : Any), F] : List (Asn G)) := hS
      have hS : Sep H (FoldersA a_v_self r36 :: [imA (.str (s12)) (v_name : Any), F] : List (Asn G)) := pack_Folders (hS.sel [0, 1, 2, 3, 4, 5, 6] (by decide) rfl)
      exact hm _ (hS.sel [0, 2] (by decide) rfl)
    ·
      have hS : Sep H ([FoldersA a_v_self v_self, imA a_v_name (v_name : Any), F] : List (Asn G)) := Sep.star (M := [FoldersA a_v_self v_self]) hS
      exact hx _ (hS.sel [0, 2] (by decide) rfl)
def sp_Folders_unmark (G : Gx) : Sp := fun vs H Q E => ∃ (a_v_self : Addr) (v_self : Folders) (v_name : Str) (v_word : Str) (F : Asn G), vs = [.ref a_v_self, (.str (v_name)), (.str (v_word))] ∧ Sep H ([FoldersA a_v_self v_self, F] : List (Asn G)) ∧ R.wp (m_Folders_unmark v_self v_name v_word) (fun r => ∀ H', Sep H' ([FoldersA a_v_self r, F] : List (Asn G)) → Q .non H') (fun x => ∀ H', Sep H' ([FoldersA a_v_self v_self, F] : List (Asn G)) → Eok G x E H')
abbrev N_Folders_unmark : List Str := ["self", "name", "word"]
theorem sc_Folders_unmark : FnScope N_Folders_unmark ["self", "name", "word"] (defScope s_Folders_unmark) := ⟨rfl, rfl, rfl, by decide +kernel, rfl, by decide +kernel, by decide +kernel⟩
theorem ok_Folders_unmark (T : Txt G mg) : FnOk P w G.K mg base (L2.CX P w) 3 T.a_Folders_unmark T.fd_Folders_unmark ["self", "name", "word"] (sp_Folders_unmark G) := by
  have nd := sc_Folders_unmark.nd
  refine Fun.okX T.F_Folders_unmark sc_Folders_unmark (fun vs H Q E h => ?_) (fun cdv A outer s H vs Q E hr h => ?_)
  · obtain ⟨a_v_self, v_self, v_name, v_word, F, rfl, _⟩ := h; rfl
  · obtain ⟨a_v_self, v_self, v_name, v_word, F, rfl, hS, hm⟩ := h
    refine ⟨_, (pss_cons (ps_expr (pe_meth (pv 0) T.cl_Folders T.m_Folders_need (ok_Folders_need T) (hr.mono (by decide)) T.b_Folders_need .nil (passes_call (takes_of rfl rfl rfl rfl) (fun _ _ _ _ h => h)) (pa_cons (pv 1) pa_nil)))
      (pss_cons (ps_expr (pe_meth (pv 0) T.cl_Folders T.m_Folders_shift (ok_Folders_shift T) (hr.mono (by decide)) T.b_Folders_shift .nil pass0 (pa_cons (pv 1) (pa_cons (pe_un un_neg pe_int) pa_nil))))
      (pss_cons (ps_expr (pe_dpop2 (pe_dget (hu_of hr) (pe_fld (pv 0) rfl) (pv 1) (fun _ _ => rfl)) (pv 2) pe_non m2))
      (pss_one (ps_expr (pe_meth (pv 0) T.cl_Folders T.m_Folders_shift (ok_Folders_shift T) (hr.mono (by decide)) T.b_Folders_shift .nil pass0 (pa_cons (pv 1) (pa_cons pe_int pa_nil)))))))), ?_⟩
    unfold m_Folders_unmark at hm
    have hS : Sep H (FoldersA a_v_self v_self :: [F] : List (Asn G)) := hS.sel [0, 1] (by decide) rfl
    obtain ⟨dx1, p2, p3, p4, p5, hS⟩ := open_Folders hS
    have hS : Sep H ([cell a_v_self (.ins (G.cl 7) dx1 [("boxes", (.ref p2)), ("tags", (.ref p3)), ("sums", (.ref p4)), ("tallies", (.ref p5))]), dictA p2 (v_self.boxes : (List (Str × Str))), dictE dictA p3 (v_self.tags : (List (Str × (List (Str × Bool))))), dictA p4 (v_self.sums : (List (Str × (Int × Int)))), dictT p5 (v_self.tallies : (List (Kt × Int))), F] : List (Asn G)) := hS
    refine f_seq ?_
    refine c_drop ?_
    refine c_meth ?_
    refine ev_to (ev_var rfl) ?_
    refine ⟨_, _, _, rfl, (hS.getCell (i := 0) rfl), rfl, ?_⟩
    refine ea_to (ea_cons (ev_var rfl) ea_nil) ?_
    have hS : Sep H (FoldersA a_v_self v_self :: [F] : List (Asn G)) := pack_Folders (hS.sel [0, 1, 2, 3, 4, 5] (by decide) rfl)
    refine ⟨a_v_self, (v_self : Folders), v_name, star [F], rfl, Sep.unstar (M := [FoldersA a_v_self v_self]) (hS.sel [0, 1] (by decide) rfl : Sep H (([FoldersA a_v_self v_self] ++ [F] : List (Asn G)))), R.wp_mono (R.wp_bind hm) (fun r6 hm H hS => ?_) (fun x hx H hS => ?_)⟩
    ·
      have hS : Sep H ([FoldersA a_v_self v_self, F] : List (Asn G)) := Sep.star (M := [FoldersA a_v_self v_self]) hS
      have hS : Sep H (FoldersA a_v_self v_self :: [F] : List (Asn G)) := hS.sel [0, 1] (by decide) rfl
      obtain ⟨dx7, p8, p9, p10, p11, hS⟩ := open_Folders hS
      have hS : Sep H ([cell a_v_self (.ins (G.cl 7) dx7 [("boxes", (.ref p8)), ("tags", (.ref p9)), ("sums", (.ref p10)), ("tallies", (.ref p11))]), dictA p8 (v_self.boxes : (List (Str × Str))), dictE dictA p9 (v_self.tags : (List (Str × (List (Str × Bool))))), dictA p10 (v_self.sums : (List (Str × (Int × Int)))), dictT p11 (v_self.tallies : (List (Kt × Int))), F] : List (Asn G)) := hS
      refine sq_nx ?_
      refine f_seq ?_
      refine c_drop ?_
      refine c_meth ?_
      refine ev_to (ev_var rfl) ?_
      refine ⟨_, _, _, rfl, (hS.getCell (i := 0) rfl), rfl, ?_⟩
      refine ea_to (ea_cons (ev_var rfl) (ea_cons (ev_un ev_c fun _ q => ⟨_, rfl, q⟩) ea_nil)) ?_
      have hS : Sep H (FoldersA a_v_self v_self :: [F] : List (Asn G)) := pack_Folders (hS.sel [0, 1, 2, 3, 4, 5] (by decide) rfl)
      refine ⟨a_v_self, (v_self : Folders), v_name, (-1), star [F], rfl, Sep.unstar (M := [FoldersA a_v_self v_self]) (hS.sel [0, 1] (by decide) rfl : Sep H (([FoldersA a_v_self v_self] ++ [F] : List (Asn G)))), R.wp_mono (R.wp_noexc hm) (fun r12 hm H hS => ?_) (fun _ z => z)⟩
      have hS : Sep H ([FoldersA a_v_self r12, F] : List (Asn G)) := Sep.star (M := [FoldersA a_v_self r12]) hS
      have hS : Sep H (FoldersA a_v_self r12 :: [F] : List (Asn G)) := hS.sel [0, 1] (by decide) rfl
      obtain ⟨dx13, p14, p15, p16, p17, hS⟩ := open_Folders hS
      have hS : Sep H ([cell a_v_self (.ins (G.cl 7) dx13 [("boxes", (.ref p14)), ("tags", (.ref p15)), ("sums", (.ref p16)), ("tallies", (.ref p17))]), dictA p14 (r12.boxes : (List (Str × Str))), dictE dictA p15 (r12.tags : (List (Str × (List (Str × Bool))))), dictA p16 (r12.sums : (List (Str × (Int × Int)))), dictT p17 (r12.tallies : (List (Kt × Int))), F] : List (Asn G)) := hS
      refine sq_nx ?_
      refine f_seq ?_
      refine c_drop ?_
      refine c_dpop2 ?_
      refine c_dget ?_
      refine ev_to (ev_fld (ev_var rfl) (hS.getCell (i := 0) rfl) T.cl_Folders T.n_Folders_tags rfl) ?_
      refine k_dget1 ?_
      refine ev_to (ev_var rfl) ?_
      obtain ⟨x18, h19, hm⟩ := wp_dgetX hm
      refine k_dgetE (y := (x18 : (List (Str × Bool)))) (hS.sel [2, 0, 1, 3, 4, 5] (by decide) rfl : Sep _ (dictE dictA p15 (r12.tags : (List (Str × (List (Str × Bool))))) :: [cell a_v_self (.ins (G.cl 7) dx13 [("boxes", (.ref p14)), ("tags", (.ref p15)), ("sums", (.ref p16)), ("tallies", (.ref p17))]), dictA p14 (r12.boxes : (List (Str × Str))), dictA p16 (r12.sums : (List (Str × (Int × Int)))), dictT p17 (r12.tallies : (List (Kt × Int))), F] : List (Asn G))) h19 fun ps20 p21 j22 hl23 hj24 hp25 hS => ?_
      have hS : Sep H ([dictA p21 (x18 : (List (Str × Bool))), dictXH id dictA p15 ps20 (r12.tags : (List (Str × (List (Str × Bool))))) j22, cell a_v_self (.ins (G.cl 7) dx13 [("boxes", (.ref p14)), ("tags", (.ref p15)), ("sums", (.ref p16)), ("tallies", (.ref p17))]), dictA p14 (r12.boxes : (List (Str × Str))), dictA p16 (r12.sums : (List (Str × (Int × Int)))), dictT p17 (r12.tallies : (List (Kt × Int))), F] : List (Asn G)) := hS
      refine k_pop2a (isD_of hS (i := 0) rfl) ?_
      refine ev_to (ev_var rfl) ?_
      refine k_pop2b ?_
      refine ev_to ev_c ?_
      refine k_pop2A (k := v_word) hS (i := 0) rfl rfl fun v26 H hS => ?_
      have hS : Sep H ([dictA p21 (ddrop x18 v_word : (List (Str × Bool))), dictXH id dictA p15 ps20 (r12.tags : (List (Str × (List (Str × Bool))))) j22, cell a_v_self (.ins (G.cl 7) dx13 [("boxes", (.ref p14)), ("tags", (.ref p15)), ("sums", (.ref p16)), ("tallies", (.ref p17))]), dictA p14 (r12.boxes : (List (Str × Str))), dictA p16 (r12.sums : (List (Str × (Int × Int)))), dictT p17 (r12.tallies : (List (Kt × Int))), F] : List (Asn G)) := hS
      have hS : Sep H ([dictE dictA p15 (dput r12.tags v_name (ddrop x18 v_word) : (List (Str × (List (Str × Bool))))), cell a_v_self (.ins (G.cl 7) dx13 [("boxes", (.ref p14)), ("tags", (.ref p15)), ("sums", (.ref p16)), ("tallies", (.ref p17))]), dictA p14 (r12.boxes : (List (Str × Str))), dictA p16 (r12.sums : (List (Str × (Int × Int)))), dictT p17 (r12.tallies : (List (Kt × Int))), F] : List (Asn G)) := unfocDE (z := (ddrop x18 v_word : (List (Str × Bool)))) hl23 hj24 hp25 (hS.sel [0, 1, 2, 3, 4, 5, 6] (by decide) rfl)
      refine sq_nx ?_
      refine c_drop ?_
      refine c_meth ?_
      refine ev_to (ev_var rfl) ?_
      refine ⟨_, _, _, rfl, (hS.getCell (i := 1) rfl), rfl, ?_⟩
      refine ea_to (ea_cons (ev_var rfl) (ea_cons ev_c ea_nil)) ?_
      have hS : Sep H (FoldersA a_v_self (⟨r12.boxes, dput r12.tags v_name (ddrop x18 v_word), r12.sums, r12.tallies⟩ : Folders) :: [F] : List (Asn G)) := pack_Folders (hS.sel [1, 2, 0, 3, 4, 5] (by decide) rfl)
      refine ⟨a_v_self, ((⟨r12.boxes, dput r12.tags v_name (ddrop x18 v_word), r12.sums, r12.tallies⟩ : Folders) : Folders), v_name, 1, star [F], rfl, Sep.unstar (M := [FoldersA a_v_self (⟨r12.boxes, dput r12.tags v_name (ddrop x18 v_word), r12.sums, r12.tallies⟩ : Folders)]) (hS.sel [0, 1] (by decide) rfl : Sep H (([FoldersA a_v_self (⟨r12.boxes, dput r12.tags v_name (ddrop x18 v_word), r12.sums, r12.tallies⟩ : Folders)] ++ [F] : List (Asn G)))), R.wp_mono (R.wp_noexc hm) (fun r27 hm H hS => ?_) (fun _ z => z)⟩
      have hS : Sep H ([FoldersA a_v_self r27, F] : List (Asn G)) := Sep.star (M := [FoldersA a_v_self r27]) hS
      have hS : Sep H (FoldersA a_v_self r27 :: [F] : List (Asn G)) := hS.sel [0, 1] (by decide) rfl
      obtain ⟨dx28, p29, p30, p31, p32, hS⟩ := open_Folders hS
      have hS : Sep H ([cell a_v_self (.ins (G.cl 7) dx28 [("boxes", (.ref p29)), ("tags", (.ref p30)), ("sums", (.ref p31)), ("tallies", (.ref p32))]), dictA p29 (r27.boxes : (List (Str × Str))), dictE dictA p30 (r27.tags : (List (Str × (List (Str × Bool))))), dictA p31 (r27.sums : (List (Str × (Int × Int)))), dictT p32 (r27.tallies : (List (Kt × Int))), F] : List (Asn G)) := hS
      have hS : Sep H (FoldersA a_v_self r27 :: [F] : List (Asn G)) := pack_Folders (hS.sel [0, 1, 2, 3, 4, 5] (by decide) rfl)
      exact hm _ (hS.sel [0, 1] (by decide) rfl)
    ·
      have hS : Sep H ([FoldersA a_v_self v_self, F] : List (Asn G)) := Sep.star (M := [FoldersA a_v_self v_self]) hS
      exact hx _ (hS.sel [0, 1] (by decide) rfl)
def sp_Folders_unmark_A (G : Gx) : Sp := fun vs H Q E => ∃ (a_v_self : Addr) (v_self : Folders) (a_v_name : V) (v_name : Any) (v_word : Str) (F : Asn G), vs = [.ref a_v_self, a_v_name, (.str (v_word))] ∧ Im.im G H a_v_name v_name ∧ Sep H ([FoldersA a_v_self v_self, F] : List (Asn G)) ∧ R.wp (m_Folders_unmark_A v_self v_name v_word) (fun r => ∀ H', Sep H' ([FoldersA a_v_self r, F] : List (Asn G)) → Q .non H') (fun x => ∀ H', Sep H' ([FoldersA a_v_self v_self, F] : List (Asn G)) → Eok G x E H')
abbrev N_Folders_unmark_A : List Str := ["self", "name", "word"]
theorem sc_Folders_unmark_A : FnScope N_Folders_unmark_A ["self", "name", "word"] (defScope s_Folders_unmark) := ⟨rfl, rfl, rfl, by decide +kernel, rfl, by decide +kernel, by decide +kernel⟩
theorem ok_Folders_unmark_A (T : Txt G mg) : FnOk P w G.K mg base (L2.CX P w) 3 T.a_Folders_unmark T.fd_Folders_unmark ["self", "name", "word"] (sp_Folders_unmark_A G) := by
  have nd := sc_Folders_unmark_A.nd
  refine Fun.okX T.F_Folders_unmark sc_Folders_unmark_A (fun vs H Q E h => ?_) (fun cdv A outer s H vs Q E hr h => ?_)
  · obtain ⟨a_v_self, v_self, a_v_name, v_name, v_word, F, rfl, _⟩ := h; rfl
  · obtain ⟨a_v_self, v_self, a_v_name, v_name, v_word, F, rfl, him_v_name, hS, hm⟩ := h
    have hS := hS.addIm him_v_name
    refine ⟨_, (pss_cons (ps_expr (pe_meth (pv 0) T.cl_Folders T.m_Folders_need (ok_Folders_need_A T) (hr.mono (by decide)) T.b_Folders_need .nil (passes_call (takes_of rfl rfl rfl rfl) (fun _ _ _ _ h => h)) (pa_cons (pv 1) pa_nil)))
      (pss_cons (ps_expr (pe_meth (pv 0) T.cl_Folders T.m_Folders_shift (ok_Folders_shift T) (hr.mono (by decide)) T.b_Folders_shift .nil pass0 (pa_cons (pv 1) (pa_cons (pe_un un_neg pe_int) pa_nil))))
      (pss_cons (ps_expr (pe_dpop2 (pe_dget (hu_of hr) (pe_fld (pv 0) rfl) (pv 1) (fun _ _ => rfl)) (pv 2) pe_non m2))
      (pss_one (ps_expr (pe_meth (pv 0) T.cl_Folders T.m_Folders_shift (ok_Folders_shift T) (hr.mono (by decide)) T.b_Folders_shift .nil pass0 (pa_cons (pv 1) (pa_cons pe_int pa_nil)))))))), ?_⟩
    unfold m_Folders_unmark_A at hm
    have hS : Sep H (FoldersA a_v_self v_self :: [imA a_v_name (v_name : Any), F] : List (Asn G)) := hS.sel [1, 0, 2] (by decide) rfl
    obtain ⟨dx1, p2, p3, p4, p5, hS⟩ := open_Folders hS
    have hS : Sep H ([cell a_v_self (.ins (G.cl 7) dx1 [("boxes", (.ref p2)), ("tags", (.ref p3)), ("sums", (.ref p4)), ("tallies", (.ref p5))]), dictA p2 (v_self.boxes : (List (Str × Str))), dictE dictA p3 (v_self.tags : (List (Str × (List (Str × Bool))))), dictA p4 (v_self.sums : (List (Str × (Int × Int)))), dictT p5 (v_self.tallies : (List (Kt × Int))), imA a_v_name (v_name : Any), F] : List (Asn G)) := hS
    refine f_seq ?_
    refine c_drop ?_
    refine c_meth ?_
    refine ev_to (ev_var rfl) ?_
    refine ⟨_, _, _, rfl, (hS.getCell (i := 0) rfl), rfl, ?_⟩
    refine ea_to (ea_cons (ev_var rfl) ea_nil) ?_
    have hS : Sep H (FoldersA a_v_self v_self :: [imA a_v_name (v_name : Any), F] : List (Asn G)) := pack_Folders (hS.sel [0, 1, 2, 3, 4, 5, 6] (by decide) rfl)
    refine ⟨a_v_self, (v_self : Folders), a_v_name, (v_name : Any), star [imA a_v_name (v_name : Any), F], rfl, (hS.im (i := 1) rfl), Sep.unstar (M := [FoldersA a_v_self v_self]) (hS.sel [0, 1, 2] (by decide) rfl : Sep H (([FoldersA a_v_self v_self] ++ [imA a_v_name (v_name : Any), F] : List (Asn G)))), R.wp_mono (R.wp_bind hm) (fun r6 hm H hS => ?_) (fun x hx H hS => ?_)⟩
    ·
      have hS : Sep H ([FoldersA a_v_self v_self, imA a_v_name (v_name : Any), F] : List (Asn G)) := Sep.star (M := [FoldersA a_v_self v_self]) hS
      have hS : Sep H (FoldersA a_v_self v_self :: [imA a_v_name (v_name : Any), F] : List (Asn G)) := hS.sel [0, 1, 2] (by decide) rfl
      obtain ⟨dx7, p8, p9, p10, p11, hS⟩ := open_Folders hS
      have hS : Sep H ([cell a_v_self (.ins (G.cl 7) dx7 [("boxes", (.ref p8)), ("tags", (.ref p9)), ("sums", (.ref p10)), ("tallies", (.ref p11))]), dictA p8 (v_self.boxes : (List (Str × Str))), dictE dictA p9 (v_self.tags : (List (Str × (List (Str × Bool))))), dictA p10 (v_self.sums : (List (Str × (Int × Int)))), dictT p11 (v_self.tallies : (List (Kt × Int))), imA a_v_name (v_name : Any), F] : List (Asn G)) := hS
      refine sq_nx ?_
      refine f_seq ?_
      refine c_drop ?_
      refine c_meth ?_
      refine ev_to (ev_var rfl) ?_
      refine ⟨_, _, _, rfl, (hS.getCell (i := 0) rfl), rfl, ?_⟩
      refine ea_to (ea_cons (ev_var rfl) (ea_cons (ev_un ev_c fun _ q => ⟨_, rfl, q⟩) ea_nil)) ?_
      have hS : Sep H (FoldersA a_v_self v_self :: [imA a_v_name (v_name : Any), F] : List (Asn G)) := pack_Folders (hS.sel [0, 1, 2, 3, 4, 5, 6] (by decide) rfl)
      obtain ⟨s12, hs13, hm⟩ := Ml.wp_asStr hm
      have hv14 := v_str (hS.im (i := 1) rfl) hs13
      subst hv14
      refine ⟨a_v_self, (v_self : Folders), s12, (-1), star [imA (.str (s12)) (v_name : Any), F], rfl, Sep.unstar (M := [FoldersA a_v_self v_self]) (hS.sel [0, 1, 2] (by decide) rfl : Sep H (([FoldersA a_v_self v_self] ++ [imA (.str (s12)) (v_name : Any), F] : List (Asn G)))), R.wp_mono (R.wp_noexc hm) (fun r15 hm H hS => ?_) (fun _ z => z)⟩
      have hS : Sep H ([FoldersA a_v_self r15, imA (.str (s12)) (v_name : Any), F] : List (Asn G)) := Sep.star (M := [FoldersA a_v_self r15]) hS
      have hS : Sep H (FoldersA a_v_self r15 :: [imA (.str (s12)) (v_name : Any), F] : List (Asn G)) := hS.sel [0, 1, 2] (by decide) rfl
      obtain ⟨dx16, p17, p18, p19, p20, hS⟩ := open_Folders hS
      have hS : Sep H ([cell a_v_self (.ins (G.cl 7) dx16 [("boxes", (.ref p17)), ("tags", (.ref p18)), ("sums", (.ref p19)), ("tallies", (.ref p20))]), dictA p17 (r15.boxes : (List (Str × Str))), dictE dictA p18 (r15.tags : (List (Str × (List (Str × Bool))))), dictA p19 (r15.sums : (List (Str × (Int × Int)))), dictT p20 (r15.tallies : (List (Kt × Int))), imA (.str (s12)) (v_name : Any), F] : List (Asn G)) := hS
      refine sq_nx ?_
      refine f_seq ?_
      refine c_drop ?_
      refine c_dpop2 ?_
      refine c_dget ?_
      refine ev_to (ev_fld (ev_var rfl) (hS.getCell (i := 0) rfl) T.cl_Folders T.n_Folders_tags rfl) ?_
      refine k_dget1 ?_
      refine ev_to (ev_var rfl) ?_
      obtain ⟨s21, hs22, hm⟩ := Ml.wp_asStr hm
      have hv23 := v_str (hS.im (i := 5) rfl) hs22
      injection hv23 with hv23; subst hv23
      obtain ⟨x24, h25, hm⟩ := wp_dgetX hm
      refine k_dgetE (y := (x24 : (List (Str × Bool)))) (hS.sel [2, 0, 1, 3, 4, 5, 6] (by decide) rfl : Sep _ (dictE dictA p18 (r15.tags : (List (Str × (List (Str × Bool))))) :: [cell a_v_self (.ins (G.cl 7) dx16 [("boxes", (.ref p17)), ("tags", (.ref p18)), ("sums", (.ref p19)), ("tallies", (.ref p20))]), dictA p17 (r15.boxes : (List (Str × Str))), dictA p19 (r15.sums : (List (Str × (Int × Int)))), dictT p20 (r15.tallies : (List (Kt × Int))), imA (.str (s12)) (v_name : Any), F] : List (Asn G))) h25 fun ps26 p27 j28 hl29 hj30 hp31 hS => ?_
      have hS : Sep H ([dictA p27 (x24 : (List (Str × Bool))), dictXH id dictA p18 ps26 (r15.tags : (List (Str × (List (Str × Bool))))) j28, cell a_v_self (.ins (G.cl 7) dx16 [("boxes", (.ref p17)), ("tags", (.ref p18)), ("sums", (.ref p19)), ("tallies", (.ref p20))]), dictA p17 (r15.boxes : (List (Str × Str))), dictA p19 (r15.sums : (List (Str × (Int × Int)))), dictT p20 (r15.tallies : (List (Kt × Int))), imA (.str (s12)) (v_name : Any), F] : List (Asn G)) := hS
      refine k_pop2a (isD_of hS (i := 0) rfl) ?_
      refine ev_to (ev_var rfl) ?_
      refine k_pop2b ?_
      refine ev_to ev_c ?_
      refine k_pop2A (k := v_word) hS (i := 0) rfl rfl fun v32 H hS => ?_
      have hS : Sep H ([dictA p27 (ddrop x24 v_word : (List (Str × Bool))), dictXH id dictA p18 ps26 (r15.tags : (List (Str × (List (Str × Bool))))) j28, cell a_v_self (.ins (G.cl 7) dx16 [("boxes", (.ref p17)), ("tags", (.ref p18)), ("sums", (.ref p19)), ("tallies", (.ref p20))]), dictA p17 (r15.boxes : (List (Str × Str))), dictA p19 (r15.sums : (List (Str × (Int × Int)))), dictT p20 (r15.tallies : (List (Kt × Int))), imA (.str (s12)) (v_name : Any), F] : List (Asn G)) := hS
      have hS : Sep H ([dictE dictA p18 (dput r15.tags s12 (ddrop x24 v_word) : (List (Str × (List (Str × Bool))))), cell a_v_self (.ins (G.cl 7) dx16 [("boxes", (.ref p17)), ("tags", (.ref p18)), ("sums", (.ref p19)), ("tallies", (.ref p20))]), dictA p17 (r15.boxes : (List (Str × Str))), dictA p19 (r15.sums : (List (Str × (Int × Int)))), dictT p20 (r15.tallies : (List (Kt × Int))), imA (.str (s12)) (v_name : Any), F] : List (Asn G)) := unfocDE (z := (ddrop x24 v_word : (List (Str × Bool)))) hl29 hj30 hp31 (hS.sel [0, 1, 2, 3, 4, 5, 6, 7] (by decide) rfl)
      refine sq_nx ?_
      refine c_drop ?_
      refine c_meth ?_
      refine ev_to (ev_var rfl) ?_
      refine ⟨_, _, _, rfl, (hS.getCell (i := 1) rfl), rfl, ?_⟩
      refine ea_to (ea_cons (ev_var rfl) (ea_cons ev_c ea_nil)) ?_
      have hS : Sep H (FoldersA a_v_self (⟨r15.boxes, dput r15.tags s12 (ddrop x24 v_word), r15.sums, r15.tallies⟩ : Folders) :: [imA (.str (s12)) (v_name : Any), F] : List (Asn G)) := pack_Folders (hS.sel [1, 2, 0, 3, 4, 5, 6] (by decide) rfl)
      obtain ⟨s33, hs34, hm⟩ := Ml.wp_asStr hm
      have hv35 := v_str (hS.im (i := 1) rfl) hs34
      injection hv35 with hv35; subst hv35
      refine ⟨a_v_self, ((⟨r15.boxes, dput r15.tags s12 (ddrop x24 v_word), r15.sums, r15.tallies⟩ : Folders) : Folders), s12, 1, star [imA (.str (s12)) (v_name : Any), F], rfl, Sep.unstar (M := [FoldersA a_v_self (⟨r15.boxes, dput r15.tags s12 (ddrop x24 v_word), r15.sums, r15.tallies⟩ : Folders)]) (hS.sel [0, 1, 2] (by decide) rfl : Sep H (([FoldersA a_v_self (⟨r15.boxes, dput r15.tags s12 (ddrop x24 v_word), r15.sums, r15.tallies⟩ : Folders)] ++ [imA (.str (s12)) (v_name : Any), F] : List (Asn G)))), R.wp_mono (R.wp_noexc hm) (fun r36 hm H hS => ?_) (fun _ z => z)⟩
      have hS : Sep H ([FoldersA a_v_self r36, imA (.str (s12)) (v_name : Any), F] : List (Asn G)) := Sep.star (M := [FoldersA a_v_self r36]) hS
      have hS : Sep H (FoldersA a_v_self r36 :: [imA (.str (s12)) (v_name : Any), F] : List (Asn G)) := hS.sel [0, 1, 2] (by decide) rfl
      obtain ⟨dx37, p38, p39, p40, p41, hS⟩ := open_Folders hS
      have hS : Sep H ([cell a_v_self (.ins (G.cl 7) dx37 [("boxes", (.ref p38)), ("tags", (.ref p39)), ("sums", (.ref p40)), ("tallies", (.ref p41))]), dictA p38 (r36.boxes : (List (Str × Str))), dictE dictA p39 (r36.tags : (List (Str × (List (Str × Bool))))), dictA p40 (r36.sums : (List (Str × (Int × Int)))), dictT p41 (r36.tallies : (List (Kt × Int))), imA (.str (s12)) (v_name : Any), F] : List (Asn G)) := hS
      have hS : Sep H (FoldersA a_v_self r36 :: [imA (.str (s12)) (v_name : Any), F] : List (Asn G)) := pack_Folders (hS.sel [0, 1, 2, 3, 4, 5, 6] (by decide) rfl)
      exact hm _ (hS.sel [0, 2] (by decide) rfl)
    ·
      have hS : Sep H ([FoldersA a_v_self v_self, imA a_v_name (v_name : Any), F] : List (Asn G)) := Sep.star (M := [FoldersA a_v_self v_self]) hS
      exact hx _ (hS.sel [0, 2] (by decide) rfl)
def sp_Folders_folder (G : Gx) : Sp := fun vs H Q E => ∃ (a_v_self : Addr) (v_self : Folders) (v_name : Str) (F : Asn G), vs = [.ref a_v_self, (.str (v_name))] ∧ Sep H ([FoldersA a_v_self v_self, F] : List (Asn G)) ∧ R.wp (m_Folders_folder v_self v_name) (fun r => ∀ H', Sep H' ([FoldersA a_v_self v_self, F] : List (Asn G)) → Q (.str (r)) H') (fun x => ∀ H', Sep H' ([FoldersA a_v_self v_self, F] : List (Asn G)) → Eok G x E H')
abbrev N_Folders_folder : List Str := ["self", "name"]
theorem sc_Folders_folder : FnScope N_Folders_folder ["self", "name"] (defScope s_Folders_folder) := ⟨rfl, rfl, rfl, by decide +kernel, rfl, by decide +kernel, by decide +kernel⟩
theorem ok_Folders_folder (T : Txt G mg) : FnOk P w G.K mg base (L2.CX P w) 2 T.a_Folders_folder T.fd_Folders_folder ["self", "name"] (sp_Folders_folder G) := by
  have nd := sc_Folders_folder.nd
  refine Fun.okX T.F_Folders_folder sc_Folders_folder (fun vs H Q E h => ?_) (fun cdv A outer s H vs Q E hr h => ?_)
  · obtain ⟨a_v_self, v_self, v_name, F, rfl, _⟩ := h; rfl
  · obtain ⟨a_v_self, v_self, v_name, F, rfl, hS, hm⟩ := h
    refine ⟨_, (pss_cons (ps_expr (pe_meth (pv 0) T.cl_Folders T.m_Folders_need (ok_Folders_need T) (hr.mono (by decide)) T.b_Folders_need .nil (passes_call (takes_of rfl rfl rfl rfl) (fun _ _ _ _ h => h)) (pa_cons (pv 1) pa_nil)))
      (pss_one (ps_ret (pe_dget (hu_of hr) (pe_fld (pv 0) rfl) (pv 1) (fun _ _ => rfl))))), ?_⟩
    unfold m_Folders_folder at hm
    have hS : Sep H (FoldersA a_v_self v_self :: [F] : List (Asn G)) := hS.sel [0, 1] (by decide) rfl
    obtain ⟨dx1, p2, p3, p4, p5, hS⟩ := open_Folders hS
    have hS : Sep H ([cell a_v_self (.ins (G.cl 7) dx1 [("boxes", (.ref p2)), ("tags", (.ref p3)), ("sums", (.ref p4)), ("tallies", (.ref p5))]), dictA p2 (v_self.boxes : (List (Str × Str))), dictE dictA p3 (v_self.tags : (List (Str × (List (Str × Bool))))), dictA p4 (v_self.sums : (List (Str × (Int × Int)))), dictT p5 (v_self.tallies : (List (Kt × Int))), F] : List (Asn G)) := hS
    refine f_seq ?_
    refine c_drop ?_
    refine c_meth ?_
    refine ev_to (ev_var rfl) ?_
    refine ⟨_, _, _, rfl, (hS.getCell (i := 0) rfl), rfl, ?_⟩
    refine ea_to (ea_cons (ev_var rfl) ea_nil) ?_
    have hS : Sep H (FoldersA a_v_self v_self :: [F] : List (Asn G)) := pack_Folders (hS.sel [0, 1, 2, 3, 4, 5] (by decide) rfl)
    refine ⟨a_v_self, (v_self : Folders), v_name, star [F], rfl, Sep.unstar (M := [FoldersA a_v_self v_self]) (hS.sel [0, 1] (by decide) rfl : Sep H (([FoldersA a_v_self v_self] ++ [F] : List (Asn G)))), R.wp_mono (R.wp_bind hm) (fun r6 hm H hS => ?_) (fun x hx H hS => ?_)⟩
    ·
      have hS : Sep H ([FoldersA a_v_self v_self, F] : List (Asn G)) := Sep.star (M := [FoldersA a_v_self v_self]) hS
      have hS : Sep H (FoldersA a_v_self v_self :: [F] : List (Asn G)) := hS.sel [0, 1] (by decide) rfl
      obtain ⟨dx7, p8, p9, p10, p11, hS⟩ := open_Folders hS
      have hS : Sep H ([cell a_v_self (.ins (G.cl 7) dx7 [("boxes", (.ref p8)), ("tags", (.ref p9)), ("sums", (.ref p10)), ("tallies", (.ref p11))]), dictA p8 (v_self.boxes : (List (Str × Str))), dictE dictA p9 (v_self.tags : (List (Str × (List (Str × Bool))))), dictA p10 (v_self.sums : (List (Str × (Int × Int)))), dictT p11 (v_self.tallies : (List (Kt × Int))), F] : List (Asn G)) := hS
      refine sq_nx ?_
      refine c_ret ?_
      obtain ⟨y12, hy12, hm⟩ := wp_dget hm
      obtain ⟨v13, g14, hv15⟩ := dget_some hS (i := 1) rfl hy12
      have hv15 : v13 = (.str (y12)) := hv15
      subst hv15
      refine ev_to (ev_dget (y := y12) hS (i := 1) rfl (ev_fld (ev_var rfl) (hS.getCell (i := 0) rfl) T.cl_Folders T.n_Folders_boxes rfl) (ev_var rfl) g14) ?_
      have hS : Sep H (FoldersA a_v_self v_self :: [F] : List (Asn G)) := pack_Folders (hS.sel [0, 1, 2, 3, 4, 5] (by decide) rfl)
      exact hm _ (hS.sel [0, 1] (by decide) rfl)
    ·
      have hS : Sep H ([FoldersA a_v_self v_self, F] : List (Asn G)) := Sep.star (M := [FoldersA a_v_self v_self]) hS
      exact hx _ (hS.sel [0, 1] (by decide) rfl)
def sp_Folders_folder_A (G : Gx) : Sp := fun vs H Q E => ∃ (a_v_self : Addr) (v_self : Folders) (a_v_name : V) (v_name : Any) (F : Asn G), vs = [.ref a_v_self, a_v_name] ∧ Im.im G H a_v_name v_name ∧ Sep H ([FoldersA a_v_self v_self, F] : List (Asn G)) ∧ R.wp (m_Folders_folder_A v_self v_name) (fun r => ∀ H', Sep H' ([FoldersA a_v_self v_self, F] : List (Asn G)) → Q (.str (r)) H') (fun x => ∀ H', Sep H' ([FoldersA a_v_self v_self, F] : List (Asn G)) → Eok G x E H')
abbrev N_Folders_folder_A : List Str := ["self", "name"]
theorem sc_Folders_folder_A : FnScope N_Folders_folder_A ["self", "name"] (defScope s_Folders_folder) := ⟨rfl, rfl, rfl, by decide +kernel, rfl, by decide +kernel, by decide +kernel⟩
theorem ok_Folders_folder_A (T : Txt G mg) : FnOk P w G.K mg base (L2.CX P w) 2 T.a_Folders_folder T.fd_Folders_folder ["self", "name"] (sp_Folders_folder_A G) := by
  have nd := sc_Folders_folder_A.nd
  refine Fun.okX T.F_Folders_folder sc_Folders_folder_A (fun vs H Q E h => ?_) (fun cdv A outer s H vs Q E hr h => ?_)
  · obtain ⟨a_v_self, v_self, a_v_name, v_name, F, rfl, _⟩ := h; rfl
  · obtain ⟨a_v_self, v_self, a_v_name, v_name, F, rfl, him_v_name, hS, hm⟩ := h
    have hS := hS.addIm him_v_name
    refine ⟨_, (pss_cons (ps_expr (pe_meth (pv 0) T.cl_Folders T.m_Folders_need (ok_Folders_need_A T) (hr.mono (by decide)) T.b_Folders_need .nil (passes_call (takes_of rfl rfl rfl rfl) (fun _ _ _ _ h => h)) (pa_cons (pv 1) pa_nil)))
      (pss_one (ps_ret (pe_dget (hu_of hr) (pe_fld (pv 0) rfl) (pv 1) (fun _ _ => rfl))))), ?_⟩
    unfold m_Folders_folder_A at hm
    have hS : Sep H (FoldersA a_v_self v_self :: [imA a_v_name (v_name : Any), F] : List (Asn G)) := hS.sel [1, 0, 2] (by decide) rfl
    obtain ⟨dx1, p2, p3, p4, p5, hS⟩ := open_Folders hS
    have hS : Sep H ([cell a_v_self (.ins (G.cl 7) dx1 [("boxes", (.ref p2)), ("tags", (.ref p3)), ("sums", (.ref p4)), ("tallies", (.ref p5))]), dictA p2 (v_self.boxes : (List (Str × Str))), dictE dictA p3 (v_self.tags : (List (Str × (List (Str × Bool))))), dictA p4 (v_self.sums : (List (Str × (Int × Int)))), dictT p5 (v_self.tallies : (List (Kt × Int))), imA a_v_name (v_name : Any), F] : List (Asn G)) := hS
    refine f_seq ?_
    refine c_drop ?_
    refine c_meth ?_
    refine ev_to (ev_var rfl) ?_
    refine ⟨_, _, _, rfl, (hS.getCell (i := 0) rfl), rfl, ?_⟩
    refine ea_to (ea_cons (ev_var rfl) ea_nil) ?_
    have hS : Sep H (FoldersA a_v_self v_self :: [imA a_v_name (v_name : Any), F] : List (Asn G)) := pack_Folders (hS.sel [0, 1, 2, 3, 4, 5, 6] (by decide) rfl)
    refine ⟨a_v_self, (v_self : Folders), a_v_name, (v_name : Any), star [imA a_v_name (v_name : Any), F], rfl, (hS.im (i := 1) rfl), Sep.unstar (M := [FoldersA a_v_self v_self]) (hS.sel [0, 1, 2] (by decide) rfl : Sep H (([FoldersA a_v_self v_self] ++ [imA a_v_name (v_name : Any), F] : List (Asn G)))), R.wp_mono (R.wp_bind hm) (fun r6 hm H hS => ?_) (fun x hx H hS => ?_)⟩
    ·
      have hS : Sep H ([FoldersA a_v_self v_self, imA a_v_name (v_name : Any), F] : List (Asn G)) := Sep.star (M := [FoldersA a_v_self v_self]) hS
      have hS : Sep H (FoldersA a_v_self v_self :: [imA a_v_name (v_name : Any), F] : List (Asn G)) := hS.sel [0, 1, 2] (by decide) rfl
      obtain ⟨dx7, p8, p9, p10, p11, hS⟩ := open_Folders hS
      have hS : Sep H ([cell a_v_self (.ins (G.cl 7) dx7 [("boxes", (.ref p8)), ("tags", (.ref p9)), ("sums", (.ref p10)), ("tallies", (.ref p11))]), dictA p8 (v_self.boxes : (List (Str × Str))), dictE dictA p9 (v_self.tags : (List (Str × (List (Str × Bool))))), dictA p10 (v_self.sums : (List (Str × (Int × Int)))), dictT p11 (v_self.tallies : (List (Kt × Int))), imA a_v_name (v_name : Any), F] : List (Asn G)) := hS
      refine sq_nx ?_
      refine c_ret ?_
      obtain ⟨s12, hs13, hm⟩ := Ml.wp_asStr hm
      have hv14 := v_str (hS.im (i := 5) rfl) hs13
      subst hv14
      obtain ⟨y15, hy15, hm⟩ := wp_dget hm
      obtain ⟨v16, g17, hv18⟩ := dget_some hS (i := 1) rfl hy15
      have hv18 : v16 = (.str (y15)) := hv18
      subst hv18
      refine ev_to (ev_dget (y := y15) hS (i := 1) rfl (ev_fld (ev_var rfl) (hS.getCell (i := 0) rfl) T.cl_Folders T.n_Folders_boxes rfl) (ev_var rfl) g17) ?_
      have hS : Sep H (FoldersA a_v_self v_self :: [imA (.str (s12)) (v_name : Any), F] : List (Asn G)) := pack_Folders (hS.sel [0, 1, 2, 3, 4, 5, 6] (by decide) rfl)
      exact hm _ (hS.sel [0, 2] (by decide) rfl)
    ·
      have hS : Sep H ([FoldersA a_v_self v_self, imA a_v_name (v_name : Any), F] : List (Asn G)) := Sep.star (M := [FoldersA a_v_self v_self]) hS
      exact hx _ (hS.sel [0, 2] (by decide) rfl)
def sp_Folders_marks (G : Gx) : Sp := fun vs H Q E => ∃ (a_v_self : Addr) (v_self : Folders) (v_name : Str) (F : Asn G), vs = [.ref a_v_self, (.str (v_name))] ∧ Sep H ([FoldersA a_v_self v_self, F] : List (Asn G)) ∧ R.wp (m_Folders_marks v_self v_name) (fun r => ∀ p H', Sep H' ([lstA p (r : (List Str)), FoldersA a_v_self v_self, F] : List (Asn G)) → Q (.ref p) H') (fun x => ∀ H', Sep H' ([FoldersA a_v_self v_self, F] : List (Asn G)) → Eok G x E H')
abbrev N_Folders_marks : List Str := ["self", "name"]
theorem sc_Folders_marks : FnScope N_Folders_marks ["self", "name"] (defScope s_Folders_marks) := ⟨rfl, rfl, rfl, by decide +kernel, rfl, by decide +kernel, by decide +kernel⟩
theorem ok_Folders_marks (T : Txt G mg) : FnOk P w G.K mg base (L2.CX P w) 2 T.a_Folders_marks T.fd_Folders_marks ["self", "name"] (sp_Folders_marks G) := by
  have nd := sc_Folders_marks.nd
  refine Fun.okX T.F_Folders_marks sc_Folders_marks (fun vs H Q E h => ?_) (fun cdv A outer s H vs Q E hr h => ?_)
  · obtain ⟨a_v_self, v_self, v_name, F, rfl, _⟩ := h; rfl
  · obtain ⟨a_v_self, v_self, v_name, F, rfl, hS, hm⟩ := h
    refine ⟨_, (pss_cons (ps_expr (pe_meth (pv 0) T.cl_Folders T.m_Folders_need (ok_Folders_need T) (hr.mono (by decide)) T.b_Folders_need .nil (passes_call (takes_of rfl rfl rfl rfl) (fun _ _ _ _ h => h)) (pa_cons (pv 1) pa_nil)))
      (pss_one (ps_ret (pe_fz (pe_callB (cr_sortD rfl) (by rfl) T.z_sorted (by decide +kernel) (pa_cons (pe_dget (hu_of hr) (pe_fld (pv 0) rfl) (pv 1) (fun _ _ => rfl)) pa_nil)))))), ?_⟩
    unfold m_Folders_marks at hm
    have hS : Sep H (FoldersA a_v_self v_self :: [F] : List (Asn G)) := hS.sel [0, 1] (by decide) rfl
    obtain ⟨dx1, p2, p3, p4, p5, hS⟩ := open_Folders hS
    have hS : Sep H ([cell a_v_self (.ins (G.cl 7) dx1 [("boxes", (.ref p2)), ("tags", (.ref p3)), ("sums", (.ref p4)), ("tallies", (.ref p5))]), dictA p2 (v_self.boxes : (List (Str × Str))), dictE dictA p3 (v_self.tags : (List (Str × (List (Str × Bool))))), dictA p4 (v_self.sums : (List (Str × (Int × Int)))), dictT p5 (v_self.tallies : (List (Kt × Int))), F] : List (Asn G)) := hS
    refine f_seq ?_
    refine c_drop ?_
    refine c_meth ?_
    refine ev_to (ev_var rfl) ?_
    refine ⟨_, _, _, rfl, (hS.getCell (i := 0) rfl), rfl, ?_⟩
    refine ea_to (ea_cons (ev_var rfl) ea_nil) ?_
    have hS : Sep H (FoldersA a_v_self v_self :: [F] : List (Asn G)) := pack_Folders (hS.sel [0, 1, 2, 3, 4, 5] (by decide) rfl)
    refine ⟨a_v_self, (v_self : Folders), v_name, star [F], rfl, Sep.unstar (M := [FoldersA a_v_self v_self]) (hS.sel [0, 1] (by decide) rfl : Sep H (([FoldersA a_v_self v_self] ++ [F] : List (Asn G)))), R.wp_mono (R.wp_bind hm) (fun r6 hm H hS => ?_) (fun x hx H hS => ?_)⟩
    ·
      have hS : Sep H ([FoldersA a_v_self v_self, F] : List (Asn G)) := Sep.star (M := [FoldersA a_v_self v_self]) hS
      have hS : Sep H (FoldersA a_v_self v_self :: [F] : List (Asn G)) := hS.sel [0, 1] (by decide) rfl
      obtain ⟨dx7, p8, p9, p10, p11, hS⟩ := open_Folders hS
      have hS : Sep H ([cell a_v_self (.ins (G.cl 7) dx7 [("boxes", (.ref p8)), ("tags", (.ref p9)), ("sums", (.ref p10)), ("tallies", (.ref p11))]), dictA p8 (v_self.boxes : (List (Str × Str))), dictE dictA p9 (v_self.tags : (List (Str × (List (Str × Bool))))), dictA p10 (v_self.sums : (List (Str × (Int × Int)))), dictT p11 (v_self.tallies : (List (Kt × Int))), F] : List (Asn G)) := hS
      refine sq_nx ?_
      refine c_ret ?_
      refine c_fz ?_
      refine c_cb ?_
      refine c_cons ?_
      refine c_dget ?_
      refine ev_to (ev_fld (ev_var rfl) (hS.getCell (i := 0) rfl) T.cl_Folders T.n_Folders_tags rfl) ?_
      refine k_dget1 ?_
      refine ev_to (ev_var rfl) ?_
      obtain ⟨x12, h13, hm⟩ := wp_dgetX hm
      refine k_dgetE (y := (x12 : (List (Str × Bool)))) (hS.sel [2, 0, 1, 3, 4, 5] (by decide) rfl : Sep _ (dictE dictA p9 (v_self.tags : (List (Str × (List (Str × Bool))))) :: [cell a_v_self (.ins (G.cl 7) dx7 [("boxes", (.ref p8)), ("tags", (.ref p9)), ("sums", (.ref p10)), ("tallies", (.ref p11))]), dictA p8 (v_self.boxes : (List (Str × Str))), dictA p10 (v_self.sums : (List (Str × (Int × Int)))), dictT p11 (v_self.tallies : (List (Kt × Int))), F] : List (Asn G))) h13 fun ps14 p15 j16 hl17 hj18 hp19 hS => ?_
      have hS : Sep H ([dictA p15 (x12 : (List (Str × Bool))), dictXH id dictA p9 ps14 (v_self.tags : (List (Str × (List (Str × Bool))))) j16, cell a_v_self (.ins (G.cl 7) dx7 [("boxes", (.ref p8)), ("tags", (.ref p9)), ("sums", (.ref p10)), ("tallies", (.ref p11))]), dictA p8 (v_self.boxes : (List (Str × Str))), dictA p10 (v_self.sums : (List (Str × (Int × Int)))), dictT p11 (v_self.tallies : (List (Kt × Int))), F] : List (Asn G)) := hS
      refine c_nil ?_
      obtain ⟨h21, hm⟩ := R.wp_need hm
      refine k_sortDA hS (i := 0) rfl h21 fun p20 H hS => ?_
      refine fz_no ?_
      have hS : Sep H ([dictE dictA p9 (v_self.tags : (List (Str × (List (Str × Bool))))), lstA p20 (sortT (x12.map (·.1)) : (List Str)), cell a_v_self (.ins (G.cl 7) dx7 [("boxes", (.ref p8)), ("tags", (.ref p9)), ("sums", (.ref p10)), ("tallies", (.ref p11))]), dictA p8 (v_self.boxes : (List (Str × Str))), dictA p10 (v_self.sums : (List (Str × (Int × Int)))), dictT p11 (v_self.tallies : (List (Kt × Int))), F] : List (Asn G)) := unfocDE0 hl17 hj18 hp19 (hS.sel [1, 2, 0, 3, 4, 5, 6, 7] (by decide) rfl)
      have hS : Sep H (FoldersA a_v_self v_self :: [lstA p20 (sortT (x12.map (·.1)) : (List Str)), F] : List (Asn G)) := pack_Folders (hS.sel [2, 3, 0, 4, 5, 1, 6] (by decide) rfl)
      exact hm _ _ (hS.sel [1, 0, 2] (by decide) rfl)
    ·
      have hS : Sep H ([FoldersA a_v_self v_self, F] : List (Asn G)) := Sep.star (M := [FoldersA a_v_self v_self]) hS
      exact hx _ (hS.sel [0, 1] (by decide) rfl)
def sp_Folders_marks_A (G : Gx) : Sp := fun vs H Q E => ∃ (a_v_self : Addr) (v_self : Folders) (a_v_name : V) (v_name : Any) (F : Asn G), vs = [.ref a_v_self, a_v_name] ∧ Im.im G H a_v_name v_name ∧ Sep H ([FoldersA a_v_self v_self, F] : List (Asn G)) ∧ R.wp (m_Folders_marks_A v_self v_name) (fun r => ∀ p H', Sep H' ([lstA p (r : (List Str)), FoldersA a_v_self v_self, F] : List (Asn G)) → Q (.ref p) H') (fun x => ∀ H', Sep H' ([FoldersA a_v_self v_self, F] : List (Asn G)) → Eok G x E H')
abbrev N_Folders_marks_A : List Str := ["self", "name"]
theorem sc_Folders_marks_A : FnScope N_Folders_marks_A ["self", "name"] (defScope s_Folders_marks) := ⟨rfl, rfl, rfl, by decide +kernel, rfl, by decide +kernel, by decide +kernel⟩
theorem ok_Folders_marks_A (T : Txt G mg) : FnOk P w G.K mg base (L2.CX P w) 2 T.a_Folders_marks T.fd_Folders_marks ["self", "name"] (sp_Folders_marks_A G) := by
  have nd := sc_Folders_marks_A.nd
  refine Fun.okX T.F_Folders_marks sc_Folders_marks_A (fun vs H Q E h => ?_) (fun cdv A outer s H vs Q E hr h => ?_)
  · obtain ⟨a_v_self, v_self, a_v_name, v_name, F, rfl, _⟩ := h; rfl
  · obtain ⟨a_v_self, v_self, a_v_name, v_name, F, rfl, him_v_name, hS, hm⟩ := h
    have hS := hS.addIm him_v_name
    refine ⟨_, (pss_cons (ps_expr (pe_meth (pv 0) T.cl_Folders T.m_Folders_need (ok_Folders_need_A T) (hr.mono (by decide)) T.b_Folders_need .nil (passes_call (takes_of rfl rfl rfl rfl) (fun _ _ _ _ h => h)) (pa_cons (pv 1) pa_nil)))
      (pss_one (ps_ret (pe_fz (pe_callB (cr_sortD rfl) (by rfl) T.z_sorted (by decide +kernel) (pa_cons (pe_dget (hu_of hr) (pe_fld (pv 0) rfl) (pv 1) (fun _ _ => rfl)) pa_nil)))))), ?_⟩
    unfold m_Folders_marks_A at hm
    have hS : Sep H (FoldersA a_v_self v_self :: [imA a_v_name (v_name : Any), F] : List (Asn G)) := hS.sel [1, 0, 2] (by decide) rfl
    obtain ⟨dx1, p2, p3, p4, p5, hS⟩ := open_Folders hS
    have hS : Sep H ([cell a_v_self (.ins (G.cl 7) dx1 [("boxes", (.ref p2)), ("tags", (.ref p3)), ("sums", (.ref p4)), ("tallies", (.ref p5))]), dictA p2 (v_self.boxes : (List (Str × Str))), dictE dictA p3 (v_self.tags : (List (Str × (List (Str × Bool))))), dictA p4 (v_self.sums : (List (Str × (Int × Int)))), dictT p5 (v_self.tallies : (List (Kt × Int))), imA a_v_name (v_name : Any), F] : List (Asn G)) := hS
    refine f_seq ?_
    refine c_drop ?_
    refine c_meth ?_
    refine ev_to (ev_var rfl) ?_
    refine ⟨_, _, _, rfl, (hS.getCell (i := 0) rfl), rfl, ?_⟩
    refine ea_to (ea_cons (ev_var rfl) ea_nil) ?_
    have hS : Sep H (FoldersA a_v_self v_self :: [imA a_v_name (v_name : Any), F] : List (Asn G)) := pack_Folders (hS.sel [0, 1, 2, 3, 4, 5, 6] (by decide) rfl)
    refine ⟨a_v_self, (v_self : Folders), a_v_name, (v_name : Any), star [imA a_v_name (v_name : Any), F], rfl, (hS.im (i := 1) rfl), Sep.unstar (M := [FoldersA a_v_self v_self]) (hS.sel [0, 1, 2] (by decide) rfl : Sep H (([FoldersA a_v_self v_self] ++ [imA a_v_name (v_name : Any), F] : List (Asn G)))), R.wp_mono (R.wp_bind hm) (fun r6 hm H hS => ?_) (fun x hx H hS => ?_)⟩
    ·
      have hS : Sep H ([FoldersA a_v_self v_self, imA a_v_name (v_name : Any), F] : List (Asn G)) := Sep.star (M := [FoldersA a_v_self v_self]) hS
      have hS : Sep H (FoldersA a_v_self v_self :: [imA a_v_name (v_name : Any), F] : List (Asn G)) := hS.sel [0, 1, 2] (by decide) rfl
      obtain ⟨dx7, p8, p9, p10, p11, hS⟩ := open_Folders hS
      have hS : Sep H ([cell a_v_self (.ins (G.cl 7) dx7 [("boxes", (.ref p8)), ("tags", (.ref p9)), ("sums", (.ref p10)), ("tallies", (.ref p11))]), dictA p8 (v_self.boxes : (List (Str × Str))), dictE dictA p9 (v_self.tags : (List (Str × (List (Str × Bool))))), dictA p10 (v_self.sums : (List (Str × (Int × Int)))), dictT p11 (v_self.tallies : (List (Kt × Int))), imA a_v_name (v_name : Any), F] : List (Asn G)) := hS
      refine sq_nx ?_
      refine c_ret ?_
      refine c_fz ?_
      refine c_cb ?_
      refine c_cons ?_
      refine c_dget ?_
      refine ev_to (ev_fld (ev_var rfl) (hS.getCell (i := 0) rfl) T.cl_Folders T.n_Folders_tags rfl) ?_
      refine k_dget1 ?_
      refine ev_to (ev_var rfl) ?_
      obtain ⟨s12, hs13, hm⟩ := Ml.wp_asStr hm
      have hv14 := v_str (hS.im (i := 5) rfl) hs13
      subst hv14
      obtain ⟨x15, h16, hm⟩ := wp_dgetX hm
      refine k_dgetE (y := (x15 : (List (Str × Bool)))) (hS.sel [2, 0, 1, 3, 4, 5, 6] (by decide) rfl : Sep _ (dictE dictA p9 (v_self.tags : (List (Str × (List (Str × Bool))))) :: [cell a_v_self (.ins (G.cl 7) dx7 [("boxes", (.ref p8)), ("tags", (.ref p9)), ("sums", (.ref p10)), ("tallies", (.ref p11))]), dictA p8 (v_self.boxes : (List (Str × Str))), dictA p10 (v_self.sums : (List (Str × (Int × Int)))), dictT p11 (v_self.tallies : (List (Kt × Int))), imA (.str (s12)) (v_name : Any), F] : List (Asn G))) h16 fun ps17 p18 j19 hl20 hj21 hp22 hS => ?_
      have hS : Sep H ([dictA p18 (x15 : (List (Str × Bool))), dictXH id dictA p9 ps17 (v_self.tags : (List (Str × (List (Str × Bool))))) j19, cell a_v_self (.ins (G.cl 7) dx7 [("boxes", (.ref p8)), ("tags", (.ref p9)), ("sums", (.ref p10)), ("tallies", (.ref p11))]), dictA p8 (v_self.boxes : (List (Str × Str))), dictA p10 (v_self.sums : (List (Str × (Int × Int)))), dictT p11 (v_self.tallies : (List (Kt × Int))), imA (.str (s12)) (v_name : Any), F] : List (Asn G)) := hS
      refine c_nil ?_
      obtain ⟨h24, hm⟩ := R.wp_need hm
      refine k_sortDA hS (i := 0) rfl h24 fun p23 H hS => ?_
      refine fz_no ?_
      have hS : Sep H ([dictE dictA p9 (v_self.tags : (List (Str × (List (Str × Bool))))), lstA p23 (sortT (x15.map (·.1)) : (List Str)), cell a_v_self (.ins (G.cl 7) dx7 [("boxes", (.ref p8)), ("tags", (.ref p9)), ("sums", (.ref p10)), ("tallies", (.ref p11))]), dictA p8 (v_self.boxes : (List (Str × Str))), dictA p10 (v_self.sums : (List (Str × (Int × Int)))), dictT p11 (v_self.tallies : (List (Kt × Int))), imA (.str (s12)) (v_name : Any), F] : List (Asn G)) := unfocDE0 hl20 hj21 hp22 (hS.sel [1, 2, 0, 3, 4, 5, 6, 7, 8] (by decide) rfl)
      have hS : Sep H (FoldersA a_v_self v_self :: [lstA p23 (sortT (x15.map (·.1)) : (List Str)), imA (.str (s12)) (v_name : Any), F] : List (Asn G)) := pack_Folders (hS.sel [2, 3, 0, 4, 5, 1, 6, 7] (by decide) rfl)
      exact hm _ _ (hS.sel [1, 0, 3] (by decide) rfl)
    ·
      have hS : Sep H ([FoldersA a_v_self v_self, imA a_v_name (v_name : Any), F] : List (Asn G)) := Sep.star (M := [FoldersA a_v_self v_self]) hS
      exact hx _ (hS.sel [0, 2] (by decide) rfl)
def sp_Folders_counts (G : Gx) : Sp := fun vs H Q E => ∃ (a_v_self : Addr) (v_self : Folders) (v_folder : Str) (F : Asn G), vs = [.ref a_v_self, (.str (v_folder))] ∧ Sep H ([FoldersA a_v_self v_self, F] : List (Asn G)) ∧ R.wp (m_Folders_counts v_self v_folder) (fun r => ∀ (p : Addr) H', Sep H' ([imA (.ref p) (r : (Int × Int)), FoldersA a_v_self v_self, F] : List (Asn G)) → Q (.ref p) H') (fun _ => False)
abbrev N_Folders_counts : List Str := ["self", "folder"]
theorem sc_Folders_counts : FnScope N_Folders_counts ["self", "folder"] (defScope s_Folders_counts) := ⟨rfl, rfl, rfl, by decide +kernel, rfl, by decide +kernel, by decide +kernel⟩
theorem ok_Folders_counts (T : Txt G mg) : FnOk P w G.K mg base CX0 1 T.a_Folders_counts T.fd_Folders_counts ["self", "folder"] (sp_Folders_counts G) := by
  have nd := sc_Folders_counts.nd
  refine Fun.ok T.F_Folders_counts sc_Folders_counts (fun vs H Q E h => ?_) (fun cdv A outer s H vs Q E hr h => ?_)
  · obtain ⟨a_v_self, v_self, v_folder, F, rfl, _⟩ := h; rfl
  · obtain ⟨a_v_self, v_self, v_folder, F, rfl, hS, hm⟩ := h
    refine ⟨_, (pss_one (ps_ret (pe_dget2 (hu_of hr) (pe_fld (pv 0) rfl) (pv 1) (pe_tup (pa_cons pe_int (pa_cons pe_int pa_nil))) m2))), ?_⟩
    unfold m_Folders_counts at hm
    have hS : Sep H (FoldersA a_v_self v_self :: [F] : List (Asn G)) := hS.sel [0, 1] (by decide) rfl
    obtain ⟨dx1, p2, p3, p4, p5, hS⟩ := open_Folders hS
    have hS : Sep H ([cell a_v_self (.ins (G.cl 7) dx1 [("boxes", (.ref p2)), ("tags", (.ref p3)), ("sums", (.ref p4)), ("tallies", (.ref p5))]), dictA p2 (v_self.boxes : (List (Str × Str))), dictE dictA p3 (v_self.tags : (List (Str × (List (Str × Bool))))), dictA p4 (v_self.sums : (List (Str × (Int × Int)))), dictT p5 (v_self.tallies : (List (Kt × Int))), F] : List (Asn G)) := hS
    refine c_ret ?_
    refine c_dget2 ?_
    refine ev_to (ev_fld (ev_var rfl) (hS.getCell (i := 0) rfl) T.cl_Folders T.n_Folders_sums rfl) ?_
    refine k_get2a (isD_of hS (i := 3) rfl) ?_
    refine ev_to (ev_var rfl) ?_
    refine k_get2b ?_
    refine c_tup ?_
    refine ea_to (ea_cons ev_c (ea_cons ev_c ea_nil)) ?_
    refine k_tupP (x := ((0, 0) : (Int × Int))) hS (fun H' p h s => mk2 rfl rfl h s) (by show 2 ≤ sizeLine; decide) fun p6 H hS => ?_
    refine k_get2A (k := v_folder) (y := ((0, 0) : (Int × Int))) hS (i := 4) rfl (hS.im (i := 0) rfl) fun v8 hS => ?_
    obtain ⟨a10, rfl⟩ := isref (hS.im (i := 0) rfl)
    have hS : Sep H ([imA (.ref a10) ((dget v_self.sums v_folder).getD (0, 0) : (Int × Int)), imA (.ref p6) ((0, 0) : (Int × Int)), cell a_v_self (.ins (G.cl 7) dx1 [("boxes", (.ref p2)), ("tags", (.ref p3)), ("sums", (.ref p4)), ("tallies", (.ref p5))]), dictA p2 (v_self.boxes : (List (Str × Str))), dictE dictA p3 (v_self.tags : (List (Str × (List (Str × Bool))))), dictA p4 (v_self.sums : (List (Str × (Int × Int)))), dictT p5 (v_self.tallies : (List (Kt × Int))), F] : List (Asn G)) := hS
    have hS : Sep H (FoldersA a_v_self v_self :: [imA (.ref a10) ((dget v_self.sums v_folder).getD (0, 0) : (Int × Int)), imA (.ref p6) ((0, 0) : (Int × Int)), F] : List (Asn G)) := pack_Folders (hS.sel [2, 3, 4, 5, 6, 0, 1, 7] (by decide) rfl)
    exact hm _ _ (hS.sel [1, 0, 3] (by decide) rfl)
def sp_Folders_marked (G : Gx) : Sp := fun vs H Q E => ∃ (a_v_self : Addr) (v_self : Folders) (v_folder : Str) (v_word : Str) (F : Asn G), vs = [.ref a_v_self, (.str (v_folder)), (.str (v_word))] ∧ Sep H ([FoldersA a_v_self v_self, F] : List (Asn G)) ∧ R.wp (m_Folders_marked v_self v_folder v_word) (fun r => ∀ H', Sep H' ([FoldersA a_v_self v_self, F] : List (Asn G)) → Q (.int (r)) H') (fun _ => False)
abbrev N_Folders_marked : List Str := ["self", "folder", "word"]
theorem sc_Folders_marked : FnScope N_Folders_marked ["self", "folder", "word"] (defScope s_Folders_marked) := ⟨rfl, rfl, rfl, by decide +kernel, rfl, by decide +kernel, by decide +kernel⟩
theorem ok_Folders_marked (T : Txt G mg) : FnOk P w G.K mg base CX0 1 T.a_Folders_marked T.fd_Folders_marked ["self", "folder", "word"] (sp_Folders_marked G) := by
  have nd := sc_Folders_marked.nd
  refine Fun.ok T.F_Folders_marked sc_Folders_marked (fun vs H Q E h => ?_) (fun cdv A outer s H vs Q E hr h => ?_)
  · obtain ⟨a_v_self, v_self, v_folder, v_word, F, rfl, _⟩ := h; rfl
  · obtain ⟨a_v_self, v_self, v_folder, v_word, F, rfl, hS, hm⟩ := h
    refine ⟨_, (pss_one (ps_ret (pe_dget2 (hu_of hr) (pe_fld (pv 0) rfl) (pe_tup (pa_cons (pv 1) (pa_cons (pv 2) pa_nil))) pe_int m2))), ?_⟩
    unfold m_Folders_marked at hm
    have hS : Sep H (FoldersA a_v_self v_self :: [F] : List (Asn G)) := hS.sel [0, 1] (by decide) rfl
    obtain ⟨dx1, p2, p3, p4, p5, hS⟩ := open_Folders hS
    have hS : Sep H ([cell a_v_self (.ins (G.cl 7) dx1 [("boxes", (.ref p2)), ("tags", (.ref p3)), ("sums", (.ref p4)), ("tallies", (.ref p5))]), dictA p2 (v_self.boxes : (List (Str × Str))), dictE dictA p3 (v_self.tags : (List (Str × (List (Str × Bool))))), dictA p4 (v_self.sums : (List (Str × (Int × Int)))), dictT p5 (v_self.tallies : (List (Kt × Int))), F] : List (Asn G)) := hS
    refine c_ret ?_
    refine c_dget2 ?_
    refine ev_to (ev_fld (ev_var rfl) (hS.getCell (i := 0) rfl) T.cl_Folders T.n_Folders_tallies rfl) ?_
    refine k_get2a (isD_T hS (i := 4) rfl) ?_
    refine c_tup ?_
    refine ea_to (ea_cons (ev_var rfl) (ea_cons (ev_var rfl) ea_nil)) ?_
    refine k_tupKt (xs := [v_folder, v_word]) hS (by show 2 ≤ sizeLine; decide) fun p6 H hS => ?_
    refine k_get2b ?_
    refine ev_to ev_c ?_
    refine k_get2T (y := (0 : Int)) hS (i := 5) rfl (hS.im (i := 0) rfl) rfl fun v8 hS => ?_
    obtain rfl : v8 = (.int ((dget v_self.tallies (⟨[v_folder, v_word]⟩ : Kt)).getD 0)) := hS.im (i := 0) rfl
    have hS := hS.tail
    have hS : Sep H ([imA (.ref p6) ((⟨[v_folder, v_word]⟩ : Kt) : Kt), cell a_v_self (.ins (G.cl 7) dx1 [("boxes", (.ref p2)), ("tags", (.ref p3)), ("sums", (.ref p4)), ("tallies", (.ref p5))]), dictA p2 (v_self.boxes : (List (Str × Str))), dictE dictA p3 (v_self.tags : (List (Str × (List (Str × Bool))))), dictA p4 (v_self.sums : (List (Str × (Int × Int)))), dictT p5 (v_self.tallies : (List (Kt × Int))), F] : List (Asn G)) := hS
    have hS : Sep H (FoldersA a_v_self v_self :: [imA (.ref p6) ((⟨[v_folder, v_word]⟩ : Kt) : Kt), F] : List (Asn G)) := pack_Folders (hS.sel [1, 2, 3, 4, 5, 0, 6] (by decide) rfl)
    exact hm _ (hS.sel [0, 2] (by decide) rfl)
def sp_Folders_names (G : Gx) : Sp := fun vs H Q E => ∃ (a_v_self : Addr) (v_self : Folders) (v_folder : Str) (F : Asn G), vs = [.ref a_v_self, (.str (v_folder))] ∧ Sep H ([FoldersA a_v_self v_self, F] : List (Asn G)) ∧ R.wp (m_Folders_names v_self v_folder) (fun r => ∀ p H', Sep H' ([lstA p (r : (List Str)), FoldersA a_v_self v_self, F] : List (Asn G)) → Q (.ref p) H') (fun _ => False)
abbrev N_Folders_names : List Str := ["self", "folder", "name", "box"]
theorem sc_Folders_names : FnScope N_Folders_names ["self", "folder"] (defScope s_Folders_names) := ⟨rfl, rfl, rfl, by decide +kernel, rfl, by decide +kernel, by decide +kernel⟩
theorem ok_Folders_names (T : Txt G mg) : FnOk P w G.K mg base CX0 1 T.a_Folders_names T.fd_Folders_names ["self", "folder"] (sp_Folders_names G) := by
  have nd := sc_Folders_names.nd
  refine Fun.ok T.F_Folders_names sc_Folders_names (fun vs H Q E h => ?_) (fun cdv A outer s H vs Q E hr h => ?_)
  · obtain ⟨a_v_self, v_self, v_folder, F, rfl, _⟩ := h; rfl
  · obtain ⟨a_v_self, v_self, v_folder, F, rfl, hS, hm⟩ := h
    refine ⟨_, (pss_one (ps_ret (pe_fz (pe_callB (sortedSK G.K) (by rfl) T.z_sorted (by decide +kernel) (pa_cons (pe_fz (pe_lock (pe_lc (own := [("name", 2), ("box", 3)]) rfl nd (pi_items (pe_fld (pv 0) rfl)) (blkOk_by (own := [("name", 2), ("box", 3)]) (N := N_Folders_names) (sc := defScope s_Folders_names) (by decide +kernel)) (fun _ _ _ _ _ => (pg_tupK (n := 2) G.K rfl rfl (pgs_cons (pg_name (i := 2) nd rfl (Or.inl rfl)) (pgs_cons (pg_name (i := 3) nd rfl (Or.inl rfl)) pgs_nil)))) (fun _ _ _ _ _ => pts_one (pt_cmpR op_eq (pv 3) (pv 1) (nomark _))) (fun _ _ _ _ _ => (pv 2))))) pa_nil))))), ?_⟩
    unfold m_Folders_names at hm
    have hS : Sep H (FoldersA a_v_self v_self :: [F] : List (Asn G)) := hS.sel [0, 1] (by decide) rfl
    obtain ⟨dx1, p2, p3, p4, p5, hS⟩ := open_Folders hS
    have hS : Sep H ([cell a_v_self (.ins (G.cl 7) dx1 [("boxes", (.ref p2)), ("tags", (.ref p3)), ("sums", (.ref p4)), ("tallies", (.ref p5))]), dictA p2 (v_self.boxes : (List (Str × Str))), dictE dictA p3 (v_self.tags : (List (Str × (List (Str × Bool))))), dictA p4 (v_self.sums : (List (Str × (Int × Int)))), dictT p5 (v_self.tallies : (List (Kt × Int))), F] : List (Asn G)) := hS
    refine c_ret ?_
    refine c_fz ?_
    refine c_cb ?_
    refine c_cons ?_
    refine c_fz ?_
    refine k_lockA hS (i := 1) rfl fun od6 ps7 H hS => ?_
    have hS : Sep H ([cell a_v_self (.ins (G.cl 7) dx1 [("boxes", (.ref p2)), ("tags", (.ref p3)), ("sums", (.ref p4)), ("tallies", (.ref p5))]), lockA p2 od6 ps7 (v_self.boxes : (List (Str × Str))), dictE dictA p3 (v_self.tags : (List (Str × (List (Str × Bool))))), dictA p4 (v_self.sums : (List (Str × (Int × Int)))), dictT p5 (v_self.tallies : (List (Kt × Int))), F] : List (Asn G)) := hS
    refine c_lc ?_
    refine c_items ?_
    refine ev_to (ev_fld (ev_var rfl) (hS.getCell (i := 0) rfl) T.cl_Folders T.n_Folders_boxes rfl) ?_
    refine k_itemsA (hS.lockA (i := 1) rfl).1 ?_
    obtain ⟨h8, hm⟩ := R.wp_need hm
    refine lc_sepG (β := Str) (fun (_ : Unit) => ([cell a_v_self (.ins (G.cl 7) dx1 [("boxes", (.ref p2)), ("tags", (.ref p3)), ("sums", (.ref p4)), ("tallies", (.ref p5))]), lockA p2 od6 ps7 (v_self.boxes : (List (Str × Str))), dictE dictA p3 (v_self.tags : (List (Str × (List (Str × Bool))))), dictA p4 (v_self.sums : (List (Str × (Int × Int)))), dictT p5 (v_self.tallies : (List (Kt × Int))), F] : List (Asn G))) (s := ()) (im := (Im.im G)) hS (fun _ _ _ => wk_itemsA (fun _ _ h => h.lockA (i := 2) rfl) (fun _ _ _ h s => h.more s)) h8 hm (fun p9 _ ys12 x10 v11 H q Nx hS hx hm kS kN => ?_) (fun p9 t H hm hS => ?_)
    ·
      obtain ⟨a13, rfl⟩ := isref hx
      have hS := hS.addIm (v := (.ref a13)) (x := (x10 : (Str × Str))) hx
      obtain ⟨u15, u16, hT19, h17, h18⟩ := im2 (hS.im (i := 0) rfl)
      obtain rfl : u15 = (.str (x10.1)) := h17
      obtain rfl : u16 = (.str (x10.2)) := h18
      refine k_gT hT19 rfl ?_
      refine k_gC (σ' := [some (.ref a_v_self), some (.str (v_folder)), some (.str (x10.1)), none]) rfl ?_
      refine k_gC (σ' := [some (.ref a_v_self), some (.str (v_folder)), some (.str (x10.1)), some (.str (x10.2))]) rfl ?_
      refine k_gE ?_
      refine c_gLT (σ' := [some (.ref a_v_self), some (.str (v_folder)), some (.str (x10.1)), some (.str (x10.2))]) rfl ?_
      refine et_to (et_test (ev_eqS (ev_var rfl) (ev_var rfl))) ?_
      refine lc_if (fun hb20 => ?_) (fun hb20 => ?_)
      · have hm := R.wp_ifY hm hb20
        refine ev_to (ev_var rfl) ?_
        exact kS () _ _ _ hm rfl (hS.sel [1, 2, 3, 4, 5, 6, 7] (by decide) rfl)
      · have hm := R.wp_ifN hm (by first | (rw [hb20]; decide) | simpa using hb20)
        exact kN () _ hm (hS.sel [1, 2, 3, 4, 5, 6, 7] (by decide) rfl)
    · revert hm hS; generalize t = t21; intro hm hS
      refine k_unlA hS (i := 2) rfl fun H hS => ?_
      have hS : Sep H ([lstA p9 (t21.2 : (List Str)), cell a_v_self (.ins (G.cl 7) dx1 [("boxes", (.ref p2)), ("tags", (.ref p3)), ("sums", (.ref p4)), ("tallies", (.ref p5))]), dictA p2 (v_self.boxes : (List (Str × Str))), dictE dictA p3 (v_self.tags : (List (Str × (List (Str × Bool))))), dictA p4 (v_self.sums : (List (Str × (Int × Int)))), dictT p5 (v_self.tallies : (List (Kt × Int))), F] : List (Asn G)) := hS
      refine fz_no ?_
      refine c_nil ?_
      obtain ⟨h23, hm⟩ := R.wp_need hm
      refine k_sorted hS (hS.sqF (i := 0) rfl) h23 fun p22 H hS => ?_
      refine fz_no ?_
      have hS : Sep H (FoldersA a_v_self v_self :: [lstA p22 (sortT t21.2 : (List Str)), lstA p9 (t21.2 : (List Str)), F] : List (Asn G)) := pack_Folders (hS.sel [2, 3, 4, 5, 6, 0, 1, 7] (by decide) rfl)
      exact hm _ _ (hS.sel [1, 0, 3] (by decide) rfl)
def sp_Folders_folders (G : Gx) : Sp := fun vs H Q E => ∃ (a_v_self : Addr) (v_self : Folders) (F : Asn G), vs = [.ref a_v_self] ∧ Sep H ([FoldersA a_v_self v_self, F] : List (Asn G)) ∧ R.wp (m_Folders_folders v_self) (fun r => ∀ p H', Sep H' ([lstA p (r : (List (T3 Str Int Int))), FoldersA a_v_self v_self, F] : List (Asn G)) → Q (.ref p) H') (fun _ => False)
abbrev N_Folders_folders : List Str := ["self", "box"]
theorem sc_Folders_folders : FnScope N_Folders_folders ["self"] (defScope s_Folders_folders) := ⟨rfl, rfl, rfl, by decide +kernel, rfl, by decide +kernel, by decide +kernel⟩
theorem ok_Folders_folders (T : Txt G mg) : FnOk P w G.K mg base CX0 1 T.a_Folders_folders T.fd_Folders_folders ["self"] (sp_Folders_folders G) := by
  have nd := sc_Folders_folders.nd
  refine Fun.ok T.F_Folders_folders sc_Folders_folders (fun vs H Q E h => ?_) (fun cdv A outer s H vs Q E hr h => ?_)
  · obtain ⟨a_v_self, v_self, F, rfl, _⟩ := h; rfl
  · obtain ⟨a_v_self, v_self, F, rfl, hS, hm⟩ := h
    refine ⟨_, (pss_one (ps_ret (pe_fz (pe_lc (own := [("box", 1)]) (g := gName 1) rfl nd (pi_listK G.K (pe_fz (pe_callB (cr_sortD rfl) (by rfl) T.z_sorted (by decide +kernel) (pa_cons (pe_fld (pv 0) rfl) pa_nil)))) (blkOk_by (own := [("box", 1)]) (N := N_Folders_folders) (sc := defScope s_Folders_folders) (by decide +kernel)) (fun _ _ _ _ _ => pg_name (i := 1) nd rfl (Or.inl rfl)) (fun _ _ _ _ _ => pts_nil) (fun _ _ _ _ _ => (pe_tup (pa_cons (pv 1) (pa_cons (pe_ix (ix_tupK G.K) (pe_dget (hu_of hr) (pe_fldK G.K (pv 0)) (pv 1) (fun _ _ => rfl)) pe_int (fun _ _ => rfl)) (pa_cons (pe_ix (ix_tupK G.K) (pe_dget (hu_of hr) (pe_fldK G.K (pv 0)) (pv 1) (fun _ _ => rfl)) pe_int (fun _ _ => rfl)) pa_nil))))))))), ?_⟩
    unfold m_Folders_folders at hm
    have hS : Sep H (FoldersA a_v_self v_self :: [F] : List (Asn G)) := hS.sel [0, 1] (by decide) rfl
    obtain ⟨dx1, p2, p3, p4, p5, hS⟩ := open_Folders hS
    have hS : Sep H ([cell a_v_self (.ins (G.cl 7) dx1 [("boxes", (.ref p2)), ("tags", (.ref p3)), ("sums", (.ref p4)), ("tallies", (.ref p5))]), dictA p2 (v_self.boxes : (List (Str × Str))), dictE dictA p3 (v_self.tags : (List (Str × (List (Str × Bool))))), dictA p4 (v_self.sums : (List (Str × (Int × Int)))), dictT p5 (v_self.tallies : (List (Kt × Int))), F] : List (Asn G)) := hS
    refine c_ret ?_
    refine c_fz ?_
    refine c_lc ?_
    refine c_il ?_
    refine c_fz ?_
    refine c_cb ?_
    refine ea_to (ea_cons (ev_fld (ev_var rfl) (hS.getCell (i := 0) rfl) T.cl_Folders T.n_Folders_sums rfl) ea_nil) ?_
    obtain ⟨h7, hm⟩ := R.wp_need hm
    refine k_sortDA hS (i := 3) rfl h7 fun p6 H hS => ?_
    refine fz_no ?_
    refine k_il hS (i := 0) rfl ?_
    obtain ⟨h8, hm⟩ := R.wp_need hm
    refine lc_sep (β := (T3 Str Int Int)) (fun (_ : Unit) => ([lstA p6 (sortT (v_self.sums.map (·.1)) : (List Str)), cell a_v_self (.ins (G.cl 7) dx1 [("boxes", (.ref p2)), ("tags", (.ref p3)), ("sums", (.ref p4)), ("tallies", (.ref p5))]), dictA p2 (v_self.boxes : (List (Str × Str))), dictE dictA p3 (v_self.tags : (List (Str × (List (Str × Bool))))), dictA p4 (v_self.sums : (List (Str × (Int × Int)))), dictT p5 (v_self.tallies : (List (Kt × Int))), F] : List (Asn G))) (s := ()) (im := (Im.im G)) hS (fun _ _ _ => wk_list fun _ _ h => h.sq (i := 1) rfl) h8 hm (fun p9 _ ys12 x10 v11 H q Nx hS hx hm kS kN => ?_) (fun p9 t H hm hS => ?_)
    ·
      cases hx
      refine c_gLc (σ' := [some (.ref a_v_self), some (.str (x10))]) rfl rfl ?_
      refine c_yes ?_
      refine c_tup ?_
      obtain ⟨y13, hy13, hm⟩ := wp_dget hm
      obtain ⟨v14, g15, hv16⟩ := dget_some hS (i := 5) rfl hy13
      obtain ⟨a17, rfl⟩ := isref hv16
      obtain ⟨u18, u19, hT22, h20, h21⟩ := im2 hv16
      obtain rfl : u18 = (.int (y13.1)) := h20
      obtain rfl : u19 = (.int (y13.2)) := h21
      obtain ⟨y23, hy23, hm⟩ := wp_dget hm
      obtain ⟨v24, g25, hv26⟩ := dget_some hS (i := 5) rfl hy23
      obtain ⟨a27, rfl⟩ := isref hv26
      obtain ⟨u28, u29, hT32, h30, h31⟩ := im2 hv26
      obtain rfl : u28 = (.int (y23.1)) := h30
      obtain rfl : u29 = (.int (y23.2)) := h31
      refine ea_to (ea_cons (ev_var rfl) (ea_cons (ev_ixT (ev_dget (y := y13) hS (i := 5) rfl (ev_fld (ev_var rfl) (hS.getCell (i := 2) rfl) T.cl_Folders T.n_Folders_sums rfl) (ev_var rfl) g15) ev_c hT22 rfl) (ea_cons (ev_ixT (ev_dget (y := y23) hS (i := 5) rfl (ev_fld (ev_var rfl) (hS.getCell (i := 2) rfl) T.cl_Folders T.n_Folders_sums rfl) (ev_var rfl) g25) ev_c hT32 rfl) ea_nil))) ?_
      refine k_tupP (x := ((⟨x10, y13.1, y23.2⟩ : T3 _ _ _) : (T3 Str Int Int))) hS (fun H' p h s => mk3 rfl rfl rfl h s) (by show 3 ≤ sizeLine; decide) fun p33 H hS => ?_
      exact kS () _ _ _ hm (hS.im (i := 0) rfl) (hS.sel [1, 2, 3, 4, 5, 6, 7, 8] (by decide) rfl)
    · revert hm hS; generalize t = t35; intro hm hS
      refine fz_no ?_
      have hS : Sep H (FoldersA a_v_self v_self :: [lstA p9 (t35.2 : (List (T3 Str Int Int))), lstA p6 (sortT (v_self.sums.map (·.1)) : (List Str)), F] : List (Asn G)) := pack_Folders (hS.sel [2, 3, 4, 5, 6, 0, 1, 7] (by decide) rfl)
      exact hm _ _ (hS.sel [1, 0, 3] (by decide) rfl)
def sp_law_row (G : Gx) : Sp := fun vs H Q E => ∃ (a_v_law_script : V) (v_law_script : Script) (v_law_many : Int) (F : Asn G), vs = [a_v_law_script, (.int (v_law_many))] ∧ Im.im G H a_v_law_script v_law_script ∧ Sep H ([F] : List (Asn G)) ∧ R.wp (m_law_row v_law_script v_law_many) (fun r => ∀ p H', Sep H' ([lstA p (r : (List Int)), F] : List (Asn G)) → Q (.ref p) H') (fun _ => False)
abbrev N_law_row : List Str := ["_law_script", "_law_many", "_law_found", "_law_more", "_law_k", "_law_cell"]
theorem sc_law_row : FnScope N_law_row ["_law_script", "_law_many"] (defScope s_law_row) := ⟨rfl, rfl, rfl, by decide +kernel, rfl, by decide +kernel, by decide +kernel⟩
theorem ok_law_row (T : Txt G mg) : FnOk P w G.K mg base CX0 1 T.a_law_row T.fd_law_row ["_law_script", "_law_many"] (sp_law_row G) := by
  have nd := sc_law_row.nd
  refine Fun.ok T.F_law_row sc_law_row (fun vs H Q E h => ?_) (fun cdv A outer s H vs Q E hr h => ?_)
  · obtain ⟨a_v_law_script, v_law_script, v_law_many, F, rfl, _⟩ := h; rfl
  · obtain ⟨a_v_law_script, v_law_script, v_law_many, F, rfl, him_v_law_script, hS, hm⟩ := h
    obtain ⟨ad_v_law_script, rfl, _⟩ := im_script him_v_law_script
    have hS := hS.addIm him_v_law_script
    refine ⟨_, (pss_cons (ps_set (i := 2) nd rfl (Or.inl rfl) (pe_fz (pe_lst pa_nil)))
      (pss_cons (ps_set (i := 3) nd rfl (Or.inl rfl) pe_int)
      (pss_cons (ps_for PassesOwn.never rfl (pi_range1 rfl T.z_range (pa_cons (pv 1) pa_nil)) (pg_name (i := 4) nd rfl (Or.inl rfl)) (pss_cons (ps_set (i := 5) nd rfl (Or.inl rfl) pe_int)
      (pss_cons (ps_if (pt_cmpR op_gt (pe_callB (lenSqK G.K) (by rfl) T.z_len PySem.boot_len (pa_cons (pv 0) pa_nil)) pe_int (nomark _)) (pss_one (ps_set (i := 5) nd rfl (Or.inl rfl) (pe_ix (ix_listK G.K) (pv 0) (pe_op op_mod (pv 4) (pe_callB (lenSqK G.K) (by rfl) T.z_len PySem.boot_len (pa_cons (pv 0) pa_nil))) (fun _ _ => rfl)))) pss_nil)
      (pss_cons (ps_set (i := 3) nd rfl (Or.inl rfl) (pe_op op_mod (pe_op op_add (pe_op op_add (pe_op op_mul (pv 3) pe_int) (pv 5)) (pv 4)) pe_int))
      (pss_one (ps_expr (pe_bmK G.K PySem.F.plainAttrs_list PySem.F.slot_list_append PySem.F.type_list_append mt_append (pe_fz (pv 2)) (pa_cons (pe_op op_mod (pe_op op_add (pe_op op_mul (pv 3) (pv 3)) (pe_op op_mul pe_int (pv 3))) pe_int) pa_nil))))))))
      (pss_one (ps_ret (pe_fz (pv 2))))))), ?_⟩
    unfold m_law_row at hm
    refine f_seq ?_
    refine c_asg ?_
    refine c_fz ?_
    refine c_lst ?_
    refine ea_to ea_nil ?_
    refine k_lst (α := Int) (vs := []) (xs := ([] : (List Int))) hS True.intro (by show 0 ≤ sizeLine; decide) fun p1 H hS => ?_
    refine fz_no ?_
    refine c_set (σ' := [some (.ref ad_v_law_script), some (.int (v_law_many)), some (.ref p1), none, none, none]) rfl ?_
    refine sq_nx ?_
    refine f_seq ?_
    refine c_asg ?_
    refine ev_to ev_c ?_
    refine c_set (σ' := [some (.ref ad_v_law_script), some (.int (v_law_many)), some (.ref p1), some (.int (7)), none, none]) rfl ?_
    refine sq_nx ?_
    refine f_seq ?_
    refine c_for ?_
    refine c_rng1 ?_
    refine ea_to (ea_cons (ev_var rfl) ea_nil) ?_
    obtain ⟨h2, hm⟩ := R.wp_need hm
    refine k_rng1 h2.1 h2.2 ?_
    refine k_for (τ := (List Int) × Int) (fun (s3 : (List Int) × Int) (σ : L2.St) (H : Hp) => ∃ (w6 w7 : Option V), σ = [some (.ref ad_v_law_script), some (.int (v_law_many)), some (.ref p1), some (.int (s3.2)), w6, w7] ∧ Sep H ([lstA p1 (s3.1 : (List Int)), imA (.ref ad_v_law_script) v_law_script, F] : List (Asn G))) (im := (fun _ v (x : Int) => v = .int x)) (s := (([] : (List Int)), 7)) (fun _ => wk_range) ⟨_, _, rfl, hS.sel [0, 1, 2] (by decide) rfl⟩ hm (fun s3 x4 v5 σ H q N hI hx hm nx => ?_) (fun s3 σ H hm hI => ?_)
    ·
      obtain ⟨w6, w7, rfl, hS⟩ := hI
      cases hx
      refine c_gN (σ' := [some (.ref ad_v_law_script), some (.int (v_law_many)), some (.ref p1), some (.int (s3.2)), some (.int (x4)), w7]) rfl ?_
      refine f_seq ?_
      refine c_asg ?_
      refine ev_to ev_c ?_
      refine c_set (σ' := [some (.ref ad_v_law_script), some (.int (v_law_many)), some (.ref p1), some (.int (s3.2)), some (.int (x4)), some (.int (0))]) rfl ?_
      refine sq_nx ?_
      refine f_seq ?_
      refine f_if ?_
      refine et_to (et_test (ev_i0 (ev_lenLm (ev_var rfl) (sq_script (hS.im (i := 1) rfl))) ev_c)) ?_
      refine ifK_J (τ := Int) (fun (s8 : Int) (σ : L2.St) (H : Hp) => σ = [some (.ref ad_v_law_script), some (.int (v_law_many)), some (.ref p1), some (.int (s3.2)), some (.int (x4)), some (.int (s8))] ∧ Sep H ([lstA p1 (s3.1 : (List Int)), imA (.ref ad_v_law_script) v_law_script, F] : List (Asn G))) hm (fun hb q hm nx => ?_) (fun hb q hm nx => ?_) (fun s8 σ H hm hI => ?_)
      ·
        refine c_asg ?_
        obtain ⟨h9, hm⟩ := R.wp_need hm
        obtain ⟨x10, hx10, hm⟩ := wp_idx hm
        refine ev_to (ev_ixSq (ev_var rfl) (ev_mod (ev_var rfl) (ev_lenLm (ev_var rfl) (sq_script (hS.im (i := 1) rfl))) h9) (sq_script (hS.im (i := 1) rfl)) (atI_map hx10)) ?_
        refine c_set (σ' := [some (.ref ad_v_law_script), some (.int (v_law_many)), some (.ref p1), some (.int (s3.2)), some (.int (x4)), some (.int (x10))]) rfl ?_
        exact nx _ _ _ hm ⟨rfl, hS.sel [0, 1, 2] (by decide) rfl⟩
      ·
        refine st_nx ?_
        exact nx _ _ _ hm ⟨rfl, hS.sel [0, 1, 2] (by decide) rfl⟩
      · obtain ⟨rfl, hS⟩ := hI
        refine sq_nx ?_
        refine f_seq ?_
        refine c_asg ?_
        refine ev_to (ev_mod (ev_add (ev_add (ev_mul (ev_var rfl) ev_c (.inr (by constructor <;> decide))) (ev_var rfl)) (ev_var rfl)) ev_c (by decide)) ?_
        obtain ⟨y11, hy11, hm⟩ := wp_let hm
        refine n_is (w := (.int (y11))) (by first | rw [hy11] | (subst hy11; rfl)) ?_
        refine c_set (σ' := [some (.ref ad_v_law_script), some (.int (v_law_many)), some (.ref p1), some (.int (y11)), some (.int (x4)), some (.int (s8))]) rfl ?_
        refine sq_nx ?_
        refine c_drop ?_
        refine c_bm ?_
        refine ev_to (ev_fz (ev_var rfl)) ⟨tyL hS (i := 0) rfl, ?_⟩
        obtain ⟨h12, hm⟩ := R.wp_need hm
        refine ea_to (ea_cons (ev_mod (ev_add (ev_mul (ev_var rfl) (ev_var rfl) h12) (ev_mul ev_c (ev_var rfl) (.inl (by constructor <;> decide)))) ev_c (by decide)) ea_nil) ?_
        obtain ⟨h13, hm⟩ := R.wp_need hm
        refine k_append (x := ((y11 * y11) + (16807 * y11)) % 2147483629) hS (i := 0) rfl rfl h13 rfl fun H hS => ?_
        exact nx _ _ _ hm ⟨_, _, rfl, hS.sel [0, 1, 2] (by decide) rfl⟩
    · obtain ⟨w6, w7, rfl, hS⟩ := hI
      refine sq_nx ?_
      refine c_ret ?_
      refine ev_to (ev_fz (ev_var rfl)) ?_
      exact hm _ _ (hS.sel [0, 2] (by decide) rfl)
def sp_law_word (G : Gx) : Sp := fun vs H Q E => ∃ (v_law_base : Int) (v_law_turn : Int) (F : Asn G), vs = [(.int (v_law_base)), (.int (v_law_turn))] ∧ Sep H ([F] : List (Asn G)) ∧ R.wp (m_law_word v_law_base v_law_turn) (fun r => ∀ H', Sep H' ([F] : List (Asn G)) → Q (.str (r)) H') (fun _ => False)
abbrev N_law_word : List Str := ["_law_base", "_law_turn", "_law_some_here", "_law_k", "_law_signs", "_law_size", "_law_at"]
theorem sc_law_word : FnScope N_law_word ["_law_base", "_law_turn"] (defScope s_law_word) := ⟨rfl, rfl, rfl, by decide +kernel, rfl, by decide +kernel, by decide +kernel⟩
theorem ok_law_word (T : Txt G mg) : FnOk P w G.K mg base CX0 1 T.a_law_word T.fd_law_word ["_law_base", "_law_turn"] (sp_law_word G) := by
  have nd := sc_law_word.nd
  refine Fun.ok T.F_law_word sc_law_word (fun vs H Q E h => ?_) (fun cdv A outer s H vs Q E hr h => ?_)
  · obtain ⟨v_law_base, v_law_turn, F, rfl, _⟩ := h; rfl
  · obtain ⟨v_law_base, v_law_turn, F, rfl, hS, hm⟩ := h
    refine ⟨_, (pss_cons (ps_set (i := 2) nd rfl (Or.inr rfl) pe_str)
      (pss_cons (ps_setLc (i := 4) (own := [("_law_k", 3)]) (g := gName 3) rfl nd rfl rfl (sw_true rfl rfl rfl (by decide +kernel)) (pi_range1 rfl T.z_range (pa_cons pe_int pa_nil)) (blkOk_by (own := [("_law_k", 3)]) (N := N_law_word) (sc := defScope s_law_word) (by decide +kernel)) (fun _ _ _ _ _ => pg_name (i := 3) nd rfl (Or.inl rfl)) (fun _ _ _ _ _ => pts_nil) (fun _ _ _ _ _ => (pe_ix ix_str (pv 2) (pe_op op_mod (pe_op op_add (pe_op op_add (pe_op op_fdiv (pv 0) pe_int) (pe_op op_mul pe_int (pv 3))) (pe_op op_mul (pe_op op_fdiv (pv 0) pe_int) (pv 3))) pe_int) (fun _ _ => rfl))))
      (pss_cons (ps_if (PW.pt (pw_and (pt_cmpR op_eq (pe_op op_mod (pv 0) pe_int) pe_int (nomark _)) (pw_and1 (pt_cmpR op_lt (pv 1) pe_int (nomark _))))) (pss_one (ps_ret (pe_m1 PySem.F.slot_str_join PySem.F.type_str_join (joinK G.K) pe_str (pe_fz (pe_slice (sl_listK G.K) (pe_fz (pv 4)) po_none (po_some (pe_op op_add pe_int (pv 1)))))))) pss_nil)
      (pss_cons (ps_if (PW.pt (pw_or (pt_cmpR op_lt (pe_op op_mod (pv 0) pe_int) pe_int (nomark _)) (pw_or1 (pt_cmpR op_gt (pv 1) pe_int (nomark _))))) (pss_one (ps_ret (pe_op op_catS (pe_op op_catS (pe_m1 PySem.F.slot_str_join PySem.F.type_str_join (joinK G.K) pe_str (pe_fz (pe_slice (sl_listK G.K) (pe_fz (pv 4)) po_none (po_some (pe_op op_add pe_int (pe_op op_mod (pe_op op_fdiv (pv 0) pe_int) pe_int)))))) pe_str) (pe_callTy call_str_int (by rfl) T.z_str (by decide +kernel) (pa_cons (pv 1) pa_nil))))) pss_nil)
      (pss_cons (ps_set (i := 5) nd rfl (Or.inl rfl) (pe_op op_add pe_int (pe_op op_mod (pe_op op_fdiv (pv 0) pe_int) pe_int)))
      (pss_cons (ps_set (i := 6) nd rfl (Or.inl rfl) (pe_op op_mod (pe_op op_fdiv (pv 0) pe_int) (pv 5)))
      (pss_cons (ps_asg (pe_ix ix_str (pv 2) (pe_op op_mod (pe_op op_add (pe_op op_fdiv (pv 0) pe_int) (pv 1)) pe_int) (fun _ _ => rfl)) (pg_sub (pe_fz (pv 4)) (pv 6) set_list))
      (pss_one (ps_ret (pe_m1 PySem.F.slot_str_join PySem.F.type_str_join (joinK G.K) pe_str (pe_fz (pe_slice (sl_listK G.K) (pe_fz (pv 4)) po_none (po_some (pv 5)))))))))))))), ?_⟩
    unfold m_law_word at hm
    refine f_seq ?_
    refine c_asg ?_
    refine ev_to ev_c ?_
    refine c_set (σ' := [some (.int (v_law_base)), some (.int (v_law_turn)), some (.str (("abcdefghijklmnopqrstuvwxyz0123456789" : Str))), none, none, none, none]) rfl ?_
    refine sq_nx ?_
    refine f_seq ?_
    refine c_asg ?_
    refine c_lc ?_
    refine c_rng1 ?_
    refine ea_to (ea_cons ev_c ea_nil) ?_
    refine k_rng1 (by decide) (by decide) ?_
    refine lc_sep (β := Str) (fun (_ : Unit) => ([F] : List (Asn G))) (s := ()) (im := (fun _ v (x : Int) => v = .int x)) hS (fun _ _ _ => wk_range) (by rw [rngL_len]; decide) hm (fun p1 _ ys4 x2 v3 H q Nx hS hx hm kS kN => ?_) (fun p1 t H hm hS => ?_)
    ·
      cases hx
      refine c_gLc (σ' := [some (.int (v_law_base)), some (.int (v_law_turn)), some (.str (("abcdefghijklmnopqrstuvwxyz0123456789" : Str))), some (.int (x2)), none, none, none]) rfl rfl ?_
      refine c_yes ?_
      obtain ⟨h5, hm⟩ := R.wp_need hm
      obtain ⟨c6, hc6, hm⟩ := wp_idx hm
      refine ev_to (ev_ixS (ev_var rfl) (ev_mod (ev_add (ev_add (ev_fdiv (ev_var rfl) ev_c ⟨by decide, by decide⟩) (ev_mul ev_c (ev_var rfl) (.inl (by constructor <;> decide)))) (ev_mul (ev_fdiv (ev_var rfl) ev_c ⟨by decide, by decide⟩) (ev_var rfl) h5)) ev_c (by decide)) (by decide +kernel) hc6) ?_
      exact kS () _ _ _ hm rfl (hS.sel [0, 1] (by decide) rfl)
    · revert hm hS; generalize t = t7; intro hm hS
      refine c_set (σ' := [some (.int (v_law_base)), some (.int (v_law_turn)), some (.str (("abcdefghijklmnopqrstuvwxyz0123456789" : Str))), none, some (.ref p1), none, none]) rfl ?_
      refine sq_nx ?_
      refine f_seq ?_
      refine f_if ?_
      refine et_to (et_and (et_test (ev_eqI (ev_mod (ev_var rfl) ev_c (by decide)) ev_c)) fun _ => (et_test (ev_i0 (ev_var rfl) ev_c))) ?_
      refine ifK_2 (fun hb8 => ?_) (fun hb8 => ?_)
      · have hm := R.wp_ifY hm hb8
        refine c_ret ?_
        refine c_m1 ev_c ?_
        refine c_fz ?_
        refine c_sl ?_
        refine ev_to (ev_fz (ev_var rfl)) ?_
        refine eo_to eo_no ?_
        refine eo_to (eo_some (ev_add ev_c (ev_var rfl))) ?_
        refine k_slG hS (hS.sq (i := 0) rfl) fun p9 H hS => ?_
        refine fz_no ?_
        obtain ⟨h10, hm⟩ := R.wp_need hm
        refine ⟨_, _, _, rfl, rfl, .inl (hS.sqF (i := 0) rfl), h10, ?_⟩
        exact hm _ (hS.sel [2] (by decide) rfl)
      · have hm := R.wp_ifN hm (by first | (rw [hb8]; decide) | simpa using hb8)
        refine st_nx ?_
        refine sq_nx ?_
        refine f_seq ?_
        refine f_if ?_
        refine et_to (et_or (et_test (ev_i0 (ev_mod (ev_var rfl) ev_c (by decide)) ev_c)) fun _ => (et_test (ev_i0 (ev_var rfl) ev_c))) ?_
        refine ifK_2 (fun hb11 => ?_) (fun hb11 => ?_)
        · have hm := R.wp_ifY hm hb11
          refine c_ret ?_
          refine c_op ?_
          refine c_op ?_
          refine c_m1 ev_c ?_
          refine c_fz ?_
          refine c_sl ?_
          refine ev_to (ev_fz (ev_var rfl)) ?_
          refine eo_to eo_no ?_
          refine eo_to (eo_some (ev_add ev_c (ev_mod (ev_fdiv (ev_var rfl) ev_c ⟨by decide, by decide⟩) ev_c (by decide)))) ?_
          refine k_slG hS (hS.sq (i := 0) rfl) fun p12 H hS => ?_
          refine fz_no ?_
          obtain ⟨h13, hm⟩ := R.wp_need hm
          refine ⟨_, _, _, rfl, rfl, .inl (hS.sqF (i := 0) rfl), h13, ?_⟩
          refine ev_to ev_c ?_
          obtain ⟨h14, hm⟩ := R.wp_need hm
          refine r_catS h14 _ ?_
          obtain ⟨h15, hm⟩ := R.wp_need hm
          refine ev_to (ev_cb (ea_cons (ev_var rfl) ea_nil) fun _ q => ⟨_, rfl, h15, q⟩) ?_
          revert hm; refine R.need_rev fun h16 hm => ?_
          refine r_catS h16 _ ?_
          exact hm _ (hS.sel [2] (by decide) rfl)
        · have hm := R.wp_ifN hm (by first | (rw [hb11]; decide) | simpa using hb11)
          refine st_nx ?_
          refine sq_nx ?_
          refine f_seq ?_
          refine c_asg ?_
          refine ev_to (ev_add ev_c (ev_mod (ev_fdiv (ev_var rfl) ev_c ⟨by decide, by decide⟩) ev_c (by decide))) ?_
          obtain ⟨y17, hy17, hm⟩ := wp_let hm
          refine n_is (w := (.int (y17))) (by first | rw [hy17] | (subst hy17; rfl)) ?_
          refine c_set (σ' := [some (.int (v_law_base)), some (.int (v_law_turn)), some (.str (("abcdefghijklmnopqrstuvwxyz0123456789" : Str))), none, some (.ref p1), some (.int (y17)), none]) rfl ?_
          refine sq_nx ?_
          refine f_seq ?_
          refine c_asg ?_
          obtain ⟨h18, hm⟩ := R.wp_need hm
          refine ev_to (ev_mod (ev_fdiv (ev_var rfl) ev_c ⟨by decide, by decide⟩) (ev_var rfl) h18) ?_
          obtain ⟨y19, hy19, hm⟩ := wp_let hm
          refine n_is (w := (.int (y19))) (by first | rw [hy19] | (subst hy19; rfl)) ?_
          refine c_set (σ' := [some (.int (v_law_base)), some (.int (v_law_turn)), some (.str (("abcdefghijklmnopqrstuvwxyz0123456789" : Str))), none, some (.ref p1), some (.int (y17)), some (.int (y19))]) rfl ?_
          refine sq_nx ?_
          refine f_seq ?_
          refine c_asgS ?_
          obtain ⟨c20, hc20, hm⟩ := wp_idx hm
          refine ev_to (ev_ixS (ev_var rfl) (ev_mod (ev_add (ev_fdiv (ev_var rfl) ev_c ⟨by decide, by decide⟩) (ev_var rfl)) ev_c (by decide)) (by decide +kernel) hc20) ?_
          obtain ⟨j21, hj21, hm⟩ := wp_ix hm
          refine ev_to (ev_fz (ev_var rfl)) ?_
          refine ev_to (ev_var rfl) ?_
          refine k_setL (x := sg (c20)) hS (n := 0) rfl rfl j21 hj21 rfl fun H hS => ?_
          refine sq_nx ?_
          refine c_ret ?_
          refine c_m1 ev_c ?_
          refine c_fz ?_
          refine c_sl ?_
          refine ev_to (ev_fz (ev_var rfl)) ?_
          refine eo_to eo_no ?_
          refine eo_to (eo_some (ev_var rfl)) ?_
          refine k_slG hS (hS.sq (i := 0) rfl) fun p22 H hS => ?_
          refine fz_no ?_
          obtain ⟨h23, hm⟩ := R.wp_need hm
          refine ⟨_, _, _, rfl, rfl, .inl (hS.sqF (i := 0) rfl), h23, ?_⟩
          exact hm _ (hS.sel [2] (by decide) rfl)
def sp_law_done (G : Gx) : Sp := fun vs H Q E => ∃ (a_v_law_own : Addr) (v_law_own : (List (Str × (Str × (List Str))))) (a_v_law_deed_here : V) (v_law_deed_here : Any) (F : Asn G), vs = [.ref a_v_law_own, a_v_law_deed_here] ∧ Im.im G H a_v_law_deed_here v_law_deed_here ∧ Sep H ([dictE recSL a_v_law_own (v_law_own : (List (Str × (Str × (List Str))))), F] : List (Asn G)) ∧ R.wp (m_law_done v_law_own v_law_deed_here) (fun r => ∀ (p : V) H', Sep H' ([imA p (r.1 : Any), dictE recSL a_v_law_own (r.2 : (List (Str × (Str × (List Str))))), F] : List (Asn G)) → Q p H') (fun _ => False)
abbrev N_law_done : List Str := ["_law_own", "_law_deed_here", "_law_word_here"]
theorem sc_law_done : FnScope N_law_done ["_law_own", "_law_deed_here"] (defScope s_law_done) := ⟨rfl, rfl, rfl, by decide +kernel, rfl, by decide +kernel, by decide +kernel⟩
theorem ok_law_done (T : Txt G mg) : FnOk P w G.K mg base CX0 1 T.a_law_done T.fd_law_done ["_law_own", "_law_deed_here"] (sp_law_done G) := by
  have nd := sc_law_done.nd
  refine Fun.ok T.F_law_done sc_law_done (fun vs H Q E h => ?_) (fun cdv A outer s H vs Q E hr h => ?_)
  · obtain ⟨a_v_law_own, v_law_own, a_v_law_deed_here, v_law_deed_here, F, rfl, _⟩ := h; rfl
  · obtain ⟨a_v_law_own, v_law_own, a_v_law_deed_here, v_law_deed_here, F, rfl, him_v_law_deed_here, hS, hm⟩ := h
    have hS := hS.addIm him_v_law_deed_here
    refine ⟨_, (pss_cons (ps_if (pt_cmpR (eqDK G.K hr.units) (pe_ix (ix_tupK G.K) (pv 1) pe_int (fun _ _ => rfl)) pe_str (nomark _)) (pss_one (ps_asg (pe_fz (pe_lst (pa_cons (pe_ix (ix_tupK G.K) (pv 1) pe_int (fun _ _ => rfl)) (pa_cons (pe_fz (pe_sortSetK G.K rfl (by rfl) T.z_sorted (by rfl) T.z_set (pe_ix (ix_tupK G.K) (pv 1) pe_int (fun _ _ => rfl)))) pa_nil)))) (pg_sub (pv 0) (pe_ix (ix_tupK G.K) (pv 1) pe_int (fun _ _ => rfl)) (set_dict (hu_of hr))))) (pss_one (ps_if (pt_cmpR (eqDK G.K hr.units) (pe_ix (ix_tupK G.K) (pv 1) pe_int (fun _ _ => rfl)) pe_str (nomark _)) (pss_one (ps_expr (pe_dpop1 (pv 0) (pe_ix (ix_tupK G.K) (pv 1) pe_int (fun _ _ => rfl)) m1))) (pss_one (ps_if (pt_cmpR (eqDK G.K hr.units) (pe_ix (ix_tupK G.K) (pv 1) pe_int (fun _ _ => rfl)) pe_str (nomark _)) (pss_one (ps_asg (pe_ix (ix_tupK G.K) (pv 1) pe_int (fun _ _ => rfl)) (pg_sub (pe_dget (hu_of hr) (pv 0) (pe_ix (ix_tupK G.K) (pv 1) pe_int (fun _ _ => rfl)) (fun _ _ => rfl)) pe_int set_list))) (pss_one (ps_if (pt_cmpR (eqDK G.K hr.units) (pe_ix (ix_tupK G.K) (pv 1) pe_int (fun _ _ => rfl)) pe_str (nomark _)) (pss_one (ps_asg (pe_fz (pe_sortSetK G.K rfl (by rfl) T.z_sorted (by rfl) T.z_set (pe_fz (pe_op op_catR (pe_ix (ix_listK G.K) (pe_dget (hu_of hr) (pv 0) (pe_ix (ix_tupK G.K) (pv 1) pe_int (fun _ _ => rfl)) (fun _ _ => rfl)) pe_int (fun _ _ => rfl)) (pe_fz (pe_lst (pa_cons (pe_ix (ix_tupK G.K) (pv 1) pe_int (fun _ _ => rfl)) pa_nil))))))) (pg_sub (pe_dget (hu_of hr) (pv 0) (pe_ix (ix_tupK G.K) (pv 1) pe_int (fun _ _ => rfl)) (fun _ _ => rfl)) pe_int set_list))) (pss_one (ps_asg (pe_fz (pe_lc (own := [("_law_word_here", 2)]) (g := gName 2) rfl nd (pi_listK G.K (pe_ix (ix_listK G.K) (pe_dget (hu_of hr) (pv 0) (pe_ix (ix_tupK G.K) (pv 1) pe_int (fun _ _ => rfl)) (fun _ _ => rfl)) pe_int (fun _ _ => rfl))) (blkOk_by (own := [("_law_word_here", 2)]) (N := N_law_done) (sc := defScope s_law_done) (by decide +kernel)) (fun _ _ _ _ _ => pg_name (i := 2) nd rfl (Or.inl rfl)) (fun _ _ _ _ _ => pts_one (pt_cmpR (neDK G.K hr.units) (pv 2) (pe_ix (ix_tupK G.K) (pv 1) pe_int (fun _ _ => rfl)) (nomark _))) (fun _ _ _ _ _ => (pv 2)))) (pg_sub (pe_dget (hu_of hr) (pv 0) (pe_ix (ix_tupK G.K) (pv 1) pe_int (fun _ _ => rfl)) (fun _ _ => rfl)) pe_int set_list))))))))))
      (pss_one (ps_ret (pv 1)))), ?_⟩
    unfold m_law_done at hm
    refine f_seq ?_
    refine f_if ?_
    obtain ⟨xs1, h2, hm⟩ := Ml.wp_asTup hm
    obtain ⟨x3, hx3, hm⟩ := wp_idx hm
    obtain ⟨a4, vs5, he6, hg7, hM8⟩ := any_tupE (hS.im (i := 0) rfl) h2
    obtain ⟨u9, hu10, hi11⟩ := atI_im hM8 hx3
    obtain ⟨b12, hb12, hm⟩ := wp_eqA hm
    refine et_to (et_test (ev_eqA (ev_ixT (ev_is (ev_var rfl) he6) ev_c hg7 hu10) ev_c hi11 (any_str.mpr rfl) hb12)) ?_
    refine ifK_J (τ := (List (Str × (Str × (List Str))))) (fun (s13 : (List (Str × (Str × (List Str))))) (σ : L2.St) (H : Hp) => σ = [some (.ref a_v_law_own), some a_v_law_deed_here, none] ∧ Sep H ([imA a_v_law_deed_here (v_law_deed_here : Any), dictE recSL a_v_law_own (s13 : (List (Str × (Str × (List Str))))), F] : List (Asn G))) hm (fun hb q hm nx => ?_) (fun hb q hm nx => ?_) (fun s13 σ H hm hI => ?_)
    ·
      refine c_asgS ?_
      refine c_fz ?_
      refine c_lst ?_
      refine c_cons ?_
      obtain ⟨xs14, h15, hm⟩ := Ml.wp_asTup hm
      obtain ⟨x16, hx16, hm⟩ := wp_idx hm
      obtain ⟨a17, vs18, he19, hg20, hM21⟩ := any_tupE (hS.im (i := 0) rfl) h15
      obtain ⟨u22, hu23, hi24⟩ := atI_im hM21 hx16
      refine ev_to (ev_ixT (ev_is (ev_var rfl) he19) ev_c hg20 hu23) ?_
      have hS := hS.addIm (v := u22) (x := (x16 : Any)) hi24
      refine c_cons ?_
      refine c_fz ?_
      refine c_sortSet ?_
      obtain ⟨xs26, h27, hm⟩ := Ml.wp_asTup hm
      obtain ⟨x28, hx28, hm⟩ := wp_idx hm
      obtain ⟨a29, vs30, he31, hg32, hM33⟩ := any_tupE (hS.im (i := 1) rfl) h27
      obtain ⟨u34, hu35, hi36⟩ := atI_im hM33 hx28
      refine ev_to (ev_ixT (ev_is (ev_var rfl) he31) ev_c hg32 hu35) ?_
      have hS := hS.addIm (v := u34) (x := (x28 : Any)) hi36
      obtain ⟨ss39, hss39, hm⟩ := wp_asStrs hm
      obtain ⟨h40, hm⟩ := R.wp_need hm
      refine k_sortSetA hS (hS.im (i := 0) rfl) hss39 h40 fun p38 H hS => ?_
      refine fz_yes (xs := (ssetT ss39 : (List Str))) hS (i := 0) rfl fun H hS => ?_
      have hS : Sep H ([imA (.ref p38) (ssetT ss39 : (List Str)), imA u34 (x28 : Any), imA u22 (x16 : Any), imA a_v_law_deed_here (v_law_deed_here : Any), dictE recSL a_v_law_own (v_law_own : (List (Str × (Str × (List Str))))), F] : List (Asn G)) := hS
      refine c_nil ?_
      obtain ⟨s43, hs44, hm⟩ := Ml.wp_asStr hm
      have hv45 := v_str (hS.im (i := 2) rfl) hs44
      subst hv45
      refine k_lst (α := Any) (vs := [(.str (s43)), (.ref p38)]) (xs := [(Any.str s43), (Any.lst ((ssetT ss39).map Any.str))]) hS ⟨(any_str.mpr rfl), (any_lstS (hS.im (i := 0) rfl)), True.intro⟩ (by show 2 ≤ sizeLine; decide) fun p42 H hS => ?_
      have hS : Sep H ([recSL p42 ((s43, ssetT ss39) : (Str × (List Str))), imA (.ref p38) (ssetT ss39 : (List Str)), imA u34 (x28 : Any), imA (.str (s43)) (x16 : Any), imA a_v_law_deed_here (v_law_deed_here : Any), dictE recSL a_v_law_own (v_law_own : (List (Str × (Str × (List Str))))), F] : List (Asn G)) := hS
      refine fz_no ?_
      refine ev_to (ev_var rfl) ?_
      obtain ⟨xs46, h47, hm⟩ := Ml.wp_asTup hm
      obtain ⟨x48, hx48, hm⟩ := wp_idx hm
      obtain ⟨a49, vs50, he51, hg52, hM53⟩ := any_tupE (hS.im (i := 4) rfl) h47
      obtain ⟨u54, hu55, hi56⟩ := atI_im hM53 hx48
      refine ev_to (ev_ixT (ev_is (ev_var rfl) he51) ev_c hg52 hu55) ?_
      have hS := hS.addIm (v := u54) (x := (x48 : Any)) hi56
      obtain ⟨s58, hs59, hm⟩ := Ml.wp_asStr hm
      have hv60 := v_str (hS.im (i := 0) rfl) hs59
      subst hv60
      obtain ⟨h61, hm⟩ := R.wp_need hm
      obtain ⟨h62, hm⟩ := R.wp_need hm
      refine k_newE' (k := s58) (hS.sel [6, 1, 0, 2, 3, 4, 5, 7] (by decide) rfl : Sep H (dictE recSL a_v_law_own (v_law_own : (List (Str × (Str × (List Str))))) :: recSL p42 ((s43, ssetT ss39) : (Str × (List Str))) :: [imA (.str (s58)) (x48 : Any), imA (.ref p38) (ssetT ss39 : (List Str)), imA u34 (x28 : Any), imA (.str (s43)) (x16 : Any), imA a_v_law_deed_here (v_law_deed_here : Any), F] : List (Asn G))) h62 h61 fun H hS => ?_
      have hS : Sep H ([dictE recSL a_v_law_own (v_law_own ++ [(s58, (s43, ssetT ss39))] : (List (Str × (Str × (List Str))))), imA (.str (s58)) (x48 : Any), imA (.ref p38) (ssetT ss39 : (List Str)), imA u34 (x28 : Any), imA (.str (s43)) (x16 : Any), imA a_v_law_deed_here (v_law_deed_here : Any), F] : List (Asn G)) := hS
      exact nx _ _ _ hm ⟨rfl, hS.sel [5, 0, 6] (by decide) rfl⟩
    ·
      refine f_if ?_
      obtain ⟨xs63, h64, hm⟩ := Ml.wp_asTup hm
      obtain ⟨x65, hx65, hm⟩ := wp_idx hm
      obtain ⟨a66, vs67, he68, hg69, hM70⟩ := any_tupE (hS.im (i := 0) rfl) h64
      obtain ⟨u71, hu72, hi73⟩ := atI_im hM70 hx65
      obtain ⟨b74, hb74, hm⟩ := wp_eqA hm
      refine et_to (et_test (ev_eqA (ev_ixT (ev_is (ev_var rfl) he68) ev_c hg69 hu72) ev_c hi73 (any_str.mpr rfl) hb74)) ?_
      refine ifK_J (τ := (List (Str × (Str × (List Str))))) (fun (s75 : (List (Str × (Str × (List Str))))) (σ : L2.St) (H : Hp) => σ = [some (.ref a_v_law_own), some a_v_law_deed_here, none] ∧ Sep H ([imA a_v_law_deed_here (v_law_deed_here : Any), dictE recSL a_v_law_own (s75 : (List (Str × (Str × (List Str))))), F] : List (Asn G))) hm (fun hb q hm nx => ?_) (fun hb q hm nx => ?_) (fun s75 σ H hm hI => ?_)
      ·
        refine c_drop ?_
        refine c_dpop1 ?_
        refine ev_to (ev_var rfl) ?_
        refine k_pop1a (isD_Ei hS (i := 1) rfl) ?_
        obtain ⟨xs76, h77, hm⟩ := Ml.wp_asTup hm
        obtain ⟨x78, hx78, hm⟩ := wp_idx hm
        obtain ⟨a79, vs80, he81, hg82, hM83⟩ := any_tupE (hS.im (i := 0) rfl) h77
        obtain ⟨u84, hu85, hi86⟩ := atI_im hM83 hx78
        refine ev_to (ev_ixT (ev_is (ev_var rfl) he81) ev_c hg82 hu85) ?_
        have hS := hS.addIm (v := u84) (x := (x78 : Any)) hi86
        obtain ⟨s88, hs89, hm⟩ := Ml.wp_asStr hm
        have hv90 := v_str (hS.im (i := 0) rfl) hs89
        subst hv90
        obtain ⟨y91, hy91, hm⟩ := wp_dgetX hm
        refine k_pop1E (hS.sel [2, 0, 1, 3] (by decide) rfl : Sep _ (dictE recSL a_v_law_own (v_law_own : (List (Str × (Str × (List Str))))) :: [imA (.str (s88)) (x78 : Any), imA a_v_law_deed_here (v_law_deed_here : Any), F] : List (Asn G))) hy91 fun v92 H hS => ?_
        have hS : Sep H ([recSL v92 (y91 : (Str × (List Str))), dictE recSL a_v_law_own (ddrop v_law_own s88 : (List (Str × (Str × (List Str))))), imA (.str (s88)) (x78 : Any), imA a_v_law_deed_here (v_law_deed_here : Any), F] : List (Asn G)) := hS
        exact nx _ _ _ hm ⟨rfl, hS.sel [3, 1, 4] (by decide) rfl⟩
      ·
        refine f_if ?_
        obtain ⟨xs93, h94, hm⟩ := Ml.wp_asTup hm
        obtain ⟨x95, hx95, hm⟩ := wp_idx hm
        obtain ⟨a96, vs97, he98, hg99, hM100⟩ := any_tupE (hS.im (i := 0) rfl) h94
        obtain ⟨u101, hu102, hi103⟩ := atI_im hM100 hx95
        obtain ⟨b104, hb104, hm⟩ := wp_eqA hm
        refine et_to (et_test (ev_eqA (ev_ixT (ev_is (ev_var rfl) he98) ev_c hg99 hu102) ev_c hi103 (any_str.mpr rfl) hb104)) ?_
        refine ifK_J (τ := (List (Str × (Str × (List Str))))) (fun (s105 : (List (Str × (Str × (List Str))))) (σ : L2.St) (H : Hp) => σ = [some (.ref a_v_law_own), some a_v_law_deed_here, none] ∧ Sep H ([imA a_v_law_deed_here (v_law_deed_here : Any), dictE recSL a_v_law_own (s105 : (List (Str × (Str × (List Str))))), F] : List (Asn G))) hm (fun hb q hm nx => ?_) (fun hb q hm nx => ?_) (fun s105 σ H hm hI => ?_)
        ·
          refine c_asgS ?_
          obtain ⟨xs106, h107, hm⟩ := Ml.wp_asTup hm
          obtain ⟨x108, hx108, hm⟩ := wp_idx hm
          obtain ⟨a109, vs110, he111, hg112, hM113⟩ := any_tupE (hS.im (i := 0) rfl) h107
          obtain ⟨u114, hu115, hi116⟩ := atI_im hM113 hx108
          refine ev_to (ev_ixT (ev_is (ev_var rfl) he111) ev_c hg112 hu115) ?_
          have hS := hS.addIm (v := u114) (x := (x108 : Any)) hi116
          obtain ⟨s118, hs119, hm⟩ := Ml.wp_asStr hm
          have hv120 := v_str (hS.im (i := 0) rfl) hs119
          subst hv120
          refine c_dget ?_
          refine ev_to (ev_var rfl) ?_
          refine k_dget1 ?_
          obtain ⟨xs121, h122, hm⟩ := Ml.wp_asTup hm
          obtain ⟨x123, hx123, hm⟩ := wp_idx hm
          obtain ⟨a124, vs125, he126, hg127, hM128⟩ := any_tupE (hS.im (i := 1) rfl) h122
          obtain ⟨u129, hu130, hi131⟩ := atI_im hM128 hx123
          refine ev_to (ev_ixT (ev_is (ev_var rfl) he126) ev_c hg127 hu130) ?_
          have hS := hS.addIm (v := u129) (x := (x123 : Any)) hi131
          obtain ⟨s133, hs134, hm⟩ := Ml.wp_asStr hm
          have hv135 := v_str (hS.im (i := 0) rfl) hs134
          subst hv135
          obtain ⟨x136, h137, hm⟩ := wp_dgetX hm
          refine k_dgetE (y := (x136 : (Str × (List Str)))) (hS.sel [3, 0, 1, 2, 4] (by decide) rfl : Sep _ (dictE recSL a_v_law_own (v_law_own : (List (Str × (Str × (List Str))))) :: [imA (.str (s133)) (x123 : Any), imA (.str (s118)) (x108 : Any), imA a_v_law_deed_here (v_law_deed_here : Any), F] : List (Asn G))) h137 fun ps138 p139 j140 hl141 hj142 hp143 hS => ?_
          have hS : Sep H ([recSL p139 (x136 : (Str × (List Str))), dictXH id recSL a_v_law_own ps138 (v_law_own : (List (Str × (Str × (List Str))))) j140, imA (.str (s133)) (x123 : Any), imA (.str (s118)) (x108 : Any), imA a_v_law_deed_here (v_law_deed_here : Any), F] : List (Asn G)) := hS
          refine ev_to ev_c ?_
          refine k_setL (α := Any) (x := (Any.str s118)) hS (n := 0) rfl (any_str.mpr rfl) 0 rfl rfl fun H hS => ?_
          have hS : Sep H ([recSL p139 ((s118, x136.2) : (Str × (List Str))), dictXH id recSL a_v_law_own ps138 (v_law_own : (List (Str × (Str × (List Str))))) j140, imA (.str (s133)) (x123 : Any), imA (.str (s118)) (x108 : Any), imA a_v_law_deed_here (v_law_deed_here : Any), F] : List (Asn G)) := hS
          have hS : Sep H ([dictE recSL a_v_law_own (dput v_law_own s133 (s118, x136.2) : (List (Str × (Str × (List Str))))), imA (.str (s133)) (x123 : Any), imA (.str (s118)) (x108 : Any), imA a_v_law_deed_here (v_law_deed_here : Any), F] : List (Asn G)) := unfocDE (z := ((s118, x136.2) : (Str × (List Str)))) hl141 hj142 hp143 (hS.sel [0, 1, 2, 3, 4, 5] (by decide) rfl)
          exact nx _ _ _ hm ⟨rfl, hS.sel [3, 0, 4] (by decide) rfl⟩
        ·
          refine f_if ?_
          obtain ⟨xs144, h145, hm⟩ := Ml.wp_asTup hm
          obtain ⟨x146, hx146, hm⟩ := wp_idx hm
          obtain ⟨a147, vs148, he149, hg150, hM151⟩ := any_tupE (hS.im (i := 0) rfl) h145
          obtain ⟨u152, hu153, hi154⟩ := atI_im hM151 hx146
          obtain ⟨b155, hb155, hm⟩ := wp_eqA hm
          refine et_to (et_test (ev_eqA (ev_ixT (ev_is (ev_var rfl) he149) ev_c hg150 hu153) ev_c hi154 (any_str.mpr rfl) hb155)) ?_
          refine ifK_J (τ := (List (Str × (Str × (List Str))))) (fun (s156 : (List (Str × (Str × (List Str))))) (σ : L2.St) (H : Hp) => σ = [some (.ref a_v_law_own), some a_v_law_deed_here, none] ∧ Sep H ([imA a_v_law_deed_here (v_law_deed_here : Any), dictE recSL a_v_law_own (s156 : (List (Str × (Str × (List Str))))), F] : List (Asn G))) hm (fun hb q hm nx => ?_) (fun hb q hm nx => ?_) (fun s156 σ H hm hI => ?_)
          ·
            refine c_asgS ?_
            refine c_fz ?_
            refine c_sortSet ?_
            refine c_fz ?_
            refine c_op ?_
            refine c_op ?_
            refine c_dget ?_
            refine ev_to (ev_var rfl) ?_
            refine k_dget1 ?_
            obtain ⟨xs157, h158, hm⟩ := Ml.wp_asTup hm
            obtain ⟨x159, hx159, hm⟩ := wp_idx hm
            obtain ⟨a160, vs161, he162, hg163, hM164⟩ := any_tupE (hS.im (i := 0) rfl) h158
            obtain ⟨u165, hu166, hi167⟩ := atI_im hM164 hx159
            refine ev_to (ev_ixT (ev_is (ev_var rfl) he162) ev_c hg163 hu166) ?_
            have hS := hS.addIm (v := u165) (x := (x159 : Any)) hi167
            obtain ⟨s169, hs170, hm⟩ := Ml.wp_asStr hm
            have hv171 := v_str (hS.im (i := 0) rfl) hs170
            subst hv171
            obtain ⟨x172, h173, hm⟩ := wp_dgetX hm
            refine k_dgetE (y := (x172 : (Str × (List Str)))) (hS.sel [2, 0, 1, 3] (by decide) rfl : Sep _ (dictE recSL a_v_law_own (v_law_own : (List (Str × (Str × (List Str))))) :: [imA (.str (s169)) (x159 : Any), imA a_v_law_deed_here (v_law_deed_here : Any), F] : List (Asn G))) h173 fun ps174 p175 j176 hl177 hj178 hp179 hS => ?_
            have hS : Sep H ([recSL p175 (x172 : (Str × (List Str))), dictXH id recSL a_v_law_own ps174 (v_law_own : (List (Str × (Str × (List Str))))) j176, imA (.str (s169)) (x159 : Any), imA a_v_law_deed_here (v_law_deed_here : Any), F] : List (Asn G)) := hS
            refine ev_to ev_c ?_
            obtain ⟨ad180, hq181, hi182⟩ := rec_get hS (i := 0) rfl
            refine ev_op2 (ev_ixSq ev_c ev_c hq181 rfl) ?_
            have hS := hS.addIm (v := (.ref ad180)) (x := (x172.2 : (List Str))) hi182
            refine c_fz ?_
            refine c_lst ?_
            obtain ⟨xs184, h185, hm⟩ := Ml.wp_asTup hm
            obtain ⟨x186, hx186, hm⟩ := wp_idx hm
            obtain ⟨a187, vs188, he189, hg190, hM191⟩ := any_tupE (hS.im (i := 4) rfl) h185
            obtain ⟨u192, hu193, hi194⟩ := atI_im hM191 hx186
            refine ea_to (ea_cons (ev_ixT (ev_is (ev_var rfl) he189) ev_c hg190 hu193) ea_nil) ?_
            have hS := hS.addIm (v := u192) (x := (x186 : Any)) hi194
            obtain ⟨s197, hs198, hm⟩ := Ml.wp_asStr hm
            have hv199 := v_str (hS.im (i := 0) rfl) hs198
            subst hv199
            refine k_lst (α := Str) (vs := [(.str (s197))]) (xs := [s197]) hS ⟨rfl, True.intro⟩ (by show 1 ≤ sizeLine; decide) fun p196 H hS => ?_
            refine fz_no ?_
            obtain ⟨h200, hm⟩ := R.wp_need hm
            refine k_catG hS (imPlR (hS.im (i := 2) rfl)) (hS.rdL (i := 0) rfl) h200 fun p201 H hS => ?_
            refine fz_no ?_
            obtain ⟨h203, hm⟩ := R.wp_need hm
            refine k_sortSet hS (.inl (hS.sqF (i := 0) rfl)) h203 fun p202 H hS => ?_
            refine fz_yes (xs := (ssetT (x172.2 ++ ([s197])) : (List Str))) hS (i := 0) rfl fun H hS => ?_
            have hS : Sep H ([imA (.ref p202) (ssetT (x172.2 ++ ([s197])) : (List Str)), lstA p201 (x172.2 ++ ([s197]) : (List Str)), lstA p196 ([s197] : (List Str)), imA (.str (s197)) (x186 : Any), imA (.ref ad180) (x172.2 : (List Str)), recSL p175 (x172 : (Str × (List Str))), dictXH id recSL a_v_law_own ps174 (v_law_own : (List (Str × (Str × (List Str))))) j176, imA (.str (s169)) (x159 : Any), imA a_v_law_deed_here (v_law_deed_here : Any), F] : List (Asn G)) := hS
            have hS : Sep H ([dictE recSL a_v_law_own (v_law_own : (List (Str × (Str × (List Str))))), imA (.ref p202) (ssetT (x172.2 ++ ([s197])) : (List Str)), lstA p201 (x172.2 ++ ([s197]) : (List Str)), lstA p196 ([s197] : (List Str)), imA (.str (s197)) (x186 : Any), imA (.ref ad180) (x172.2 : (List Str)), imA (.str (s169)) (x159 : Any), imA a_v_law_deed_here (v_law_deed_here : Any), F] : List (Asn G)) := unfocDE0 hl177 hj178 hp179 (hS.sel [5, 6, 0, 1, 2, 3, 4, 7, 8, 9] (by decide) rfl)
            refine c_dget ?_
            refine ev_to (ev_var rfl) ?_
            refine k_dget1 ?_
            obtain ⟨xs205, h206, hm⟩ := Ml.wp_asTup hm
            obtain ⟨x207, hx207, hm⟩ := wp_idx hm
            obtain ⟨a208, vs209, he210, hg211, hM212⟩ := any_tupE (hS.im (i := 7) rfl) h206
            obtain ⟨u213, hu214, hi215⟩ := atI_im hM212 hx207
            refine ev_to (ev_ixT (ev_is (ev_var rfl) he210) ev_c hg211 hu214) ?_
            have hS := hS.addIm (v := u213) (x := (x207 : Any)) hi215
            obtain ⟨s217, hs218, hm⟩ := Ml.wp_asStr hm
            have hv219 := v_str (hS.im (i := 0) rfl) hs218
            subst hv219
            obtain ⟨x220, h221, hm⟩ := wp_dgetX hm
            refine k_dgetE (y := (x220 : (Str × (List Str)))) (hS.sel [1, 0, 2, 3, 4, 5, 6, 7, 8, 9] (by decide) rfl : Sep _ (dictE recSL a_v_law_own (v_law_own : (List (Str × (Str × (List Str))))) :: [imA (.str (s217)) (x207 : Any), imA (.ref p202) (ssetT (x172.2 ++ ([s197])) : (List Str)), lstA p201 (x172.2 ++ ([s197]) : (List Str)), lstA p196 ([s197] : (List Str)), imA (.str (s197)) (x186 : Any), imA (.ref ad180) (x172.2 : (List Str)), imA (.str (s169)) (x159 : Any), imA a_v_law_deed_here (v_law_deed_here : Any), F] : List (Asn G))) h221 fun ps222 p223 j224 hl225 hj226 hp227 hS => ?_
            have hS : Sep H ([recSL p223 (x220 : (Str × (List Str))), dictXH id recSL a_v_law_own ps222 (v_law_own : (List (Str × (Str × (List Str))))) j224, imA (.str (s217)) (x207 : Any), imA (.ref p202) (ssetT (x172.2 ++ ([s197])) : (List Str)), lstA p201 (x172.2 ++ ([s197]) : (List Str)), lstA p196 ([s197] : (List Str)), imA (.str (s197)) (x186 : Any), imA (.ref ad180) (x172.2 : (List Str)), imA (.str (s169)) (x159 : Any), imA a_v_law_deed_here (v_law_deed_here : Any), F] : List (Asn G)) := hS
            refine ev_to ev_c ?_
            refine k_setL (α := Any) (x := (Any.lst ((ssetT (x172.2 ++ ([s197]))).map Any.str))) hS (n := 0) rfl (any_lstS (hS.im (i := 3) rfl)) 1 rfl rfl fun H hS => ?_
            have hS : Sep H ([recSL p223 ((x220.1, ssetT (x172.2 ++ ([s197]))) : (Str × (List Str))), dictXH id recSL a_v_law_own ps222 (v_law_own : (List (Str × (Str × (List Str))))) j224, imA (.str (s217)) (x207 : Any), imA (.ref p202) (ssetT (x172.2 ++ ([s197])) : (List Str)), lstA p201 (x172.2 ++ ([s197]) : (List Str)), lstA p196 ([s197] : (List Str)), imA (.str (s197)) (x186 : Any), imA (.ref ad180) (x172.2 : (List Str)), imA (.str (s169)) (x159 : Any), imA a_v_law_deed_here (v_law_deed_here : Any), F] : List (Asn G)) := hS
            have hS : Sep H ([dictE recSL a_v_law_own (dput v_law_own s217 (x220.1, ssetT (x172.2 ++ ([s197]))) : (List (Str × (Str × (List Str))))), imA (.str (s217)) (x207 : Any), imA (.ref p202) (ssetT (x172.2 ++ ([s197])) : (List Str)), lstA p201 (x172.2 ++ ([s197]) : (List Str)), lstA p196 ([s197] : (List Str)), imA (.str (s197)) (x186 : Any), imA (.ref ad180) (x172.2 : (List Str)), imA (.str (s169)) (x159 : Any), imA a_v_law_deed_here (v_law_deed_here : Any), F] : List (Asn G)) := unfocDE (z := ((x220.1, ssetT (x172.2 ++ ([s197]))) : (Str × (List Str)))) hl225 hj226 hp227 (hS.sel [0, 1, 2, 3, 4, 5, 6, 7, 8, 9, 10] (by decide) rfl)
            exact nx _ _ _ hm ⟨rfl, hS.sel [8, 0, 9] (by decide) rfl⟩
          ·
            refine c_asgS ?_
            refine c_fz ?_
            refine c_lc ?_
            refine c_il ?_
            refine c_op ?_
            refine c_dget ?_
            refine ev_to (ev_var rfl) ?_
            refine k_dget1 ?_
            obtain ⟨xs228, h229, hm⟩ := Ml.wp_asTup hm
            obtain ⟨x230, hx230, hm⟩ := wp_idx hm
            obtain ⟨a231, vs232, he233, hg234, hM235⟩ := any_tupE (hS.im (i := 0) rfl) h229
            obtain ⟨u236, hu237, hi238⟩ := atI_im hM235 hx230
            refine ev_to (ev_ixT (ev_is (ev_var rfl) he233) ev_c hg234 hu237) ?_
            have hS := hS.addIm (v := u236) (x := (x230 : Any)) hi238
            obtain ⟨s240, hs241, hm⟩ := Ml.wp_asStr hm
            have hv242 := v_str (hS.im (i := 0) rfl) hs241
            subst hv242
            obtain ⟨x243, h244, hm⟩ := wp_dgetX hm
            refine k_dgetE (y := (x243 : (Str × (List Str)))) (hS.sel [2, 0, 1, 3] (by decide) rfl : Sep _ (dictE recSL a_v_law_own (v_law_own : (List (Str × (Str × (List Str))))) :: [imA (.str (s240)) (x230 : Any), imA a_v_law_deed_here (v_law_deed_here : Any), F] : List (Asn G))) h244 fun ps245 p246 j247 hl248 hj249 hp250 hS => ?_
            have hS : Sep H ([recSL p246 (x243 : (Str × (List Str))), dictXH id recSL a_v_law_own ps245 (v_law_own : (List (Str × (Str × (List Str))))) j247, imA (.str (s240)) (x230 : Any), imA a_v_law_deed_here (v_law_deed_here : Any), F] : List (Asn G)) := hS
            refine ev_to ev_c ?_
            obtain ⟨ad251, hq252, hi253⟩ := rec_get hS (i := 0) rfl
            refine ev_op2 (ev_ixSq ev_c ev_c hq252 rfl) ?_
            have hS := hS.addIm (v := (.ref ad251)) (x := (x243.2 : (List Str))) hi253
            have hS : Sep H ([dictE recSL a_v_law_own (v_law_own : (List (Str × (Str × (List Str))))), imA (.ref ad251) (x243.2 : (List Str)), imA (.str (s240)) (x230 : Any), imA a_v_law_deed_here (v_law_deed_here : Any), F] : List (Asn G)) := unfocDE0 hl248 hj249 hp250 (hS.sel [1, 2, 0, 3, 4, 5] (by decide) rfl)
            refine k_ilG (imPl (hS.im (i := 1) rfl)) ?_
            obtain ⟨h255, hm⟩ := R.wp_need hm
            refine lc_sep (β := Str) (fun (_ : Unit) => ([dictE recSL a_v_law_own (v_law_own : (List (Str × (Str × (List Str))))), imA (.ref ad251) (x243.2 : (List Str)), imA (.str (s240)) (x230 : Any), imA a_v_law_deed_here (v_law_deed_here : Any), F] : List (Asn G))) (s := ()) (im := (Im.im G)) hS (fun _ _ _ => wk_list fun _ _ h => imPl (h.im (i := 2) rfl)) h255 hm (fun p256 _ ys259 x257 v258 H q Nx hS hx hm kS kN => ?_) (fun p256 t H hm hS => ?_)
            ·
              cases hx
              refine c_gLc (σ' := [some (.ref a_v_law_own), some a_v_law_deed_here, some (.str (x257))]) rfl rfl ?_
              obtain ⟨xs260, h261, hm⟩ := Ml.wp_asTup hm
              obtain ⟨x262, hx262, hm⟩ := wp_idx hm
              obtain ⟨a263, vs264, he265, hg266, hM267⟩ := any_tupE (hS.im (i := 4) rfl) h261
              obtain ⟨u268, hu269, hi270⟩ := atI_im hM267 hx262
              obtain ⟨b271, hb271, hm⟩ := wp_eqA hm
              refine et_to (et_test (ev_neA (ev_var rfl) (ev_ixT (ev_is (ev_var rfl) he265) ev_c hg266 hu269) (any_str.mpr rfl) hi270 hb271)) ?_
              refine lc_if (fun hb272 => ?_) (fun hb272 => ?_)
              · have hm := R.wp_ifY hm hb272
                refine ev_to (ev_var rfl) ?_
                exact kS () _ _ _ hm rfl (hS.sel [0, 1, 2, 3, 4, 5] (by decide) rfl)
              · have hm := R.wp_ifN hm (by first | (rw [hb272]; decide) | simpa using hb272)
                exact kN () _ hm (hS.sel [0, 1, 2, 3, 4, 5] (by decide) rfl)
            · revert hm hS; generalize t = t273; intro hm hS
              refine fz_yes (xs := (t273.2 : (List Str))) hS (i := 0) rfl fun H hS => ?_
              have hS : Sep H ([imA (.ref p256) (t273.2 : (List Str)), dictE recSL a_v_law_own (v_law_own : (List (Str × (Str × (List Str))))), imA (.ref ad251) (x243.2 : (List Str)), imA (.str (s240)) (x230 : Any), imA a_v_law_deed_here (v_law_deed_here : Any), F] : List (Asn G)) := hS
              refine c_dget ?_
              refine ev_to (ev_var rfl) ?_
              refine k_dget1 ?_
              obtain ⟨xs275, h276, hm⟩ := Ml.wp_asTup hm
              obtain ⟨x277, hx277, hm⟩ := wp_idx hm
              obtain ⟨a278, vs279, he280, hg281, hM282⟩ := any_tupE (hS.im (i := 4) rfl) h276
              obtain ⟨u283, hu284, hi285⟩ := atI_im hM282 hx277
              refine ev_to (ev_ixT (ev_is (ev_var rfl) he280) ev_c hg281 hu284) ?_
              have hS := hS.addIm (v := u283) (x := (x277 : Any)) hi285
              obtain ⟨s287, hs288, hm⟩ := Ml.wp_asStr hm
              have hv289 := v_str (hS.im (i := 0) rfl) hs288
              subst hv289
              obtain ⟨x290, h291, hm⟩ := wp_dgetX hm
              refine k_dgetE (y := (x290 : (Str × (List Str)))) (hS.sel [2, 0, 1, 3, 4, 5, 6] (by decide) rfl : Sep _ (dictE recSL a_v_law_own (v_law_own : (List (Str × (Str × (List Str))))) :: [imA (.str (s287)) (x277 : Any), imA (.ref p256) (t273.2 : (List Str)), imA (.ref ad251) (x243.2 : (List Str)), imA (.str (s240)) (x230 : Any), imA a_v_law_deed_here (v_law_deed_here : Any), F] : List (Asn G))) h291 fun ps292 p293 j294 hl295 hj296 hp297 hS => ?_
              have hS : Sep H ([recSL p293 (x290 : (Str × (List Str))), dictXH id recSL a_v_law_own ps292 (v_law_own : (List (Str × (Str × (List Str))))) j294, imA (.str (s287)) (x277 : Any), imA (.ref p256) (t273.2 : (List Str)), imA (.ref ad251) (x243.2 : (List Str)), imA (.str (s240)) (x230 : Any), imA a_v_law_deed_here (v_law_deed_here : Any), F] : List (Asn G)) := hS
              refine ev_to ev_c ?_
              refine k_setL (α := Any) (x := (Any.lst (t273.2.map Any.str))) hS (n := 0) rfl (any_lstS (hS.im (i := 3) rfl)) 1 rfl rfl fun H hS => ?_
              have hS : Sep H ([recSL p293 ((x290.1, t273.2) : (Str × (List Str))), dictXH id recSL a_v_law_own ps292 (v_law_own : (List (Str × (Str × (List Str))))) j294, imA (.str (s287)) (x277 : Any), imA (.ref p256) (t273.2 : (List Str)), imA (.ref ad251) (x243.2 : (List Str)), imA (.str (s240)) (x230 : Any), imA a_v_law_deed_here (v_law_deed_here : Any), F] : List (Asn G)) := hS
              have hS : Sep H ([dictE recSL a_v_law_own (dput v_law_own s287 (x290.1, t273.2) : (List (Str × (Str × (List Str))))), imA (.str (s287)) (x277 : Any), imA (.ref p256) (t273.2 : (List Str)), imA (.ref ad251) (x243.2 : (List Str)), imA (.str (s240)) (x230 : Any), imA a_v_law_deed_here (v_law_deed_here : Any), F] : List (Asn G)) := unfocDE (z := ((x290.1, t273.2) : (Str × (List Str)))) hl295 hj296 hp297 (hS.sel [0, 1, 2, 3, 4, 5, 6, 7] (by decide) rfl)
              exact nx _ _ _ hm ⟨rfl, hS.sel [5, 0, 6] (by decide) rfl⟩
          · obtain ⟨rfl, hS⟩ := hI
            exact nx _ _ _ hm ⟨rfl, hS.sel [0, 1, 2] (by decide) rfl⟩
        · obtain ⟨rfl, hS⟩ := hI
          exact nx _ _ _ hm ⟨rfl, hS.sel [0, 1, 2] (by decide) rfl⟩
      · obtain ⟨rfl, hS⟩ := hI
        exact nx _ _ _ hm ⟨rfl, hS.sel [0, 1, 2] (by decide) rfl⟩
    · obtain ⟨rfl, hS⟩ := hI
      refine sq_nx ?_
      refine c_ret ?_
      refine ev_to (ev_var rfl) ?_
      exact hm _ _ (hS.sel [0, 1, 2] (by decide) rfl)
def sp_law_does (G : Gx) : Sp := fun vs H Q E => ∃ (a_v_law_folders : Addr) (v_law_folders : Folders) (a_v_law_deed_here : V) (v_law_deed_here : Any) (v_law_defaults : Bool) (F : Asn G), vs = [.ref a_v_law_folders, a_v_law_deed_here, (.bl (v_law_defaults))] ∧ Im.im G H a_v_law_deed_here v_law_deed_here ∧ Sep H ([FoldersA a_v_law_folders v_law_folders, F] : List (Asn G)) ∧ R.wp (m_law_does v_law_folders v_law_deed_here v_law_defaults) (fun r => ∀ H', Sep H' ([FoldersA a_v_law_folders r, F] : List (Asn G)) → Q .non H') (fun x => ∀ H', Sep H' ([FoldersA a_v_law_folders v_law_folders, F] : List (Asn G)) → Eok G x E H')
abbrev N_law_does : List Str := ["_law_folders", "_law_deed_here", "_law_defaults", "_law_marks", "_law_found"]
theorem sc_law_does : FnScope N_law_does ["_law_folders", "_law_deed_here", "_law_defaults"] (defScope s_law_does) := ⟨rfl, rfl, rfl, by decide +kernel, rfl, by decide +kernel, by decide +kernel⟩
theorem ok_law_does (T : Txt G mg) : FnOk P w G.K mg base (L2.CX P w) 4 T.a_law_does T.fd_law_does ["_law_folders", "_law_deed_here", "_law_defaults"] (sp_law_does G) := by
  have nd := sc_law_does.nd
  refine Fun.okX T.F_law_does sc_law_does (fun vs H Q E h => ?_) (fun cdv A outer s H vs Q E hr h => ?_)
  · obtain ⟨a_v_law_folders, v_law_folders, a_v_law_deed_here, v_law_deed_here, v_law_defaults, F, rfl, _⟩ := h; rfl
  · obtain ⟨a_v_law_folders, v_law_folders, a_v_law_deed_here, v_law_deed_here, v_law_defaults, F, rfl, him_v_law_deed_here, hS, hm⟩ := h
    have hS := hS.addIm him_v_law_deed_here
    refine ⟨_, (pss_cons (ps_if (PW.pt (pw_and (pt_cmpR (eqDK G.K hr.units) (pe_ix (ix_tupK G.K) (pv 1) pe_int (fun _ _ => rfl)) pe_str (nomark _)) (pw_and (pt_val (pv 2)) (pw_and1 (pt_cmpR (eqDK G.K hr.units) (pe_ix (ix_tupK G.K) (pv 1) pe_int (fun _ _ => rfl)) (pe_tup pa_nil) (nomark _)))))) (pss_cons (ps_if (pt_cmpR (eqDK G.K hr.units) (pe_ix (ix_tupK G.K) (pv 1) pe_int (fun _ _ => rfl)) pe_str (nomark _)) (pss_one (ps_ret (pe_meth (pv 0) T.cl_Folders T.m_Folders_add (ok_Folders_add T) (hr.mono (by decide)) (T.bd_Folders_add_2).2 (T.bd_Folders_add_2).1 (passes_call (takes_of rfl rfl rfl rfl) (fun _ _ _ _ h => h)) (pa_cons (pe_ix (ix_tupK G.K) (pv 1) pe_int (fun _ _ => rfl)) pa_nil)))) pss_nil)
      (pss_one (ps_ret (pe_meth (pv 0) T.cl_Folders T.m_Folders_add (ok_Folders_add T) (hr.mono (by decide)) (T.bd_Folders_add_3).2 (T.bd_Folders_add_3).1 (passes_call (takes_of rfl rfl rfl rfl) (fun _ _ _ _ h => h)) (pa_cons (pe_ix (ix_tupK G.K) (pv 1) pe_int (fun _ _ => rfl)) (pa_cons (pe_ix (ix_tupK G.K) (pv 1) pe_int (fun _ _ => rfl)) pa_nil)))))) pss_nil)
      (pss_cons (ps_if (PW.pt (pw_and (pt_cmpR (eqDK G.K hr.units) (pe_ix (ix_tupK G.K) (pv 1) pe_int (fun _ _ => rfl)) pe_str (nomark _)) (pw_and1 (pt_val (pv 2))))) (pss_one (ps_ret (pe_meth (pv 0) T.cl_Folders T.m_Folders_add (ok_Folders_add T) (hr.mono (by decide)) T.b_Folders_add .nil (passes_call (takes_of rfl rfl rfl rfl) (fun _ _ _ _ h => h)) (pa_cons (pe_ix (ix_tupK G.K) (pv 1) pe_int (fun _ _ => rfl)) (pa_cons (pe_ix (ix_tupK G.K) (pv 1) pe_int (fun _ _ => rfl)) (pa_cons (pe_ix (ix_tupK G.K) (pv 1) pe_int (fun _ _ => rfl)) pa_nil)))))) pss_nil)
      (pss_cons (ps_if (pt_cmpR (eqDK G.K hr.units) (pe_ix (ix_tupK G.K) (pv 1) pe_int (fun _ _ => rfl)) pe_str (nomark _)) (pss_cons (ps_set (i := 3) nd rfl (Or.inl rfl) (pe_fz (pe_callTy (listSqK G.K) (by rfl) T.z_list (by decide +kernel) (pa_cons (pe_ix (ix_tupK G.K) (pv 1) pe_int (fun _ _ => rfl)) pa_nil))))
      (pss_cons (ps_set (i := 4) nd rfl (Or.inl rfl) (pe_meth (pv 0) T.cl_Folders T.m_Folders_add (ok_Folders_add_L T) (hr.mono (by decide)) T.b_Folders_add .nil (passes_call (takes_of rfl rfl rfl rfl) (fun _ _ _ _ h => h)) (pa_cons (pe_ix (ix_tupK G.K) (pv 1) pe_int (fun _ _ => rfl)) (pa_cons (pe_ix (ix_tupK G.K) (pv 1) pe_int (fun _ _ => rfl)) (pa_cons (pe_fz (pv 3)) pa_nil)))))
      (pss_cons (ps_expr (pe_bmK G.K PySem.F.plainAttrs_list PySem.F.slot_list_append PySem.F.type_list_append mt_append (pe_fz (pv 3)) (pa_cons pe_str pa_nil)))
      (pss_one (ps_ret (pv 4)))))) pss_nil)
      (pss_cons (ps_if (pt_cmpR (eqDK G.K hr.units) (pe_ix (ix_tupK G.K) (pv 1) pe_int (fun _ _ => rfl)) pe_str (nomark _)) (pss_one (ps_ret (pe_meth (pv 0) T.cl_Folders T.m_Folders_take_out (ok_Folders_take_out_A T) (hr.mono (by decide)) T.b_Folders_take_out .nil (passes_call (takes_of rfl rfl rfl rfl) (fun _ _ _ _ h => h)) (pa_cons (pe_ix (ix_tupK G.K) (pv 1) pe_int (fun _ _ => rfl)) pa_nil)))) pss_nil)
      (pss_cons (ps_if (pt_cmpR (eqDK G.K hr.units) (pe_ix (ix_tupK G.K) (pv 1) pe_int (fun _ _ => rfl)) pe_str (nomark _)) (pss_one (ps_ret (pe_meth (pv 0) T.cl_Folders T.m_Folders_place (ok_Folders_place_A T) (hr.mono (by decide)) T.b_Folders_place .nil (passes_call (takes_of rfl rfl rfl rfl) (fun _ _ _ _ h => h)) (pa_cons (pe_ix (ix_tupK G.K) (pv 1) pe_int (fun _ _ => rfl)) (pa_cons (pe_ix (ix_tupK G.K) (pv 1) pe_int (fun _ _ => rfl)) pa_nil))))) pss_nil)
      (pss_cons (ps_if (pt_cmpR (eqDK G.K hr.units) (pe_ix (ix_tupK G.K) (pv 1) pe_int (fun _ _ => rfl)) pe_str (nomark _)) (pss_one (ps_ret (pe_meth (pv 0) T.cl_Folders T.m_Folders_mark (ok_Folders_mark_A T) (hr.mono (by decide)) T.b_Folders_mark .nil (passes_call (takes_of rfl rfl rfl rfl) (fun _ _ _ _ h => h)) (pa_cons (pe_ix (ix_tupK G.K) (pv 1) pe_int (fun _ _ => rfl)) (pa_cons (pe_ix (ix_tupK G.K) (pv 1) pe_int (fun _ _ => rfl)) pa_nil))))) pss_nil)
      (pss_one (ps_ret (pe_meth (pv 0) T.cl_Folders T.m_Folders_unmark (ok_Folders_unmark_A T) (hr.mono (by decide)) T.b_Folders_unmark .nil (passes_call (takes_of rfl rfl rfl rfl) (fun _ _ _ _ h => h)) (pa_cons (pe_ix (ix_tupK G.K) (pv 1) pe_int (fun _ _ => rfl)) (pa_cons (pe_ix (ix_tupK G.K) (pv 1) pe_int (fun _ _ => rfl)) pa_nil))))))))))), ?_⟩
    unfold m_law_does at hm
    refine f_seq ?_
    refine f_if ?_
    refine f_and ?_
    obtain ⟨xs1, h2, hm⟩ := Ml.wp_asTup hm
    obtain ⟨x3, hx3, hm⟩ := wp_idx hm
    obtain ⟨a4, vs5, he6, hg7, hM8⟩ := any_tupE (hS.im (i := 0) rfl) h2
    obtain ⟨u9, hu10, hi11⟩ := atI_im hM8 hx3
    obtain ⟨b12, hb12, hm⟩ := wp_eqA hm
    refine et_to (et_test (ev_eqA (ev_ixT (ev_is (ev_var rfl) he6) ev_c hg7 hu10) ev_c hi11 (any_str.mpr rfl) hb12)) ?_
    refine andK_J hm hS (fun hb q hm nx => ?_) (fun b13 H hm hS => ?_)
    ·
      refine f_and ?_
      refine et_to (et_B (ev_var rfl)) ?_
      refine andK_J hm hS (fun hb q hm nx => ?_) (fun b14 H hm hS => ?_)
      ·
        refine f_test ?_
        refine c_op ?_
        obtain ⟨xs15, h16, hm⟩ := Ml.wp_asTup hm
        obtain ⟨x17, hx17, hm⟩ := wp_idx hm
        obtain ⟨a18, vs19, he20, hg21, hM22⟩ := any_tupE (hS.im (i := 0) rfl) h16
        obtain ⟨u23, hu24, hi25⟩ := atI_im hM22 hx17
        refine ev_to (ev_ixT (ev_is (ev_var rfl) he20) ev_c hg21 hu24) ?_
        have hS := hS.addIm (v := u23) (x := (x17 : Any)) hi25
        refine c_tup ?_
        refine ea_to ea_nil ?_
        refine k_tupA (vs := []) (xs := []) hS True.intro (by show 0 ≤ sizeLine; decide) fun p27 H hS => ?_
        obtain ⟨b29, hb29, hm⟩ := wp_eqA hm
        refine ev_op2 (ev_eqA ev_c ev_c (hS.im (i := 1) rfl) (hS.im (i := 0) rfl) hb29) ?_
        refine f_bl ?_
        exact nx _ _ hm (hS.sel [2, 3, 4] (by decide) rfl)
      ·
        exact nx _ _ hm (hS.sel [0, 1, 2] (by decide) rfl)
    ·
      refine ifK_2 (fun hb30 => ?_) (fun hb30 => ?_)
      · have hm := R.wp_ifY hm hb30
        refine f_seq ?_
        refine f_if ?_
        obtain ⟨xs31, h32, hm⟩ := Ml.wp_asTup hm
        obtain ⟨x33, hx33, hm⟩ := wp_idx hm
        obtain ⟨a34, vs35, he36, hg37, hM38⟩ := any_tupE (hS.im (i := 0) rfl) h32
        obtain ⟨u39, hu40, hi41⟩ := atI_im hM38 hx33
        obtain ⟨b42, hb42, hm⟩ := wp_eqA hm
        refine et_to (et_test (ev_eqA (ev_ixT (ev_is (ev_var rfl) he36) ev_c hg37 hu40) ev_c hi41 (any_str.mpr rfl) hb42)) ?_
        refine ifK_2 (fun hb43 => ?_) (fun hb43 => ?_)
        · have hm := R.wp_ifY hm hb43
          refine c_ret ?_
          refine c_meth ?_
          refine ev_to (ev_var rfl) ?_
          obtain ⟨d44, _, _, _, _, hO45⟩ := ins_Folders hS (i := 1) rfl
          refine ⟨_, _, _, rfl, hO45, rfl, ?_⟩
          obtain ⟨xs46, h47, hm⟩ := Ml.wp_asTup hm
          obtain ⟨x48, hx48, hm⟩ := wp_idx hm
          obtain ⟨a49, vs50, he51, hg52, hM53⟩ := any_tupE (hS.im (i := 0) rfl) h47
          obtain ⟨u54, hu55, hi56⟩ := atI_im hM53 hx48
          refine ea_to (ea_cons (ev_ixT (ev_is (ev_var rfl) he51) ev_c hg52 hu55) ea_nil) ?_
          have hS := hS.addIm (v := u54) (x := (x48 : Any)) hi56
          obtain ⟨s58, hs59, hm⟩ := Ml.wp_asStr hm
          have hv60 := v_str (hS.im (i := 0) rfl) hs59
          subst hv60
          refine ⟨a_v_law_folders, (v_law_folders : Folders), s58, ("inbox" : Str), .non, (Any.non : Any), star [imA (.str (s58)) (x48 : Any), imA a_v_law_deed_here (v_law_deed_here : Any), F], rfl, (any_non.mpr rfl), Sep.unstar (M := [FoldersA a_v_law_folders v_law_folders]) (hS.sel [2, 0, 1, 3] (by decide) rfl : Sep H (([FoldersA a_v_law_folders v_law_folders] ++ [imA (.str (s58)) (x48 : Any), imA a_v_law_deed_here (v_law_deed_here : Any), F] : List (Asn G)))), R.wp_mono (R.wp_bind hm) (fun r61 hm H hS => ?_) (fun x hx H hS => ?_)⟩
          ·
            have hS : Sep H ([FoldersA a_v_law_folders r61, imA (.str (s58)) (x48 : Any), imA a_v_law_deed_here (v_law_deed_here : Any), F] : List (Asn G)) := Sep.star (M := [FoldersA a_v_law_folders r61]) hS
            exact hm _ (hS.sel [0, 3] (by decide) rfl)
          ·
            have hS : Sep H ([FoldersA a_v_law_folders v_law_folders, imA (.str (s58)) (x48 : Any), imA a_v_law_deed_here (v_law_deed_here : Any), F] : List (Asn G)) := Sep.star (M := [FoldersA a_v_law_folders v_law_folders]) hS
            exact hx _ (hS.sel [0, 3] (by decide) rfl)
        · have hm := R.wp_ifN hm (by first | (rw [hb43]; decide) | simpa using hb43)
          refine st_nx ?_
          refine sq_nx ?_
          refine c_ret ?_
          refine c_meth ?_
          refine ev_to (ev_var rfl) ?_
          obtain ⟨d62, _, _, _, _, hO63⟩ := ins_Folders hS (i := 1) rfl
          refine ⟨_, _, _, rfl, hO63, rfl, ?_⟩
          obtain ⟨xs64, h65, hm⟩ := Ml.wp_asTup hm
          obtain ⟨x66, hx66, hm⟩ := wp_idx hm
          obtain ⟨a67, vs68, he69, hg70, hM71⟩ := any_tupE (hS.im (i := 0) rfl) h65
          obtain ⟨u72, hu73, hi74⟩ := atI_im hM71 hx66
          obtain ⟨xs75, h76, hm⟩ := Ml.wp_asTup hm
          obtain ⟨x77, hx77, hm⟩ := wp_idx hm
          obtain ⟨a78, vs79, he80, hg81, hM82⟩ := any_tupE (hS.im (i := 0) rfl) h76
          obtain ⟨u83, hu84, hi85⟩ := atI_im hM82 hx77
          refine ea_to (ea_cons (ev_ixT (ev_is (ev_var rfl) he69) ev_c hg70 hu73) (ea_cons (ev_ixT (ev_is (ev_var rfl) he80) ev_c hg81 hu84) ea_nil)) ?_
          have hS := hS.addIm (v := u72) (x := (x66 : Any)) hi74
          have hS := hS.addIm (v := u83) (x := (x77 : Any)) hi85
          obtain ⟨s88, hs89, hm⟩ := Ml.wp_asStr hm
          have hv90 := v_str (hS.im (i := 1) rfl) hs89
          subst hv90
          obtain ⟨s91, hs92, hm⟩ := Ml.wp_asStr hm
          have hv93 := v_str (hS.im (i := 0) rfl) hs92
          subst hv93
          refine ⟨a_v_law_folders, (v_law_folders : Folders), s88, s91, .non, (Any.non : Any), star [imA (.str (s91)) (x77 : Any), imA (.str (s88)) (x66 : Any), imA a_v_law_deed_here (v_law_deed_here : Any), F], rfl, (any_non.mpr rfl), Sep.unstar (M := [FoldersA a_v_law_folders v_law_folders]) (hS.sel [3, 0, 1, 2, 4] (by decide) rfl : Sep H (([FoldersA a_v_law_folders v_law_folders] ++ [imA (.str (s91)) (x77 : Any), imA (.str (s88)) (x66 : Any), imA a_v_law_deed_here (v_law_deed_here : Any), F] : List (Asn G)))), R.wp_mono (R.wp_bind hm) (fun r94 hm H hS => ?_) (fun x hx H hS => ?_)⟩
          ·
            have hS : Sep H ([FoldersA a_v_law_folders r94, imA (.str (s91)) (x77 : Any), imA (.str (s88)) (x66 : Any), imA a_v_law_deed_here (v_law_deed_here : Any), F] : List (Asn G)) := Sep.star (M := [FoldersA a_v_law_folders r94]) hS
            exact hm _ (hS.sel [0, 4] (by decide) rfl)
          ·
            have hS : Sep H ([FoldersA a_v_law_folders v_law_folders, imA (.str (s91)) (x77 : Any), imA (.str (s88)) (x66 : Any), imA a_v_law_deed_here (v_law_deed_here : Any), F] : List (Asn G)) := Sep.star (M := [FoldersA a_v_law_folders v_law_folders]) hS
            exact hx _ (hS.sel [0, 4] (by decide) rfl)
      · have hm := R.wp_ifN hm (by first | (rw [hb30]; decide) | simpa using hb30)
        refine st_nx ?_
        refine sq_nx ?_
        refine f_seq ?_
        refine f_if ?_
        obtain ⟨xs95, h96, hm⟩ := Ml.wp_asTup hm
        obtain ⟨x97, hx97, hm⟩ := wp_idx hm
        obtain ⟨a98, vs99, he100, hg101, hM102⟩ := any_tupE (hS.im (i := 0) rfl) h96
        obtain ⟨u103, hu104, hi105⟩ := atI_im hM102 hx97
        obtain ⟨b106, hb106, hm⟩ := wp_eqA hm
        refine et_to (et_and (et_test (ev_eqA (ev_ixT (ev_is (ev_var rfl) he100) ev_c hg101 hu104) ev_c hi105 (any_str.mpr rfl) hb106)) fun _ => (et_B (ev_var rfl))) ?_
        refine ifK_2 (fun hb107 => ?_) (fun hb107 => ?_)
        · have hm := R.wp_ifY hm hb107
          refine c_ret ?_
          refine c_meth ?_
          refine ev_to (ev_var rfl) ?_
          obtain ⟨d108, _, _, _, _, hO109⟩ := ins_Folders hS (i := 1) rfl
          refine ⟨_, _, _, rfl, hO109, rfl, ?_⟩
          obtain ⟨xs110, h111, hm⟩ := Ml.wp_asTup hm
          obtain ⟨x112, hx112, hm⟩ := wp_idx hm
          obtain ⟨a113, vs114, he115, hg116, hM117⟩ := any_tupE (hS.im (i := 0) rfl) h111
          obtain ⟨u118, hu119, hi120⟩ := atI_im hM117 hx112
          obtain ⟨xs121, h122, hm⟩ := Ml.wp_asTup hm
          obtain ⟨x123, hx123, hm⟩ := wp_idx hm
          obtain ⟨a124, vs125, he126, hg127, hM128⟩ := any_tupE (hS.im (i := 0) rfl) h122
          obtain ⟨u129, hu130, hi131⟩ := atI_im hM128 hx123
          obtain ⟨xs132, h133, hm⟩ := Ml.wp_asTup hm
          obtain ⟨x134, hx134, hm⟩ := wp_idx hm
          obtain ⟨a135, vs136, he137, hg138, hM139⟩ := any_tupE (hS.im (i := 0) rfl) h133
          obtain ⟨u140, hu141, hi142⟩ := atI_im hM139 hx134
          refine ea_to (ea_cons (ev_ixT (ev_is (ev_var rfl) he115) ev_c hg116 hu119) (ea_cons (ev_ixT (ev_is (ev_var rfl) he126) ev_c hg127 hu130) (ea_cons (ev_ixT (ev_is (ev_var rfl) he137) ev_c hg138 hu141) ea_nil))) ?_
          have hS := hS.addIm (v := u118) (x := (x112 : Any)) hi120
          have hS := hS.addIm (v := u129) (x := (x123 : Any)) hi131
          have hS := hS.addIm (v := u140) (x := (x134 : Any)) hi142
          obtain ⟨s146, hs147, hm⟩ := Ml.wp_asStr hm
          have hv148 := v_str (hS.im (i := 2) rfl) hs147
          subst hv148
          obtain ⟨s149, hs150, hm⟩ := Ml.wp_asStr hm
          have hv151 := v_str (hS.im (i := 1) rfl) hs150
          subst hv151
          refine ⟨a_v_law_folders, (v_law_folders : Folders), s146, s149, u140, (x134 : Any), star [imA u140 (x134 : Any), imA (.str (s149)) (x123 : Any), imA (.str (s146)) (x112 : Any), imA a_v_law_deed_here (v_law_deed_here : Any), F], rfl, (hS.im (i := 0) rfl), Sep.unstar (M := [FoldersA a_v_law_folders v_law_folders]) (hS.sel [4, 0, 1, 2, 3, 5] (by decide) rfl : Sep H (([FoldersA a_v_law_folders v_law_folders] ++ [imA u140 (x134 : Any), imA (.str (s149)) (x123 : Any), imA (.str (s146)) (x112 : Any), imA a_v_law_deed_here (v_law_deed_here : Any), F] : List (Asn G)))), R.wp_mono (R.wp_bind hm) (fun r152 hm H hS => ?_) (fun x hx H hS => ?_)⟩
          ·
            have hS : Sep H ([FoldersA a_v_law_folders r152, imA u140 (x134 : Any), imA (.str (s149)) (x123 : Any), imA (.str (s146)) (x112 : Any), imA a_v_law_deed_here (v_law_deed_here : Any), F] : List (Asn G)) := Sep.star (M := [FoldersA a_v_law_folders r152]) hS
            exact hm _ (hS.sel [0, 5] (by decide) rfl)
          ·
            have hS : Sep H ([FoldersA a_v_law_folders v_law_folders, imA u140 (x134 : Any), imA (.str (s149)) (x123 : Any), imA (.str (s146)) (x112 : Any), imA a_v_law_deed_here (v_law_deed_here : Any), F] : List (Asn G)) := Sep.star (M := [FoldersA a_v_law_folders v_law_folders]) hS
            exact hx _ (hS.sel [0, 5] (by decide) rfl)
        · have hm := R.wp_ifN hm (by first | (rw [hb107]; decide) | simpa using hb107)
          refine st_nx ?_
          refine sq_nx ?_
          refine f_seq ?_
          refine f_if ?_
          obtain ⟨xs153, h154, hm⟩ := Ml.wp_asTup hm
          obtain ⟨x155, hx155, hm⟩ := wp_idx hm
          obtain ⟨a156, vs157, he158, hg159, hM160⟩ := any_tupE (hS.im (i := 0) rfl) h154
          obtain ⟨u161, hu162, hi163⟩ := atI_im hM160 hx155
          obtain ⟨b164, hb164, hm⟩ := wp_eqA hm
          refine et_to (et_test (ev_eqA (ev_ixT (ev_is (ev_var rfl) he158) ev_c hg159 hu162) ev_c hi163 (any_str.mpr rfl) hb164)) ?_
          refine ifK_2 (fun hb165 => ?_) (fun hb165 => ?_)
          · have hm := R.wp_ifY hm hb165
            refine f_seq ?_
            refine c_asg ?_
            refine c_fz ?_
            refine c_cb ?_
            obtain ⟨xs166, h167, hm⟩ := Ml.wp_asTup hm
            obtain ⟨x168, hx168, hm⟩ := wp_idx hm
            obtain ⟨a169, vs170, he171, hg172, hM173⟩ := any_tupE (hS.im (i := 0) rfl) h167
            obtain ⟨u174, hu175, hi176⟩ := atI_im hM173 hx168
            refine ea_to (ea_cons (ev_ixT (ev_is (ev_var rfl) he171) ev_c hg172 hu175) ea_nil) ?_
            have hS := hS.addIm (v := u174) (x := (x168 : Any)) hi176
            obtain ⟨ss179, hss179, hm⟩ := wp_asStrs hm
            refine k_listS hS (hS.im (i := 0) rfl) hss179 fun p178 H hS => ?_
            refine fz_no ?_
            refine c_set (σ' := [some (.ref a_v_law_folders), some a_v_law_deed_here, some (.bl (v_law_defaults)), some (.ref p178), none]) rfl ?_
            refine sq_nx ?_
            refine f_seq ?_
            refine c_asg ?_
            refine c_meth ?_
            refine ev_to (ev_var rfl) ?_
            obtain ⟨d180, _, _, _, _, hO181⟩ := ins_Folders hS (i := 3) rfl
            refine ⟨_, _, _, rfl, hO181, rfl, ?_⟩
            obtain ⟨xs182, h183, hm⟩ := Ml.wp_asTup hm
            obtain ⟨x184, hx184, hm⟩ := wp_idx hm
            obtain ⟨a185, vs186, he187, hg188, hM189⟩ := any_tupE (hS.im (i := 2) rfl) h183
            obtain ⟨u190, hu191, hi192⟩ := atI_im hM189 hx184
            obtain ⟨xs193, h194, hm⟩ := Ml.wp_asTup hm
            obtain ⟨x195, hx195, hm⟩ := wp_idx hm
            obtain ⟨a196, vs197, he198, hg199, hM200⟩ := any_tupE (hS.im (i := 2) rfl) h194
            obtain ⟨u201, hu202, hi203⟩ := atI_im hM200 hx195
            refine ea_to (ea_cons (ev_ixT (ev_is (ev_var rfl) he187) ev_c hg188 hu191) (ea_cons (ev_ixT (ev_is (ev_var rfl) he198) ev_c hg199 hu202) (ea_cons (ev_fz (ev_var rfl)) ea_nil))) ?_
            have hS := hS.addIm (v := u190) (x := (x184 : Any)) hi192
            have hS := hS.addIm (v := u201) (x := (x195 : Any)) hi203
            obtain ⟨s206, hs207, hm⟩ := Ml.wp_asStr hm
            have hv208 := v_str (hS.im (i := 1) rfl) hs207
            subst hv208
            obtain ⟨s209, hs210, hm⟩ := Ml.wp_asStr hm
            have hv211 := v_str (hS.im (i := 0) rfl) hs210
            subst hv211
            refine ⟨a_v_law_folders, (v_law_folders : Folders), s206, s209, p178, (ss179 : (List Str)), star [imA (.str (s209)) (x195 : Any), imA (.str (s206)) (x184 : Any), imA u174 (x168 : Any), imA a_v_law_deed_here (v_law_deed_here : Any), F], rfl, Sep.unstar (M := [FoldersA a_v_law_folders v_law_folders, lstA p178 (ss179 : (List Str))]) (hS.sel [5, 2, 0, 1, 3, 4, 6] (by decide) rfl : Sep H (([FoldersA a_v_law_folders v_law_folders, lstA p178 (ss179 : (List Str))] ++ [imA (.str (s209)) (x195 : Any), imA (.str (s206)) (x184 : Any), imA u174 (x168 : Any), imA a_v_law_deed_here (v_law_deed_here : Any), F] : List (Asn G)))), R.wp_mono (R.wp_bind hm) (fun r212 hm H hS => ?_) (fun x hx H hS => ?_)⟩
            ·
              have hS : Sep H ([FoldersA a_v_law_folders r212, lstA p178 (ss179 : (List Str)), imA (.str (s209)) (x195 : Any), imA (.str (s206)) (x184 : Any), imA u174 (x168 : Any), imA a_v_law_deed_here (v_law_deed_here : Any), F] : List (Asn G)) := Sep.star (M := [FoldersA a_v_law_folders r212, lstA p178 (ss179 : (List Str))]) hS
              refine c_set (σ' := [some (.ref a_v_law_folders), some a_v_law_deed_here, some (.bl (v_law_defaults)), some (.ref p178), some .non]) rfl ?_
              refine sq_nx ?_
              refine f_seq ?_
              refine c_drop ?_
              refine c_bm ?_
              refine ev_to (ev_fz (ev_var rfl)) ⟨tyL hS (i := 1) rfl, ?_⟩
              refine ea_to (ea_cons ev_c ea_nil) ?_
              obtain ⟨h213, hm⟩ := R.wp_need hm
              refine k_append (x := ("zz" : Str)) hS (i := 1) rfl rfl h213 rfl fun H hS => ?_
              refine sq_nx ?_
              refine c_ret ?_
              refine ev_to (ev_var rfl) ?_
              exact hm _ (hS.sel [0, 6] (by decide) rfl)
            ·
              have hS : Sep H ([FoldersA a_v_law_folders v_law_folders, lstA p178 (ss179 : (List Str)), imA (.str (s209)) (x195 : Any), imA (.str (s206)) (x184 : Any), imA u174 (x168 : Any), imA a_v_law_deed_here (v_law_deed_here : Any), F] : List (Asn G)) := Sep.star (M := [FoldersA a_v_law_folders v_law_folders, lstA p178 (ss179 : (List Str))]) hS
              exact hx _ (hS.sel [0, 6] (by decide) rfl)
          · have hm := R.wp_ifN hm (by first | (rw [hb165]; decide) | simpa using hb165)
            refine st_nx ?_
            refine sq_nx ?_
            refine f_seq ?_
            refine f_if ?_
            obtain ⟨xs214, h215, hm⟩ := Ml.wp_asTup hm
            obtain ⟨x216, hx216, hm⟩ := wp_idx hm
            obtain ⟨a217, vs218, he219, hg220, hM221⟩ := any_tupE (hS.im (i := 0) rfl) h215
            obtain ⟨u222, hu223, hi224⟩ := atI_im hM221 hx216
            obtain ⟨b225, hb225, hm⟩ := wp_eqA hm
            refine et_to (et_test (ev_eqA (ev_ixT (ev_is (ev_var rfl) he219) ev_c hg220 hu223) ev_c hi224 (any_str.mpr rfl) hb225)) ?_
            refine ifK_2 (fun hb226 => ?_) (fun hb226 => ?_)
            · have hm := R.wp_ifY hm hb226
              refine c_ret ?_
              refine c_meth ?_
              refine ev_to (ev_var rfl) ?_
              obtain ⟨d227, _, _, _, _, hO228⟩ := ins_Folders hS (i := 1) rfl
              refine ⟨_, _, _, rfl, hO228, rfl, ?_⟩
              obtain ⟨xs229, h230, hm⟩ := Ml.wp_asTup hm
              obtain ⟨x231, hx231, hm⟩ := wp_idx hm
              obtain ⟨a232, vs233, he234, hg235, hM236⟩ := any_tupE (hS.im (i := 0) rfl) h230
              obtain ⟨u237, hu238, hi239⟩ := atI_im hM236 hx231
              refine ea_to (ea_cons (ev_ixT (ev_is (ev_var rfl) he234) ev_c hg235 hu238) ea_nil) ?_
              have hS := hS.addIm (v := u237) (x := (x231 : Any)) hi239
              refine ⟨a_v_law_folders, (v_law_folders : Folders), u237, (x231 : Any), star [imA u237 (x231 : Any), imA a_v_law_deed_here (v_law_deed_here : Any), F], rfl, (hS.im (i := 0) rfl), Sep.unstar (M := [FoldersA a_v_law_folders v_law_folders]) (hS.sel [2, 0, 1, 3] (by decide) rfl : Sep H (([FoldersA a_v_law_folders v_law_folders] ++ [imA u237 (x231 : Any), imA a_v_law_deed_here (v_law_deed_here : Any), F] : List (Asn G)))), R.wp_mono (R.wp_bind hm) (fun r241 hm H hS => ?_) (fun x hx H hS => ?_)⟩
              ·
                have hS : Sep H ([FoldersA a_v_law_folders r241, imA u237 (x231 : Any), imA a_v_law_deed_here (v_law_deed_here : Any), F] : List (Asn G)) := Sep.star (M := [FoldersA a_v_law_folders r241]) hS
                exact hm _ (hS.sel [0, 3] (by decide) rfl)
              ·
                have hS : Sep H ([FoldersA a_v_law_folders v_law_folders, imA u237 (x231 : Any), imA a_v_law_deed_here (v_law_deed_here : Any), F] : List (Asn G)) := Sep.star (M := [FoldersA a_v_law_folders v_law_folders]) hS
                exact hx _ (hS.sel [0, 3] (by decide) rfl)
            · have hm := R.wp_ifN hm (by first | (rw [hb226]; decide) | simpa using hb226)
              refine st_nx ?_
              refine sq_nx ?_
              refine f_seq ?_
              refine f_if ?_
              obtain ⟨xs242, h243, hm⟩ := Ml.wp_asTup hm
              obtain ⟨x244, hx244, hm⟩ := wp_idx hm
              obtain ⟨a245, vs246, he247, hg248, hM249⟩ := any_tupE (hS.im (i := 0) rfl) h243
              obtain ⟨u250, hu251, hi252⟩ := atI_im hM249 hx244
              obtain ⟨b253, hb253, hm⟩ := wp_eqA hm
              refine et_to (et_test (ev_eqA (ev_ixT (ev_is (ev_var rfl) he247) ev_c hg248 hu251) ev_c hi252 (any_str.mpr rfl) hb253)) ?_
              refine ifK_2 (fun hb254 => ?_) (fun hb254 => ?_)
              · have hm := R.wp_ifY hm hb254
                refine c_ret ?_
                refine c_meth ?_
                refine ev_to (ev_var rfl) ?_
                obtain ⟨d255, _, _, _, _, hO256⟩ := ins_Folders hS (i := 1) rfl
                refine ⟨_, _, _, rfl, hO256, rfl, ?_⟩
                obtain ⟨xs257, h258, hm⟩ := Ml.wp_asTup hm
                obtain ⟨x259, hx259, hm⟩ := wp_idx hm
                obtain ⟨a260, vs261, he262, hg263, hM264⟩ := any_tupE (hS.im (i := 0) rfl) h258
                obtain ⟨u265, hu266, hi267⟩ := atI_im hM264 hx259
                obtain ⟨xs268, h269, hm⟩ := Ml.wp_asTup hm
                obtain ⟨x270, hx270, hm⟩ := wp_idx hm
                obtain ⟨a271, vs272, he273, hg274, hM275⟩ := any_tupE (hS.im (i := 0) rfl) h269
                obtain ⟨u276, hu277, hi278⟩ := atI_im hM275 hx270
                refine ea_to (ea_cons (ev_ixT (ev_is (ev_var rfl) he262) ev_c hg263 hu266) (ea_cons (ev_ixT (ev_is (ev_var rfl) he273) ev_c hg274 hu277) ea_nil)) ?_
                have hS := hS.addIm (v := u265) (x := (x259 : Any)) hi267
                have hS := hS.addIm (v := u276) (x := (x270 : Any)) hi278
                obtain ⟨s281, hs282, hm⟩ := Ml.wp_asStr hm
                have hv283 := v_str (hS.im (i := 0) rfl) hs282
                subst hv283
                refine ⟨a_v_law_folders, (v_law_folders : Folders), u265, (x259 : Any), s281, star [imA (.str (s281)) (x270 : Any), imA u265 (x259 : Any), imA a_v_law_deed_here (v_law_deed_here : Any), F], rfl, (hS.im (i := 1) rfl), Sep.unstar (M := [FoldersA a_v_law_folders v_law_folders]) (hS.sel [3, 0, 1, 2, 4] (by decide) rfl : Sep H (([FoldersA a_v_law_folders v_law_folders] ++ [imA (.str (s281)) (x270 : Any), imA u265 (x259 : Any), imA a_v_law_deed_here (v_law_deed_here : Any), F] : List (Asn G)))), R.wp_mono (R.wp_bind hm) (fun r284 hm H hS => ?_) (fun x hx H hS => ?_)⟩
                ·
                  have hS : Sep H ([FoldersA a_v_law_folders r284, imA (.str (s281)) (x270 : Any), imA u265 (x259 : Any), imA a_v_law_deed_here (v_law_deed_here : Any), F] : List (Asn G)) := Sep.star (M := [FoldersA a_v_law_folders r284]) hS
                  exact hm _ (hS.sel [0, 4] (by decide) rfl)
                ·
                  have hS : Sep H ([FoldersA a_v_law_folders v_law_folders, imA (.str (s281)) (x270 : Any), imA u265 (x259 : Any), imA a_v_law_deed_here (v_law_deed_here : Any), F] : List (Asn G)) := Sep.star (M := [FoldersA a_v_law_folders v_law_folders]) hS
                  exact hx _ (hS.sel [0, 4] (by decide) rfl)
              · have hm := R.wp_ifN hm (by first | (rw [hb254]; decide) | simpa using hb254)
                refine st_nx ?_
                refine sq_nx ?_
                refine f_seq ?_
                refine f_if ?_
                obtain ⟨xs285, h286, hm⟩ := Ml.wp_asTup hm
                obtain ⟨x287, hx287, hm⟩ := wp_idx hm
                obtain ⟨a288, vs289, he290, hg291, hM292⟩ := any_tupE (hS.im (i := 0) rfl) h286
                obtain ⟨u293, hu294, hi295⟩ := atI_im hM292 hx287
                obtain ⟨b296, hb296, hm⟩ := wp_eqA hm
                refine et_to (et_test (ev_eqA (ev_ixT (ev_is (ev_var rfl) he290) ev_c hg291 hu294) ev_c hi295 (any_str.mpr rfl) hb296)) ?_
                refine ifK_2 (fun hb297 => ?_) (fun hb297 => ?_)
                · have hm := R.wp_ifY hm hb297
                  refine c_ret ?_
                  refine c_meth ?_
                  refine ev_to (ev_var rfl) ?_
                  obtain ⟨d298, _, _, _, _, hO299⟩ := ins_Folders hS (i := 1) rfl
                  refine ⟨_, _, _, rfl, hO299, rfl, ?_⟩
                  obtain ⟨xs300, h301, hm⟩ := Ml.wp_asTup hm
                  obtain ⟨x302, hx302, hm⟩ := wp_idx hm
                  obtain ⟨a303, vs304, he305, hg306, hM307⟩ := any_tupE (hS.im (i := 0) rfl) h301
                  obtain ⟨u308, hu309, hi310⟩ := atI_im hM307 hx302
                  obtain ⟨xs311, h312, hm⟩ := Ml.wp_asTup hm
                  obtain ⟨x313, hx313, hm⟩ := wp_idx hm
                  obtain ⟨a314, vs315, he316, hg317, hM318⟩ := any_tupE (hS.im (i := 0) rfl) h312
                  obtain ⟨u319, hu320, hi321⟩ := atI_im hM318 hx313
                  refine ea_to (ea_cons (ev_ixT (ev_is (ev_var rfl) he305) ev_c hg306 hu309) (ea_cons (ev_ixT (ev_is (ev_var rfl) he316) ev_c hg317 hu320) ea_nil)) ?_
                  have hS := hS.addIm (v := u308) (x := (x302 : Any)) hi310
                  have hS := hS.addIm (v := u319) (x := (x313 : Any)) hi321
                  obtain ⟨s324, hs325, hm⟩ := Ml.wp_asStr hm
                  have hv326 := v_str (hS.im (i := 0) rfl) hs325
                  subst hv326
                  refine ⟨a_v_law_folders, (v_law_folders : Folders), u308, (x302 : Any), s324, star [imA (.str (s324)) (x313 : Any), imA u308 (x302 : Any), imA a_v_law_deed_here (v_law_deed_here : Any), F], rfl, (hS.im (i := 1) rfl), Sep.unstar (M := [FoldersA a_v_law_folders v_law_folders]) (hS.sel [3, 0, 1, 2, 4] (by decide) rfl : Sep H (([FoldersA a_v_law_folders v_law_folders] ++ [imA (.str (s324)) (x313 : Any), imA u308 (x302 : Any), imA a_v_law_deed_here (v_law_deed_here : Any), F] : List (Asn G)))), R.wp_mono (R.wp_bind hm) (fun r327 hm H hS => ?_) (fun x hx H hS => ?_)⟩
                  ·
                    have hS : Sep H ([FoldersA a_v_law_folders r327, imA (.str (s324)) (x313 : Any), imA u308 (x302 : Any), imA a_v_law_deed_here (v_law_deed_here : Any), F] : List (Asn G)) := Sep.star (M := [FoldersA a_v_law_folders r327]) hS
                    exact hm _ (hS.sel [0, 4] (by decide) rfl)
                  ·
                    have hS : Sep H ([FoldersA a_v_law_folders v_law_folders, imA (.str (s324)) (x313 : Any), imA u308 (x302 : Any), imA a_v_law_deed_here (v_law_deed_here : Any), F] : List (Asn G)) := Sep.star (M := [FoldersA a_v_law_folders v_law_folders]) hS
                    exact hx _ (hS.sel [0, 4] (by decide) rfl)
                · have hm := R.wp_ifN hm (by first | (rw [hb297]; decide) | simpa using hb297)
                  refine st_nx ?_
                  refine sq_nx ?_
                  refine c_ret ?_
                  refine c_meth ?_
                  refine ev_to (ev_var rfl) ?_
                  obtain ⟨d328, _, _, _, _, hO329⟩ := ins_Folders hS (i := 1) rfl
                  refine ⟨_, _, _, rfl, hO329, rfl, ?_⟩
                  obtain ⟨xs330, h331, hm⟩ := Ml.wp_asTup hm
                  obtain ⟨x332, hx332, hm⟩ := wp_idx hm
                  obtain ⟨a333, vs334, he335, hg336, hM337⟩ := any_tupE (hS.im (i := 0) rfl) h331
                  obtain ⟨u338, hu339, hi340⟩ := atI_im hM337 hx332
                  obtain ⟨xs341, h342, hm⟩ := Ml.wp_asTup hm
                  obtain ⟨x343, hx343, hm⟩ := wp_idx hm
                  obtain ⟨a344, vs345, he346, hg347, hM348⟩ := any_tupE (hS.im (i := 0) rfl) h342
                  obtain ⟨u349, hu350, hi351⟩ := atI_im hM348 hx343
                  refine ea_to (ea_cons (ev_ixT (ev_is (ev_var rfl) he335) ev_c hg336 hu339) (ea_cons (ev_ixT (ev_is (ev_var rfl) he346) ev_c hg347 hu350) ea_nil)) ?_
                  have hS := hS.addIm (v := u338) (x := (x332 : Any)) hi340
                  have hS := hS.addIm (v := u349) (x := (x343 : Any)) hi351
                  obtain ⟨s354, hs355, hm⟩ := Ml.wp_asStr hm
                  have hv356 := v_str (hS.im (i := 0) rfl) hs355
                  subst hv356
                  refine ⟨a_v_law_folders, (v_law_folders : Folders), u338, (x332 : Any), s354, star [imA (.str (s354)) (x343 : Any), imA u338 (x332 : Any), imA a_v_law_deed_here (v_law_deed_here : Any), F], rfl, (hS.im (i := 1) rfl), Sep.unstar (M := [FoldersA a_v_law_folders v_law_folders]) (hS.sel [3, 0, 1, 2, 4] (by decide) rfl : Sep H (([FoldersA a_v_law_folders v_law_folders] ++ [imA (.str (s354)) (x343 : Any), imA u338 (x332 : Any), imA a_v_law_deed_here (v_law_deed_here : Any), F] : List (Asn G)))), R.wp_mono (R.wp_bind hm) (fun r357 hm H hS => ?_) (fun x hx H hS => ?_)⟩
                  ·
                    have hS : Sep H ([FoldersA a_v_law_folders r357, imA (.str (s354)) (x343 : Any), imA u338 (x332 : Any), imA a_v_law_deed_here (v_law_deed_here : Any), F] : List (Asn G)) := Sep.star (M := [FoldersA a_v_law_folders r357]) hS
                    exact hm _ (hS.sel [0, 4] (by decide) rfl)
                  ·
                    have hS : Sep H ([FoldersA a_v_law_folders v_law_folders, imA (.str (s354)) (x343 : Any), imA u338 (x332 : Any), imA a_v_law_deed_here (v_law_deed_here : Any), F] : List (Asn G)) := Sep.star (M := [FoldersA a_v_law_folders v_law_folders]) hS
                    exact hx _ (hS.sel [0, 4] (by decide) rfl)
def sp_law_some (G : Gx) : Sp := fun vs H Q E => ∃ (v_law_base : Int) (F : Asn G), vs = [(.int (v_law_base))] ∧ Sep H ([F] : List (Asn G)) ∧ R.wp (m_law_some v_law_base) (fun r => ∀ p H', Sep H' ([lstA p (r : (List (List Str))), F] : List (Asn G)) → Q (.ref p) H') (fun _ => False)
abbrev N_law_some : List Str := ["_law_base", "_law_turn", "_law_folders", "_law_marks"]
theorem sc_law_some : FnScope N_law_some ["_law_base"] (defScope s_law_some) := ⟨rfl, rfl, rfl, by decide +kernel, rfl, by decide +kernel, by decide +kernel⟩
theorem ok_law_some (T : Txt G mg) : FnOk P w G.K mg base CX0 2 T.a_law_some T.fd_law_some ["_law_base"] (sp_law_some G) := by
  have nd := sc_law_some.nd
  refine Fun.ok T.F_law_some sc_law_some (fun vs H Q E h => ?_) (fun cdv A outer s H vs Q E hr h => ?_)
  · obtain ⟨v_law_base, F, rfl, _⟩ := h; rfl
  · obtain ⟨v_law_base, F, rfl, hS, hm⟩ := h
    refine ⟨_, (pss_cons (ps_set (i := 2) nd rfl (Or.inl rfl) (pe_fz (pe_op op_catR (pe_fz (pe_lst (pa_cons pe_str pa_nil))) (pe_fz (pe_lc (own := [("_law_turn", 1)]) (g := gName 1) rfl nd (pi_range1 rfl T.z_range (pa_cons pe_int pa_nil)) (blkOk_by (own := [("_law_turn", 1)]) (N := N_law_some) (sc := defScope s_law_some) (by decide +kernel)) (fun _ _ _ _ _ => pg_name (i := 1) nd rfl (Or.inl rfl)) (fun _ _ _ _ _ => pts_nil) (fun _ _ _ _ _ => (pe_call (ok_law_word T) (hr.mono (by decide)) rfl T.g_law_word T.kp_law_word T.b_law_word .nil pass0 (pa_cons (pe_op op_fdiv (pv 0) pe_int) (pa_cons (pv 1) pa_nil)))))))))
      (pss_cons (ps_set (i := 3) nd rfl (Or.inl rfl) (pe_fz (pe_op op_catR (pe_fz (pe_lst (pa_cons pe_str (pa_cons pe_str pa_nil)))) (pe_fz (pe_lc (own := [("_law_turn", 1)]) (g := gName 1) rfl nd (pi_range1 rfl T.z_range (pa_cons pe_int pa_nil)) (blkOk_by (own := [("_law_turn", 1)]) (N := N_law_some) (sc := defScope s_law_some) (by decide +kernel)) (fun _ _ _ _ _ => pg_name (i := 1) nd rfl (Or.inl rfl)) (fun _ _ _ _ _ => pts_nil) (fun _ _ _ _ _ => (pe_call (ok_law_word T) (hr.mono (by decide)) rfl T.g_law_word T.kp_law_word T.b_law_word .nil pass0 (pa_cons (pe_op op_fdiv (pv 0) pe_int) (pa_cons (pv 1) pa_nil)))))))))
      (pss_one (ps_ret (pe_fz (pe_lst (pa_cons (pe_fz (pe_lc (own := [("_law_turn", 1)]) (g := gName 1) rfl nd (pi_range1 rfl T.z_range (pa_cons pe_int pa_nil)) (blkOk_by (own := [("_law_turn", 1)]) (N := N_law_some) (sc := defScope s_law_some) (by decide +kernel)) (fun _ _ _ _ _ => pg_name (i := 1) nd rfl (Or.inl rfl)) (fun _ _ _ _ _ => pts_nil) (fun _ _ _ _ _ => (pe_call (ok_law_word T) (hr.mono (by decide)) rfl T.g_law_word T.kp_law_word T.b_law_word .nil pass0 (pa_cons (pv 0) (pa_cons (pv 1) pa_nil)))))) (pa_cons (pe_fz (pv 2)) (pa_cons (pe_fz (pv 3)) pa_nil))))))))), ?_⟩
    unfold m_law_some at hm
    refine f_seq ?_
    refine c_asg ?_
    refine c_fz ?_
    refine c_op ?_
    refine c_fz ?_
    refine c_lst ?_
    refine ea_to (ea_cons ev_c ea_nil) ?_
    refine k_lst (α := Str) (vs := [(.str (("inbox" : Str)))]) (xs := [("inbox" : Str)]) hS ⟨rfl, True.intro⟩ (by show 1 ≤ sizeLine; decide) fun p1 H hS => ?_
    refine fz_no ?_
    refine c_fz ?_
    refine c_lc ?_
    refine c_rng1 ?_
    refine ea_to (ea_cons ev_c ea_nil) ?_
    refine k_rng1 (by decide) (by decide) ?_
    refine lc_sep (β := Str) (fun (_ : Unit) => ([lstA p1 ([("inbox" : Str)] : (List Str)), F] : List (Asn G))) (s := ()) (im := (fun _ v (x : Int) => v = .int x)) hS (fun _ _ _ => wk_range) (by rw [rngL_len]; decide) hm (fun p2 _ ys5 x3 v4 H q Nx hS hx hm kS kN => ?_) (fun p2 t H hm hS => ?_)
    ·
      cases hx
      refine c_gLc (σ' := [some (.int (v_law_base)), some (.int (x3)), none, none]) rfl rfl ?_
      refine c_yes ?_
      refine c_call ?_
      refine ea_to (ea_cons (ev_fdiv (ev_var rfl) ev_c ⟨by decide, by decide⟩) (ea_cons (ev_var rfl) ea_nil)) ?_
      refine ⟨(v_law_base / 7), x3, star [lstA p2 (ys5 : List Str), lstA p1 ([("inbox" : Str)] : (List Str)), F], rfl, Sep.unstar (M := []) (hS.sel [0, 1, 2] (by decide) rfl : Sep H (([] ++ [lstA p2 (ys5 : List Str), lstA p1 ([("inbox" : Str)] : (List Str)), F] : List (Asn G)))), R.wp_mono (R.wp_bind hm) (fun r6 hm H hS => ?_) (fun _ z => z)⟩
      have hS : Sep H ([lstA p2 (ys5 : List Str), lstA p1 ([("inbox" : Str)] : (List Str)), F] : List (Asn G)) := Sep.star (M := []) hS
      exact kS () _ _ _ hm rfl (hS.sel [0, 1, 2] (by decide) rfl)
    · revert hm hS; generalize t = t7; intro hm hS
      refine fz_no ?_
      obtain ⟨h8, hm⟩ := R.wp_need hm
      refine k_catG hS (hS.rdL (i := 1) rfl) (hS.rdL (i := 0) rfl) h8 fun p9 H hS => ?_
      refine fz_no ?_
      obtain ⟨y10, hy10, hm⟩ := wp_let hm
      have hS : Sep H ([lstA p9 (y10 : (List Str)), lstA p2 (t7.2 : (List Str)), lstA p1 ([("inbox" : Str)] : (List Str)), F] : List (Asn G)) := by rw [← hy10]; exact hS
      refine c_set (σ' := [some (.int (v_law_base)), none, some (.ref p9), none]) rfl ?_
      refine sq_nx ?_
      refine f_seq ?_
      refine c_asg ?_
      refine c_fz ?_
      refine c_op ?_
      refine c_fz ?_
      refine c_lst ?_
      refine ea_to (ea_cons ev_c (ea_cons ev_c ea_nil)) ?_
      refine k_lst (α := Str) (vs := [(.str (("seen" : Str))), (.str (("seen" : Str)))]) (xs := [("seen" : Str), ("seen" : Str)]) hS ⟨rfl, ⟨rfl, True.intro⟩⟩ (by show 2 ≤ sizeLine; decide) fun p11 H hS => ?_
      refine fz_no ?_
      refine c_fz ?_
      refine c_lc ?_
      refine c_rng1 ?_
      refine ea_to (ea_cons ev_c ea_nil) ?_
      refine k_rng1 (by decide) (by decide) ?_
      refine lc_sep (β := Str) (fun (_ : Unit) => ([lstA p11 ([("seen" : Str), ("seen" : Str)] : (List Str)), lstA p9 (y10 : (List Str)), lstA p2 (t7.2 : (List Str)), lstA p1 ([("inbox" : Str)] : (List Str)), F] : List (Asn G))) (s := ()) (im := (fun _ v (x : Int) => v = .int x)) hS (fun _ _ _ => wk_range) (by rw [rngL_len]; decide) hm (fun p12 _ ys15 x13 v14 H q Nx hS hx hm kS kN => ?_) (fun p12 t H hm hS => ?_)
      ·
        cases hx
        refine c_gLc (σ' := [some (.int (v_law_base)), some (.int (x13)), some (.ref p9), none]) rfl rfl ?_
        refine c_yes ?_
        refine c_call ?_
        refine ea_to (ea_cons (ev_fdiv (ev_var rfl) ev_c ⟨by decide, by decide⟩) (ea_cons (ev_var rfl) ea_nil)) ?_
        refine ⟨(v_law_base / 5), x13, star [lstA p12 (ys15 : List Str), lstA p11 ([("seen" : Str), ("seen" : Str)] : (List Str)), lstA p9 (y10 : (List Str)), lstA p2 (t7.2 : (List Str)), lstA p1 ([("inbox" : Str)] : (List Str)), F], rfl, Sep.unstar (M := []) (hS.sel [0, 1, 2, 3, 4, 5] (by decide) rfl : Sep H (([] ++ [lstA p12 (ys15 : List Str), lstA p11 ([("seen" : Str), ("seen" : Str)] : (List Str)), lstA p9 (y10 : (List Str)), lstA p2 (t7.2 : (List Str)), lstA p1 ([("inbox" : Str)] : (List Str)), F] : List (Asn G)))), R.wp_mono (R.wp_bind hm) (fun r16 hm H hS => ?_) (fun _ z => z)⟩
        have hS : Sep H ([lstA p12 (ys15 : List Str), lstA p11 ([("seen" : Str), ("seen" : Str)] : (List Str)), lstA p9 (y10 : (List Str)), lstA p2 (t7.2 : (List Str)), lstA p1 ([("inbox" : Str)] : (List Str)), F] : List (Asn G)) := Sep.star (M := []) hS
        exact kS () _ _ _ hm rfl (hS.sel [0, 1, 2, 3, 4, 5] (by decide) rfl)
      · revert hm hS; generalize t = t17; intro hm hS
        refine fz_no ?_
        obtain ⟨h18, hm⟩ := R.wp_need hm
        refine k_catG hS (hS.rdL (i := 1) rfl) (hS.rdL (i := 0) rfl) h18 fun p19 H hS => ?_
        refine fz_no ?_
        obtain ⟨y20, hy20, hm⟩ := wp_let hm
        have hS : Sep H ([lstA p19 (y20 : (List Str)), lstA p12 (t17.2 : (List Str)), lstA p11 ([("seen" : Str), ("seen" : Str)] : (List Str)), lstA p9 (y10 : (List Str)), lstA p2 (t7.2 : (List Str)), lstA p1 ([("inbox" : Str)] : (List Str)), F] : List (Asn G)) := by rw [← hy20]; exact hS
        refine c_set (σ' := [some (.int (v_law_base)), none, some (.ref p9), some (.ref p19)]) rfl ?_
        refine sq_nx ?_
        refine c_ret ?_
        refine c_fz ?_
        refine c_lst ?_
        refine c_cons ?_
        refine c_fz ?_
        refine c_lc ?_
        refine c_rng1 ?_
        refine ea_to (ea_cons ev_c ea_nil) ?_
        refine k_rng1 (by decide) (by decide) ?_
        refine lc_sep (β := Str) (fun (_ : Unit) => ([lstA p19 (y20 : (List Str)), lstA p12 (t17.2 : (List Str)), lstA p11 ([("seen" : Str), ("seen" : Str)] : (List Str)), lstA p9 (y10 : (List Str)), lstA p2 (t7.2 : (List Str)), lstA p1 ([("inbox" : Str)] : (List Str)), F] : List (Asn G))) (s := ()) (im := (fun _ v (x : Int) => v = .int x)) hS (fun _ _ _ => wk_range) (by rw [rngL_len]; decide) hm (fun p21 _ ys24 x22 v23 H q Nx hS hx hm kS kN => ?_) (fun p21 t H hm hS => ?_)
        ·
          cases hx
          refine c_gLc (σ' := [some (.int (v_law_base)), some (.int (x22)), some (.ref p9), some (.ref p19)]) rfl rfl ?_
          refine c_yes ?_
          refine c_call ?_
          refine ea_to (ea_cons (ev_var rfl) (ea_cons (ev_var rfl) ea_nil)) ?_
          refine ⟨v_law_base, x22, star [lstA p21 (ys24 : List Str), lstA p19 (y20 : (List Str)), lstA p12 (t17.2 : (List Str)), lstA p11 ([("seen" : Str), ("seen" : Str)] : (List Str)), lstA p9 (y10 : (List Str)), lstA p2 (t7.2 : (List Str)), lstA p1 ([("inbox" : Str)] : (List Str)), F], rfl, Sep.unstar (M := []) (hS.sel [0, 1, 2, 3, 4, 5, 6, 7] (by decide) rfl : Sep H (([] ++ [lstA p21 (ys24 : List Str), lstA p19 (y20 : (List Str)), lstA p12 (t17.2 : (List Str)), lstA p11 ([("seen" : Str), ("seen" : Str)] : (List Str)), lstA p9 (y10 : (List Str)), lstA p2 (t7.2 : (List Str)), lstA p1 ([("inbox" : Str)] : (List Str)), F] : List (Asn G)))), R.wp_mono (R.wp_bind hm) (fun r25 hm H hS => ?_) (fun _ z => z)⟩
          have hS : Sep H ([lstA p21 (ys24 : List Str), lstA p19 (y20 : (List Str)), lstA p12 (t17.2 : (List Str)), lstA p11 ([("seen" : Str), ("seen" : Str)] : (List Str)), lstA p9 (y10 : (List Str)), lstA p2 (t7.2 : (List Str)), lstA p1 ([("inbox" : Str)] : (List Str)), F] : List (Asn G)) := Sep.star (M := []) hS
          exact kS () _ _ _ hm rfl (hS.sel [0, 1, 2, 3, 4, 5, 6, 7] (by decide) rfl)
        · revert hm hS; generalize t = t26; intro hm hS
          refine fz_yes (xs := (t26.2 : (List Str))) hS (i := 0) rfl fun H hS => ?_
          have hS : Sep H ([imA (.ref p21) (t26.2 : (List Str)), lstA p19 (y20 : (List Str)), lstA p12 (t17.2 : (List Str)), lstA p11 ([("seen" : Str), ("seen" : Str)] : (List Str)), lstA p9 (y10 : (List Str)), lstA p2 (t7.2 : (List Str)), lstA p1 ([("inbox" : Str)] : (List Str)), F] : List (Asn G)) := hS
          refine c_cons ?_
          refine c_fz ?_
          refine ev_to (ev_var rfl) ?_
          refine fz_yes (xs := (y10 : (List Str))) hS (i := 4) rfl fun H hS => ?_
          have hS : Sep H ([imA (.ref p9) (y10 : (List Str)), imA (.ref p21) (t26.2 : (List Str)), lstA p19 (y20 : (List Str)), lstA p12 (t17.2 : (List Str)), lstA p11 ([("seen" : Str), ("seen" : Str)] : (List Str)), lstA p2 (t7.2 : (List Str)), lstA p1 ([("inbox" : Str)] : (List Str)), F] : List (Asn G)) := hS
          refine c_cons ?_
          refine c_fz ?_
          refine ev_to (ev_var rfl) ?_
          refine fz_yes (xs := (y20 : (List Str))) hS (i := 2) rfl fun H hS => ?_
          have hS : Sep H ([imA (.ref p19) (y20 : (List Str)), imA (.ref p9) (y10 : (List Str)), imA (.ref p21) (t26.2 : (List Str)), lstA p12 (t17.2 : (List Str)), lstA p11 ([("seen" : Str), ("seen" : Str)] : (List Str)), lstA p2 (t7.2 : (List Str)), lstA p1 ([("inbox" : Str)] : (List Str)), F] : List (Asn G)) := hS
          refine c_nil ?_
          refine k_lst (α := (List Str)) (vs := [(.ref p21), (.ref p9), (.ref p19)]) (xs := [t26.2, y10, y20]) hS ⟨(hS.im (i := 2) rfl), ⟨(hS.im (i := 1) rfl), ⟨(hS.im (i := 0) rfl), True.intro⟩⟩⟩ (by show 3 ≤ sizeLine; decide) fun p30 H hS => ?_
          refine fz_no ?_
          exact hm _ _ (hS.sel [0, 8] (by decide) rfl)
def sp_law_of_one_class (G : Gx) (p : Addr × Obj) : Sp := fun vs H Q E => ∃ (v_law_e : Exc) (F : Asn G), vs = [.ref p.1] ∧ ExB G [0, 1, 2, 3, 4, 5, 6] p v_law_e ∧ Sep H ([F] : List (Asn G)) ∧ R.wp (m_law_of_one_class v_law_e) (fun r => ∀ H', Sep H' ([F] : List (Asn G)) → Q (.bl (r)) H') (fun _ => False)
abbrev N_law_of_one_class : List Str := ["_law_e", "_law_found"]
theorem sc_law_of_one_class : FnScope N_law_of_one_class ["_law_e"] (defScope s_law_of_one_class) := ⟨rfl, rfl, rfl, by decide +kernel, rfl, by decide +kernel, by decide +kernel⟩
theorem ok_law_of_one_class (T : Txt G mg) : FnE P w G.K mg base 1 T.a_law_of_one_class T.fd_law_of_one_class ["_law_e"] (sp_law_of_one_class G) := by
  have nd := sc_law_of_one_class.nd
  refine Fun.okE T.F_law_of_one_class sc_law_of_one_class (fun p vs H Q E h => ?_) (fun cdv A outer s H vs Q E p hr h => ?_)
  · obtain ⟨v_law_e, F, rfl, _⟩ := h; rfl
  · obtain ⟨v_law_e, F, rfl, him_v_law_e, hS, hm⟩ := h
    refine ⟨_, (pss_cons (ps_set (i := 1) nd rfl (Or.inl rfl) (pe_fz (pe_lst (pa_cons (pe_callB (call_isP G.K (p := p) (by show _ ∈ [_]; exact List.mem_singleton.mpr rfl) (T.ec_ him_v_law_e.2.2) him_v_law_e.1 him_v_law_e.2.1) (by rfl) T.z_isinstance (by decide +kernel) (pa_cons (pv 0) (pa_cons (pe_glob (v := .ref (G.cl 1)) rfl T.g_NoWord rfl) pa_nil))) (pa_cons (pe_callB (call_isP G.K (p := p) (by show _ ∈ [_]; exact List.mem_singleton.mpr rfl) (T.ec_ him_v_law_e.2.2) him_v_law_e.1 him_v_law_e.2.1) (by rfl) T.z_isinstance (by decide +kernel) (pa_cons (pv 0) (pa_cons (pe_glob (v := .ref (G.cl 2)) rfl T.g_NoLetter rfl) pa_nil))) (pa_cons (pe_callB (call_isP G.K (p := p) (by show _ ∈ [_]; exact List.mem_singleton.mpr rfl) (T.ec_ him_v_law_e.2.2) him_v_law_e.1 him_v_law_e.2.1) (by rfl) T.z_isinstance (by decide +kernel) (pa_cons (pv 0) (pa_cons (pe_glob (v := .ref (G.cl 3)) rfl T.g_NoRule rfl) pa_nil))) (pa_cons (pe_callB (call_isP G.K (p := p) (by show _ ∈ [_]; exact List.mem_singleton.mpr rfl) (T.ec_ him_v_law_e.2.2) him_v_law_e.1 him_v_law_e.2.1) (by rfl) T.z_isinstance (by decide +kernel) (pa_cons (pv 0) (pa_cons (pe_glob (v := .ref (G.cl 4)) rfl T.g_NoName rfl) pa_nil))) pa_nil)))))))
      (pss_cons (ps_set (i := 1) nd rfl (Or.inl rfl) (pe_fz (pe_op op_catR (pe_fz (pv 1)) (pe_fz (pe_lst (pa_cons (pe_callB (call_isP G.K (p := p) (by show _ ∈ [_]; exact List.mem_singleton.mpr rfl) (T.ec_ him_v_law_e.2.2) him_v_law_e.1 him_v_law_e.2.1) (by rfl) T.z_isinstance (by decide +kernel) (pa_cons (pv 0) (pa_cons (pe_glob (v := .ref (G.cl 5)) rfl T.g_NoParcel rfl) pa_nil))) (pa_cons (pe_callB (call_isP G.K (p := p) (by show _ ∈ [_]; exact List.mem_singleton.mpr rfl) (T.ec_ him_v_law_e.2.2) him_v_law_e.1 him_v_law_e.2.1) (by rfl) T.z_isinstance (by decide +kernel) (pa_cons (pv 0) (pa_cons (pe_glob (v := .ref (G.cl 6)) rfl T.g_NoRow rfl) pa_nil))) pa_nil)))))))
      (pss_one (ps_ret (pe_and (pe_callB (call_isP G.K (p := p) (by show _ ∈ [_]; exact List.mem_singleton.mpr rfl) (T.ec_ him_v_law_e.2.2) him_v_law_e.1 him_v_law_e.2.1) (by rfl) T.z_isinstance (by decide +kernel) (pa_cons (pv 0) (pa_cons (pe_bltn (v := .ty "ValueError") (by rfl) T.z_ValueError (by decide +kernel) rfl) pa_nil))) (pe_one (pe_cmpR op_eq (pe_bmK G.K PySem.F.plainAttrs_list PySem.F.slot_list_count PySem.F.type_list_count (mt_countK G.K (huH hr)) (pe_fz (pv 1)) (pa_cons pe_bl pa_nil)) pe_int (nomark _)))))))), ?_⟩
    unfold m_law_of_one_class at hm
    refine f_seq ?_
    refine c_asg ?_
    refine c_fz ?_
    refine c_lst ?_
    refine ea_to (ea_cons (ev_isX (ev_var rfl) ev_c (.own _) (T.ki_NoWord him_v_law_e.2.2)) (ea_cons (ev_isX (ev_var rfl) ev_c (.own _) (T.ki_NoLetter him_v_law_e.2.2)) (ea_cons (ev_isX (ev_var rfl) ev_c (.own _) (T.ki_NoRule him_v_law_e.2.2)) (ea_cons (ev_isX (ev_var rfl) ev_c (.own _) (T.ki_NoName him_v_law_e.2.2)) ea_nil)))) ?_
    refine k_lst (α := Bool) (vs := [(.bl (([1] : List Nat).contains v_law_e.cls)), (.bl (([2] : List Nat).contains v_law_e.cls)), (.bl (([3] : List Nat).contains v_law_e.cls)), (.bl (([4] : List Nat).contains v_law_e.cls))]) (xs := [([1] : List Nat).contains v_law_e.cls, ([2] : List Nat).contains v_law_e.cls, ([3] : List Nat).contains v_law_e.cls, ([4] : List Nat).contains v_law_e.cls]) hS ⟨rfl, ⟨rfl, ⟨rfl, ⟨rfl, True.intro⟩⟩⟩⟩ (by show 4 ≤ sizeLine; decide) fun p1 H hS => ?_
    refine fz_no ?_
    obtain ⟨y2, hy2, hm⟩ := wp_let hm
    have hS : Sep H ([lstA p1 (y2 : (List Bool)), F] : List (Asn G)) := by rw [← hy2]; exact hS
    refine c_set (σ' := [some (.ref p.1), some (.ref p1)]) rfl ?_
    refine sq_nx ?_
    refine f_seq ?_
    refine c_asg ?_
    refine c_fz ?_
    refine c_op ?_
    refine ev_to (ev_fz (ev_var rfl)) ?_
    refine c_fz ?_
    refine c_lst ?_
    refine ea_to (ea_cons (ev_isX (ev_var rfl) ev_c (.own _) (T.ki_NoParcel him_v_law_e.2.2)) (ea_cons (ev_isX (ev_var rfl) ev_c (.own _) (T.ki_NoRow him_v_law_e.2.2)) ea_nil)) ?_
    refine k_lst (α := Bool) (vs := [(.bl (([5] : List Nat).contains v_law_e.cls)), (.bl (([6] : List Nat).contains v_law_e.cls))]) (xs := [([5] : List Nat).contains v_law_e.cls, ([6] : List Nat).contains v_law_e.cls]) hS ⟨rfl, ⟨rfl, True.intro⟩⟩ (by show 2 ≤ sizeLine; decide) fun p3 H hS => ?_
    refine fz_no ?_
    obtain ⟨h4, hm⟩ := R.wp_need hm
    refine k_catG hS (hS.rdL (i := 1) rfl) (hS.rdL (i := 0) rfl) h4 fun p5 H hS => ?_
    refine fz_no ?_
    obtain ⟨y6, hy6, hm⟩ := wp_let hm
    have hS : Sep H ([lstA p5 (y6 : (List Bool)), lstA p3 ([([5] : List Nat).contains v_law_e.cls, ([6] : List Nat).contains v_law_e.cls] : (List Bool)), lstA p1 (y2 : (List Bool)), F] : List (Asn G)) := by rw [← hy6]; exact hS
    refine c_set (σ' := [some (.ref p.1), some (.ref p5)]) rfl ?_
    refine sq_nx ?_
    refine c_ret ?_
    refine f_andV ?_
    refine ev_to (ev_isX (ev_var rfl) ev_c (.ty _) (T.ki_ValueError him_v_law_e.2.2)) ?_
    refine andVK_J hm hS (fun hb q hm nx => ?_) (fun b7 H hm hS => ?_)
    ·
      refine c_op ?_
      refine c_bm ?_
      refine ev_to (ev_fz (ev_var rfl)) ⟨tyL hS (i := 0) rfl, ?_⟩
      refine ea_to (ea_cons ev_c ea_nil) ?_
      obtain ⟨h8, hm⟩ := R.wp_need hm
      obtain ⟨h9, hm⟩ := R.wp_need hm
      refine k_count (xs := (y6 : (List Bool))) (x := true) (dpOwn hS (i := 0) rfl) (.bl _) h8 h9 (Nat.le_of_ble_eq_true rfl) (Nat.le_of_ble_eq_true rfl) ?_
      refine ev_to ev_c ?_
      refine ev_op2 (ev_eqI ev_c ev_c) ?_
      exact nx _ _ hm (hS.sel [0, 1, 2, 3] (by decide) rfl)
    ·
      exact hm _ (hS.sel [3] (by decide) rfl)
def sp_law_asked (G : Gx) : Sp := fun vs H Q E => ∃ (a_v_law_folders : Addr) (v_law_folders : Folders) (v_law_way : Int) (v_law_name : Str) (a_v_law_some_here : Addr) (v_law_some_here : (List (List Str))) (v_law_number : Int) (F : Asn G), vs = [.ref a_v_law_folders, (.int (v_law_way)), (.str (v_law_name)), .ref a_v_law_some_here, (.int (v_law_number))] ∧ Sep H ([FoldersA a_v_law_folders v_law_folders, lstA a_v_law_some_here (v_law_some_here : (List (List Str))), F] : List (Asn G)) ∧ R.wp (m_law_asked v_law_folders v_law_way v_law_name v_law_some_here v_law_number) (fun r => ∀ (p : V) H', Sep H' ([imA p (r.1 : Opq), FoldersA a_v_law_folders r.2, lstA a_v_law_some_here (v_law_some_here : (List (List Str))), F] : List (Asn G)) → Q p H') (fun x => ∀ H', Sep H' ([FoldersA a_v_law_folders v_law_folders, lstA a_v_law_some_here (v_law_some_here : (List (List Str))), F] : List (Asn G)) → Eok G x E H')
abbrev N_law_asked : List Str := ["_law_folders", "_law_way", "_law_name", "_law_some_here", "_law_number"]
theorem sc_law_asked : FnScope N_law_asked ["_law_folders", "_law_way", "_law_name", "_law_some_here", "_law_number"] (defScope s_law_asked) := ⟨rfl, rfl, rfl, by decide +kernel, rfl, by decide +kernel, by decide +kernel⟩
theorem ok_law_asked (T : Txt G mg) : FnOk P w G.K mg base (L2.CX P w) 4 T.a_law_asked T.fd_law_asked ["_law_folders", "_law_way", "_law_name", "_law_some_here", "_law_number"] (sp_law_asked G) := by
  have nd := sc_law_asked.nd
  refine Fun.okX T.F_law_asked sc_law_asked (fun vs H Q E h => ?_) (fun cdv A outer s H vs Q E hr h => ?_)
  · obtain ⟨a_v_law_folders, v_law_folders, v_law_way, v_law_name, a_v_law_some_here, v_law_some_here, v_law_number, F, rfl, _⟩ := h; rfl
  · obtain ⟨a_v_law_folders, v_law_folders, v_law_way, v_law_name, a_v_law_some_here, v_law_some_here, v_law_number, F, rfl, hS, hm⟩ := h
    refine ⟨_, (pss_cons (ps_if (pt_cmpR op_eq (pv 1) pe_int (nomark _)) (pss_one (ps_ret (pe_meth (pv 0) T.cl_Folders T.m_Folders_add (ok_Folders_add_L T) (hr.mono (by decide)) T.b_Folders_add .nil (passes_call (takes_of rfl rfl rfl rfl) (fun _ _ _ _ h => h)) (pa_cons (pv 2) (pa_cons (pe_ix (ix_listK G.K) (pe_ix (ix_listK G.K) (pe_fz (pv 3)) pe_int (fun _ _ => rfl)) (pe_op op_mod (pv 4) pe_int) (fun _ _ => rfl)) (pa_cons (pe_fz (pe_lst (pa_cons (pe_ix (ix_listK G.K) (pe_ix (ix_listK G.K) (pe_fz (pv 3)) pe_int (fun _ _ => rfl)) (pe_op op_mod (pe_op op_fdiv (pv 4) pe_int) pe_int) (fun _ _ => rfl)) pa_nil))) pa_nil)))))) pss_nil)
      (pss_cons (ps_if (pt_cmpR op_eq (pv 1) pe_int (nomark _)) (pss_one (ps_ret (pe_meth (pv 0) T.cl_Folders T.m_Folders_take_out (ok_Folders_take_out T) (hr.mono (by decide)) T.b_Folders_take_out .nil (passes_call (takes_of rfl rfl rfl rfl) (fun _ _ _ _ h => h)) (pa_cons (pv 2) pa_nil)))) pss_nil)
      (pss_cons (ps_if (pt_cmpR op_eq (pv 1) pe_int (nomark _)) (pss_one (ps_ret (pe_meth (pv 0) T.cl_Folders T.m_Folders_place (ok_Folders_place T) (hr.mono (by decide)) T.b_Folders_place .nil (passes_call (takes_of rfl rfl rfl rfl) (fun _ _ _ _ h => h)) (pa_cons (pv 2) (pa_cons (pe_ix (ix_listK G.K) (pe_ix (ix_listK G.K) (pe_fz (pv 3)) pe_int (fun _ _ => rfl)) (pe_op op_mod (pv 4) pe_int) (fun _ _ => rfl)) pa_nil))))) pss_nil)
      (pss_cons (ps_if (pt_cmpR op_eq (pv 1) pe_int (nomark _)) (pss_one (ps_ret (pe_meth (pv 0) T.cl_Folders T.m_Folders_mark (ok_Folders_mark T) (hr.mono (by decide)) T.b_Folders_mark .nil (passes_call (takes_of rfl rfl rfl rfl) (fun _ _ _ _ h => h)) (pa_cons (pv 2) (pa_cons (pe_ix (ix_listK G.K) (pe_ix (ix_listK G.K) (pe_fz (pv 3)) pe_int (fun _ _ => rfl)) (pe_op op_mod (pv 4) pe_int) (fun _ _ => rfl)) pa_nil))))) pss_nil)
      (pss_cons (ps_if (pt_cmpR op_eq (pv 1) pe_int (nomark _)) (pss_one (ps_ret (pe_meth (pv 0) T.cl_Folders T.m_Folders_unmark (ok_Folders_unmark T) (hr.mono (by decide)) T.b_Folders_unmark .nil (passes_call (takes_of rfl rfl rfl rfl) (fun _ _ _ _ h => h)) (pa_cons (pv 2) (pa_cons (pe_ix (ix_listK G.K) (pe_ix (ix_listK G.K) (pe_fz (pv 3)) pe_int (fun _ _ => rfl)) (pe_op op_mod (pv 4) pe_int) (fun _ _ => rfl)) pa_nil))))) pss_nil)
      (pss_cons (ps_if (pt_cmpR op_eq (pv 1) pe_int (nomark _)) (pss_one (ps_ret (pe_meth (pv 0) T.cl_Folders T.m_Folders_folder (ok_Folders_folder T) (hr.mono (by decide)) T.b_Folders_folder .nil (passes_call (takes_of rfl rfl rfl rfl) (fun _ _ _ _ h => h)) (pa_cons (pv 2) pa_nil)))) pss_nil)
      (pss_cons (ps_if (pt_cmpR op_eq (pv 1) pe_int (nomark _)) (pss_one (ps_ret (pe_meth (pv 0) T.cl_Folders T.m_Folders_add (ok_Folders_add T) (hr.mono (by decide)) (T.bd_Folders_add_2).2 (T.bd_Folders_add_2).1 (passes_call (takes_of rfl rfl rfl rfl) (fun _ _ _ _ h => h)) (pa_cons (pv 2) pa_nil)))) pss_nil)
      (pss_one (ps_ret (pe_fz (pe_meth (pv 0) T.cl_Folders T.m_Folders_marks (ok_Folders_marks T) (hr.mono (by decide)) T.b_Folders_marks .nil (passes_call (takes_of rfl rfl rfl rfl) (fun _ _ _ _ h => h)) (pa_cons (pv 2) pa_nil)))))))))))), ?_⟩
    unfold m_law_asked at hm
    refine f_seq ?_
    refine f_if ?_
    refine et_to (et_test (ev_eqI (ev_var rfl) ev_c)) ?_
    refine ifK_2 (fun hb1 => ?_) (fun hb1 => ?_)
    · have hm := R.wp_ifY hm hb1
      refine c_ret ?_
      refine c_meth ?_
      refine ev_to (ev_var rfl) ?_
      obtain ⟨d2, _, _, _, _, hO3⟩ := ins_Folders hS (i := 0) rfl
      refine ⟨_, _, _, rfl, hO3, rfl, ?_⟩
      refine c_cons ?_
      refine ev_to (ev_var rfl) ?_
      refine c_cons ?_
      obtain ⟨x4, hx4, hm⟩ := wp_idx hm
      obtain ⟨vs5, hq6, hM7⟩ := hS.sq (i := 1) rfl
      obtain ⟨u8, hu9, hi10⟩ := atI_im hM7 hx4
      obtain ⟨a11, rfl⟩ := isref hi10
      obtain ⟨x12, hx12, hm⟩ := wp_idx hm
      refine ev_to (ev_ixSq (ev_ixSq (ev_fz (ev_var rfl)) ev_c hq6 hu9) (ev_mod (ev_var rfl) ev_c (by decide)) (imPlF hi10) (atI_map hx12)) ?_
      refine c_cons ?_
      refine c_fz ?_
      refine c_lst ?_
      obtain ⟨x13, hx13, hm⟩ := wp_idx hm
      obtain ⟨vs14, hq15, hM16⟩ := hS.sq (i := 1) rfl
      obtain ⟨u17, hu18, hi19⟩ := atI_im hM16 hx13
      obtain ⟨a20, rfl⟩ := isref hi19
      obtain ⟨x21, hx21, hm⟩ := wp_idx hm
      refine ea_to (ea_cons (ev_ixSq (ev_ixSq (ev_fz (ev_var rfl)) ev_c hq15 hu18) (ev_mod (ev_fdiv (ev_var rfl) ev_c ⟨by decide, by decide⟩) ev_c (by decide)) (imPlF hi19) (atI_map hx21)) ea_nil) ?_
      refine k_lst (α := Str) (vs := [(.str (x21))]) (xs := [x21]) hS ⟨rfl, True.intro⟩ (by show 1 ≤ sizeLine; decide) fun p22 H hS => ?_
      refine fz_no ?_
      refine c_nil ?_
      refine ⟨a_v_law_folders, (v_law_folders : Folders), v_law_name, x12, p22, ([x21] : (List Str)), star [lstA a_v_law_some_here (v_law_some_here : (List (List Str))), F], rfl, Sep.unstar (M := [FoldersA a_v_law_folders v_law_folders, lstA p22 ([x21] : (List Str))]) (hS.sel [1, 0, 2, 3] (by decide) rfl : Sep H (([FoldersA a_v_law_folders v_law_folders, lstA p22 ([x21] : (List Str))] ++ [lstA a_v_law_some_here (v_law_some_here : (List (List Str))), F] : List (Asn G)))), R.wp_mono (R.wp_bind hm) (fun r23 hm H hS => ?_) (fun x hx H hS => ?_)⟩
      ·
        have hS : Sep H ([FoldersA a_v_law_folders r23, lstA p22 ([x21] : (List Str)), lstA a_v_law_some_here (v_law_some_here : (List (List Str))), F] : List (Asn G)) := Sep.star (M := [FoldersA a_v_law_folders r23, lstA p22 ([x21] : (List Str))]) hS
        have hS := hS.addIm (v := .non) (x := (Opq.mk : Opq)) opq_i
        exact hm _ _ (hS.sel [0, 1, 3, 4] (by decide) rfl)
      ·
        have hS : Sep H ([FoldersA a_v_law_folders v_law_folders, lstA p22 ([x21] : (List Str)), lstA a_v_law_some_here (v_law_some_here : (List (List Str))), F] : List (Asn G)) := Sep.star (M := [FoldersA a_v_law_folders v_law_folders, lstA p22 ([x21] : (List Str))]) hS
        exact hx _ (hS.sel [0, 2, 3] (by decide) rfl)
    · have hm := R.wp_ifN hm (by first | (rw [hb1]; decide) | simpa using hb1)
      refine st_nx ?_
      refine sq_nx ?_
      refine f_seq ?_
      refine f_if ?_
      refine et_to (et_test (ev_eqI (ev_var rfl) ev_c)) ?_
      refine ifK_2 (fun hb25 => ?_) (fun hb25 => ?_)
      · have hm := R.wp_ifY hm hb25
        refine c_ret ?_
        refine c_meth ?_
        refine ev_to (ev_var rfl) ?_
        obtain ⟨d26, _, _, _, _, hO27⟩ := ins_Folders hS (i := 0) rfl
        refine ⟨_, _, _, rfl, hO27, rfl, ?_⟩
        refine ea_to (ea_cons (ev_var rfl) ea_nil) ?_
        refine ⟨a_v_law_folders, (v_law_folders : Folders), v_law_name, star [lstA a_v_law_some_here (v_law_some_here : (List (List Str))), F], rfl, Sep.unstar (M := [FoldersA a_v_law_folders v_law_folders]) (hS.sel [0, 1, 2] (by decide) rfl : Sep H (([FoldersA a_v_law_folders v_law_folders] ++ [lstA a_v_law_some_here (v_law_some_here : (List (List Str))), F] : List (Asn G)))), R.wp_mono (R.wp_bind hm) (fun r28 hm H hS => ?_) (fun x hx H hS => ?_)⟩
        ·
          have hS : Sep H ([FoldersA a_v_law_folders r28, lstA a_v_law_some_here (v_law_some_here : (List (List Str))), F] : List (Asn G)) := Sep.star (M := [FoldersA a_v_law_folders r28]) hS
          have hS := hS.addIm (v := .non) (x := (Opq.mk : Opq)) opq_i
          exact hm _ _ (hS.sel [0, 1, 2, 3] (by decide) rfl)
        ·
          have hS : Sep H ([FoldersA a_v_law_folders v_law_folders, lstA a_v_law_some_here (v_law_some_here : (List (List Str))), F] : List (Asn G)) := Sep.star (M := [FoldersA a_v_law_folders v_law_folders]) hS
          exact hx _ (hS.sel [0, 1, 2] (by decide) rfl)
      · have hm := R.wp_ifN hm (by first | (rw [hb25]; decide) | simpa using hb25)
        refine st_nx ?_
        refine sq_nx ?_
        refine f_seq ?_
        refine f_if ?_
        refine et_to (et_test (ev_eqI (ev_var rfl) ev_c)) ?_
        refine ifK_2 (fun hb30 => ?_) (fun hb30 => ?_)
        · have hm := R.wp_ifY hm hb30
          refine c_ret ?_
          refine c_meth ?_
          refine ev_to (ev_var rfl) ?_
          obtain ⟨d31, _, _, _, _, hO32⟩ := ins_Folders hS (i := 0) rfl
          refine ⟨_, _, _, rfl, hO32, rfl, ?_⟩
          obtain ⟨x33, hx33, hm⟩ := wp_idx hm
          obtain ⟨vs34, hq35, hM36⟩ := hS.sq (i := 1) rfl
          obtain ⟨u37, hu38, hi39⟩ := atI_im hM36 hx33
          obtain ⟨a40, rfl⟩ := isref hi39
          obtain ⟨x41, hx41, hm⟩ := wp_idx hm
          refine ea_to (ea_cons (ev_var rfl) (ea_cons (ev_ixSq (ev_ixSq (ev_fz (ev_var rfl)) ev_c hq35 hu38) (ev_mod (ev_var rfl) ev_c (by decide)) (imPlF hi39) (atI_map hx41)) ea_nil)) ?_
          refine ⟨a_v_law_folders, (v_law_folders : Folders), v_law_name, x41, star [lstA a_v_law_some_here (v_law_some_here : (List (List Str))), F], rfl, Sep.unstar (M := [FoldersA a_v_law_folders v_law_folders]) (hS.sel [0, 1, 2] (by decide) rfl : Sep H (([FoldersA a_v_law_folders v_law_folders] ++ [lstA a_v_law_some_here (v_law_some_here : (List (List Str))), F] : List (Asn G)))), R.wp_mono (R.wp_bind hm) (fun r42 hm H hS => ?_) (fun x hx H hS => ?_)⟩
          ·
            have hS : Sep H ([FoldersA a_v_law_folders r42, lstA a_v_law_some_here (v_law_some_here : (List (List Str))), F] : List (Asn G)) := Sep.star (M := [FoldersA a_v_law_folders r42]) hS
            have hS := hS.addIm (v := .non) (x := (Opq.mk : Opq)) opq_i
            exact hm _ _ (hS.sel [0, 1, 2, 3] (by decide) rfl)
          ·
            have hS : Sep H ([FoldersA a_v_law_folders v_law_folders, lstA a_v_law_some_here (v_law_some_here : (List (List Str))), F] : List (Asn G)) := Sep.star (M := [FoldersA a_v_law_folders v_law_folders]) hS
            exact hx _ (hS.sel [0, 1, 2] (by decide) rfl)
        · have hm := R.wp_ifN hm (by first | (rw [hb30]; decide) | simpa using hb30)
          refine st_nx ?_
          refine sq_nx ?_
          refine f_seq ?_
          refine f_if ?_
          refine et_to (et_test (ev_eqI (ev_var rfl) ev_c)) ?_
          refine ifK_2 (fun hb44 => ?_) (fun hb44 => ?_)
          · have hm := R.wp_ifY hm hb44
            refine c_ret ?_
            refine c_meth ?_
            refine ev_to (ev_var rfl) ?_
            obtain ⟨d45, _, _, _, _, hO46⟩ := ins_Folders hS (i := 0) rfl
            refine ⟨_, _, _, rfl, hO46, rfl, ?_⟩
            obtain ⟨x47, hx47, hm⟩ := wp_idx hm
            obtain ⟨vs48, hq49, hM50⟩ := hS.sq (i := 1) rfl
            obtain ⟨u51, hu52, hi53⟩ := atI_im hM50 hx47
            obtain ⟨a54, rfl⟩ := isref hi53
            obtain ⟨x55, hx55, hm⟩ := wp_idx hm
            refine ea_to (ea_cons (ev_var rfl) (ea_cons (ev_ixSq (ev_ixSq (ev_fz (ev_var rfl)) ev_c hq49 hu52) (ev_mod (ev_var rfl) ev_c (by decide)) (imPlF hi53) (atI_map hx55)) ea_nil)) ?_
            refine ⟨a_v_law_folders, (v_law_folders : Folders), v_law_name, x55, star [lstA a_v_law_some_here (v_law_some_here : (List (List Str))), F], rfl, Sep.unstar (M := [FoldersA a_v_law_folders v_law_folders]) (hS.sel [0, 1, 2] (by decide) rfl : Sep H (([FoldersA a_v_law_folders v_law_folders] ++ [lstA a_v_law_some_here (v_law_some_here : (List (List Str))), F] : List (Asn G)))), R.wp_mono (R.wp_bind hm) (fun r56 hm H hS => ?_) (fun x hx H hS => ?_)⟩
            ·
              have hS : Sep H ([FoldersA a_v_law_folders r56, lstA a_v_law_some_here (v_law_some_here : (List (List Str))), F] : List (Asn G)) := Sep.star (M := [FoldersA a_v_law_folders r56]) hS
              have hS := hS.addIm (v := .non) (x := (Opq.mk : Opq)) opq_i
              exact hm _ _ (hS.sel [0, 1, 2, 3] (by decide) rfl)
            ·
              have hS : Sep H ([FoldersA a_v_law_folders v_law_folders, lstA a_v_law_some_here (v_law_some_here : (List (List Str))), F] : List (Asn G)) := Sep.star (M := [FoldersA a_v_law_folders v_law_folders]) hS
              exact hx _ (hS.sel [0, 1, 2] (by decide) rfl)
          · have hm := R.wp_ifN hm (by first | (rw [hb44]; decide) | simpa using hb44)
            refine st_nx ?_
            refine sq_nx ?_
            refine f_seq ?_
            refine f_if ?_
            refine et_to (et_test (ev_eqI (ev_var rfl) ev_c)) ?_
            refine ifK_2 (fun hb58 => ?_) (fun hb58 => ?_)
            · have hm := R.wp_ifY hm hb58
              refine c_ret ?_
              refine c_meth ?_
              refine ev_to (ev_var rfl) ?_
              obtain ⟨d59, _, _, _, _, hO60⟩ := ins_Folders hS (i := 0) rfl
              refine ⟨_, _, _, rfl, hO60, rfl, ?_⟩
              obtain ⟨x61, hx61, hm⟩ := wp_idx hm
              obtain ⟨vs62, hq63, hM64⟩ := hS.sq (i := 1) rfl
              obtain ⟨u65, hu66, hi67⟩ := atI_im hM64 hx61
              obtain ⟨a68, rfl⟩ := isref hi67
              obtain ⟨x69, hx69, hm⟩ := wp_idx hm
              refine ea_to (ea_cons (ev_var rfl) (ea_cons (ev_ixSq (ev_ixSq (ev_fz (ev_var rfl)) ev_c hq63 hu66) (ev_mod (ev_var rfl) ev_c (by decide)) (imPlF hi67) (atI_map hx69)) ea_nil)) ?_
              refine ⟨a_v_law_folders, (v_law_folders : Folders), v_law_name, x69, star [lstA a_v_law_some_here (v_law_some_here : (List (List Str))), F], rfl, Sep.unstar (M := [FoldersA a_v_law_folders v_law_folders]) (hS.sel [0, 1, 2] (by decide) rfl : Sep H (([FoldersA a_v_law_folders v_law_folders] ++ [lstA a_v_law_some_here (v_law_some_here : (List (List Str))), F] : List (Asn G)))), R.wp_mono (R.wp_bind hm) (fun r70 hm H hS => ?_) (fun x hx H hS => ?_)⟩
              ·
                have hS : Sep H ([FoldersA a_v_law_folders r70, lstA a_v_law_some_here (v_law_some_here : (List (List Str))), F] : List (Asn G)) := Sep.star (M := [FoldersA a_v_law_folders r70]) hS
                have hS := hS.addIm (v := .non) (x := (Opq.mk : Opq)) opq_i
                exact hm _ _ (hS.sel [0, 1, 2, 3] (by decide) rfl)
              ·
                have hS : Sep H ([FoldersA a_v_law_folders v_law_folders, lstA a_v_law_some_here (v_law_some_here : (List (List Str))), F] : List (Asn G)) := Sep.star (M := [FoldersA a_v_law_folders v_law_folders]) hS
                exact hx _ (hS.sel [0, 1, 2] (by decide) rfl)
            · have hm := R.wp_ifN hm (by first | (rw [hb58]; decide) | simpa using hb58)
              refine st_nx ?_
              refine sq_nx ?_
              refine f_seq ?_
              refine f_if ?_
              refine et_to (et_test (ev_eqI (ev_var rfl) ev_c)) ?_
              refine ifK_2 (fun hb72 => ?_) (fun hb72 => ?_)
              · have hm := R.wp_ifY hm hb72
                refine c_ret ?_
                refine c_meth ?_
                refine ev_to (ev_var rfl) ?_
                obtain ⟨d73, _, _, _, _, hO74⟩ := ins_Folders hS (i := 0) rfl
                refine ⟨_, _, _, rfl, hO74, rfl, ?_⟩
                refine ea_to (ea_cons (ev_var rfl) ea_nil) ?_
                refine ⟨a_v_law_folders, (v_law_folders : Folders), v_law_name, star [lstA a_v_law_some_here (v_law_some_here : (List (List Str))), F], rfl, Sep.unstar (M := [FoldersA a_v_law_folders v_law_folders]) (hS.sel [0, 1, 2] (by decide) rfl : Sep H (([FoldersA a_v_law_folders v_law_folders] ++ [lstA a_v_law_some_here (v_law_some_here : (List (List Str))), F] : List (Asn G)))), R.wp_mono (R.wp_bind hm) (fun r75 hm H hS => ?_) (fun x hx H hS => ?_)⟩
                ·
                  have hS : Sep H ([FoldersA a_v_law_folders v_law_folders, lstA a_v_law_some_here (v_law_some_here : (List (List Str))), F] : List (Asn G)) := Sep.star (M := [FoldersA a_v_law_folders v_law_folders]) hS
                  have hS := hS.addIm (v := (.str (r75))) (x := (Opq.mk : Opq)) opq_i
                  exact hm _ _ (hS.sel [0, 1, 2, 3] (by decide) rfl)
                ·
                  have hS : Sep H ([FoldersA a_v_law_folders v_law_folders, lstA a_v_law_some_here (v_law_some_here : (List (List Str))), F] : List (Asn G)) := Sep.star (M := [FoldersA a_v_law_folders v_law_folders]) hS
                  exact hx _ (hS.sel [0, 1, 2] (by decide) rfl)
              · have hm := R.wp_ifN hm (by first | (rw [hb72]; decide) | simpa using hb72)
                refine st_nx ?_
                refine sq_nx ?_
                refine f_seq ?_
                refine f_if ?_
                refine et_to (et_test (ev_eqI (ev_var rfl) ev_c)) ?_
                refine ifK_2 (fun hb77 => ?_) (fun hb77 => ?_)
                · have hm := R.wp_ifY hm hb77
                  refine c_ret ?_
                  refine c_meth ?_
                  refine ev_to (ev_var rfl) ?_
                  obtain ⟨d78, _, _, _, _, hO79⟩ := ins_Folders hS (i := 0) rfl
                  refine ⟨_, _, _, rfl, hO79, rfl, ?_⟩
                  refine ea_to (ea_cons (ev_var rfl) ea_nil) ?_
                  refine ⟨a_v_law_folders, (v_law_folders : Folders), v_law_name, ("inbox" : Str), .non, (Any.non : Any), star [lstA a_v_law_some_here (v_law_some_here : (List (List Str))), F], rfl, (any_non.mpr rfl), Sep.unstar (M := [FoldersA a_v_law_folders v_law_folders]) (hS.sel [0, 1, 2] (by decide) rfl : Sep H (([FoldersA a_v_law_folders v_law_folders] ++ [lstA a_v_law_some_here (v_law_some_here : (List (List Str))), F] : List (Asn G)))), R.wp_mono (R.wp_bind hm) (fun r80 hm H hS => ?_) (fun x hx H hS => ?_)⟩
                  ·
                    have hS : Sep H ([FoldersA a_v_law_folders r80, lstA a_v_law_some_here (v_law_some_here : (List (List Str))), F] : List (Asn G)) := Sep.star (M := [FoldersA a_v_law_folders r80]) hS
                    have hS := hS.addIm (v := .non) (x := (Opq.mk : Opq)) opq_i
                    exact hm _ _ (hS.sel [0, 1, 2, 3] (by decide) rfl)
                  ·
                    have hS : Sep H ([FoldersA a_v_law_folders v_law_folders, lstA a_v_law_some_here (v_law_some_here : (List (List Str))), F] : List (Asn G)) := Sep.star (M := [FoldersA a_v_law_folders v_law_folders]) hS
                    exact hx _ (hS.sel [0, 1, 2] (by decide) rfl)
                · have hm := R.wp_ifN hm (by first | (rw [hb77]; decide) | simpa using hb77)
                  refine st_nx ?_
                  refine sq_nx ?_
                  refine c_ret ?_
                  refine c_fz ?_
                  refine c_meth ?_
                  refine ev_to (ev_var rfl) ?_
                  obtain ⟨d82, _, _, _, _, hO83⟩ := ins_Folders hS (i := 0) rfl
                  refine ⟨_, _, _, rfl, hO83, rfl, ?_⟩
                  refine ea_to (ea_cons (ev_var rfl) ea_nil) ?_
                  refine ⟨a_v_law_folders, (v_law_folders : Folders), v_law_name, star [lstA a_v_law_some_here (v_law_some_here : (List (List Str))), F], rfl, Sep.unstar (M := [FoldersA a_v_law_folders v_law_folders]) (hS.sel [0, 1, 2] (by decide) rfl : Sep H (([FoldersA a_v_law_folders v_law_folders] ++ [lstA a_v_law_some_here (v_law_some_here : (List (List Str))), F] : List (Asn G)))), R.wp_mono (R.wp_bind hm) (fun r84 hm p85 H hS => ?_) (fun x hx H hS => ?_)⟩
                  ·
                    have hS : Sep H ([lstA p85 (r84 : (List Str)), FoldersA a_v_law_folders v_law_folders, lstA a_v_law_some_here (v_law_some_here : (List (List Str))), F] : List (Asn G)) := Sep.star (M := [lstA p85 (r84 : (List Str)), FoldersA a_v_law_folders v_law_folders]) hS
                    refine fz_no ?_
                    have hS := hS.addIm (v := (.ref p85)) (x := (Opq.mk : Opq)) opq_i
                    exact hm _ _ (hS.sel [0, 2, 3, 4] (by decide) rfl)
                  ·
                    have hS : Sep H ([FoldersA a_v_law_folders v_law_folders, lstA a_v_law_some_here (v_law_some_here : (List (List Str))), F] : List (Asn G)) := Sep.star (M := [FoldersA a_v_law_folders v_law_folders]) hS
                    exact hx _ (hS.sel [0, 1, 2] (by decide) rfl)
def sp_law_asked_A (G : Gx) : Sp := fun vs H Q E => ∃ (a_v_law_folders : Addr) (v_law_folders : Folders) (v_law_way : Int) (a_v_law_name : V) (v_law_name : Any) (a_v_law_some_here : Addr) (v_law_some_here : (List (List Str))) (v_law_number : Int) (F : Asn G), vs = [.ref a_v_law_folders, (.int (v_law_way)), a_v_law_name, .ref a_v_law_some_here, (.int (v_law_number))] ∧ Im.im G H a_v_law_name v_law_name ∧ Sep H ([FoldersA a_v_law_folders v_law_folders, lstA a_v_law_some_here (v_law_some_here : (List (List Str))), F] : List (Asn G)) ∧ R.wp (m_law_asked_A v_law_folders v_law_way v_law_name v_law_some_here v_law_number) (fun r => ∀ (p : V) H', Sep H' ([imA p (r.1 : Opq), FoldersA a_v_law_folders r.2, lstA a_v_law_some_here (v_law_some_here : (List (List Str))), F] : List (Asn G)) → Q p H') (fun x => ∀ H', Sep H' ([FoldersA a_v_law_folders v_law_folders, lstA a_v_law_some_here (v_law_some_here : (List (List Str))), F] : List (Asn G)) → Eok G x E H')
abbrev N_law_asked_A : List Str := ["_law_folders", "_law_way", "_law_name", "_law_some_here", "_law_number"]
theorem sc_law_asked_A : FnScope N_law_asked_A ["_law_folders", "_law_way", "_law_name", "_law_some_here", "_law_number"] (defScope s_law_asked) := ⟨rfl, rfl, rfl, by decide +kernel, rfl, by decide +kernel, by decide +kernel⟩
theorem ok_law_asked_A (T : Txt G mg) : FnOk P w G.K mg base (L2.CX P w) 4 T.a_law_asked T.fd_law_asked ["_law_folders", "_law_way", "_law_name", "_law_some_here", "_law_number"] (sp_law_asked_A G) := by
  have nd := sc_law_asked_A.nd
  refine Fun.okX T.F_law_asked sc_law_asked_A (fun vs H Q E h => ?_) (fun cdv A outer s H vs Q E hr h => ?_)
  · obtain ⟨a_v_law_folders, v_law_folders, v_law_way, a_v_law_name, v_law_name, a_v_law_some_here, v_law_some_here, v_law_number, F, rfl, _⟩ := h; rfl
  · obtain ⟨a_v_law_folders, v_law_folders, v_law_way, a_v_law_name, v_law_name, a_v_law_some_here, v_law_some_here, v_law_number, F, rfl, him_v_law_name, hS, hm⟩ := h
    have hS := hS.addIm him_v_law_name
    refine ⟨_, (pss_cons (ps_if (pt_cmpR op_eq (pv 1) pe_int (nomark _)) (pss_one (ps_ret (pe_meth (pv 0) T.cl_Folders T.m_Folders_add (ok_Folders_add_L T) (hr.mono (by decide)) T.b_Folders_add .nil (passes_call (takes_of rfl rfl rfl rfl) (fun _ _ _ _ h => h)) (pa_cons (pv 2) (pa_cons (pe_ix (ix_listK G.K) (pe_ix (ix_listK G.K) (pe_fz (pv 3)) pe_int (fun _ _ => rfl)) (pe_op op_mod (pv 4) pe_int) (fun _ _ => rfl)) (pa_cons (pe_fz (pe_lst (pa_cons (pe_ix (ix_listK G.K) (pe_ix (ix_listK G.K) (pe_fz (pv 3)) pe_int (fun _ _ => rfl)) (pe_op op_mod (pe_op op_fdiv (pv 4) pe_int) pe_int) (fun _ _ => rfl)) pa_nil))) pa_nil)))))) pss_nil)
      (pss_cons (ps_if (pt_cmpR op_eq (pv 1) pe_int (nomark _)) (pss_one (ps_ret (pe_meth (pv 0) T.cl_Folders T.m_Folders_take_out (ok_Folders_take_out_A T) (hr.mono (by decide)) T.b_Folders_take_out .nil (passes_call (takes_of rfl rfl rfl rfl) (fun _ _ _ _ h => h)) (pa_cons (pv 2) pa_nil)))) pss_nil)
      (pss_cons (ps_if (pt_cmpR op_eq (pv 1) pe_int (nomark _)) (pss_one (ps_ret (pe_meth (pv 0) T.cl_Folders T.m_Folders_place (ok_Folders_place_A T) (hr.mono (by decide)) T.b_Folders_place .nil (passes_call (takes_of rfl rfl rfl rfl) (fun _ _ _ _ h => h)) (pa_cons (pv 2) (pa_cons (pe_ix (ix_listK G.K) (pe_ix (ix_listK G.K) (pe_fz (pv 3)) pe_int (fun _ _ => rfl)) (pe_op op_mod (pv 4) pe_int) (fun _ _ => rfl)) pa_nil))))) pss_nil)
      (pss_cons (ps_if (pt_cmpR op_eq (pv 1) pe_int (nomark _)) (pss_one (ps_ret (pe_meth (pv 0) T.cl_Folders T.m_Folders_mark (ok_Folders_mark_A T) (hr.mono (by decide)) T.b_Folders_mark .nil (passes_call (takes_of rfl rfl rfl rfl) (fun _ _ _ _ h => h)) (pa_cons (pv 2) (pa_cons (pe_ix (ix_listK G.K) (pe_ix (ix_listK G.K) (pe_fz (pv 3)) pe_int (fun _ _ => rfl)) (pe_op op_mod (pv 4) pe_int) (fun _ _ => rfl)) pa_nil))))) pss_nil)
      (pss_cons (ps_if (pt_cmpR op_eq (pv 1) pe_int (nomark _)) (pss_one (ps_ret (pe_meth (pv 0) T.cl_Folders T.m_Folders_unmark (ok_Folders_unmark_A T) (hr.mono (by decide)) T.b_Folders_unmark .nil (passes_call (takes_of rfl rfl rfl rfl) (fun _ _ _ _ h => h)) (pa_cons (pv 2) (pa_cons (pe_ix (ix_listK G.K) (pe_ix (ix_listK G.K) (pe_fz (pv 3)) pe_int (fun _ _ => rfl)) (pe_op op_mod (pv 4) pe_int) (fun _ _ => rfl)) pa_nil))))) pss_nil)
      (pss_cons (ps_if (pt_cmpR op_eq (pv 1) pe_int (nomark _)) (pss_one (ps_ret (pe_meth (pv 0) T.cl_Folders T.m_Folders_folder (ok_Folders_folder_A T) (hr.mono (by decide)) T.b_Folders_folder .nil (passes_call (takes_of rfl rfl rfl rfl) (fun _ _ _ _ h => h)) (pa_cons (pv 2) pa_nil)))) pss_nil)
      (pss_cons (ps_if (pt_cmpR op_eq (pv 1) pe_int (nomark _)) (pss_one (ps_ret (pe_meth (pv 0) T.cl_Folders T.m_Folders_add (ok_Folders_add T) (hr.mono (by decide)) (T.bd_Folders_add_2).2 (T.bd_Folders_add_2).1 (passes_call (takes_of rfl rfl rfl rfl) (fun _ _ _ _ h => h)) (pa_cons (pv 2) pa_nil)))) pss_nil)
      (pss_one (ps_ret (pe_fz (pe_meth (pv 0) T.cl_Folders T.m_Folders_marks (ok_Folders_marks_A T) (hr.mono (by decide)) T.b_Folders_marks .nil (passes_call (takes_of rfl rfl rfl rfl) (fun _ _ _ _ h => h)) (pa_cons (pv 2) pa_nil)))))))))))), ?_⟩
    unfold m_law_asked_A at hm
    refine f_seq ?_
    refine f_if ?_
    refine et_to (et_test (ev_eqI (ev_var rfl) ev_c)) ?_
    refine ifK_2 (fun hb1 => ?_) (fun hb1 => ?_)
    · have hm := R.wp_ifY hm hb1
      refine c_ret ?_
      refine c_meth ?_
      refine ev_to (ev_var rfl) ?_
      obtain ⟨d2, _, _, _, _, hO3⟩ := ins_Folders hS (i := 1) rfl
      refine ⟨_, _, _, rfl, hO3, rfl, ?_⟩
      refine c_cons ?_
      refine ev_to (ev_var rfl) ?_
      refine c_cons ?_
      obtain ⟨x4, hx4, hm⟩ := wp_idx hm
      obtain ⟨vs5, hq6, hM7⟩ := hS.sq (i := 2) rfl
      obtain ⟨u8, hu9, hi10⟩ := atI_im hM7 hx4
      obtain ⟨a11, rfl⟩ := isref hi10
      obtain ⟨x12, hx12, hm⟩ := wp_idx hm
      refine ev_to (ev_ixSq (ev_ixSq (ev_fz (ev_var rfl)) ev_c hq6 hu9) (ev_mod (ev_var rfl) ev_c (by decide)) (imPlF hi10) (atI_map hx12)) ?_
      refine c_cons ?_
      refine c_fz ?_
      refine c_lst ?_
      obtain ⟨x13, hx13, hm⟩ := wp_idx hm
      obtain ⟨vs14, hq15, hM16⟩ := hS.sq (i := 2) rfl
      obtain ⟨u17, hu18, hi19⟩ := atI_im hM16 hx13
      obtain ⟨a20, rfl⟩ := isref hi19
      obtain ⟨x21, hx21, hm⟩ := wp_idx hm
      refine ea_to (ea_cons (ev_ixSq (ev_ixSq (ev_fz (ev_var rfl)) ev_c hq15 hu18) (ev_mod (ev_fdiv (ev_var rfl) ev_c ⟨by decide, by decide⟩) ev_c (by decide)) (imPlF hi19) (atI_map hx21)) ea_nil) ?_
      refine k_lst (α := Str) (vs := [(.str (x21))]) (xs := [x21]) hS ⟨rfl, True.intro⟩ (by show 1 ≤ sizeLine; decide) fun p22 H hS => ?_
      refine fz_no ?_
      refine c_nil ?_
      obtain ⟨s23, hs24, hm⟩ := Ml.wp_asStr hm
      have hv25 := v_str (hS.im (i := 1) rfl) hs24
      subst hv25
      refine ⟨a_v_law_folders, (v_law_folders : Folders), s23, x12, p22, ([x21] : (List Str)), star [imA (.str (s23)) (v_law_name : Any), lstA a_v_law_some_here (v_law_some_here : (List (List Str))), F], rfl, Sep.unstar (M := [FoldersA a_v_law_folders v_law_folders, lstA p22 ([x21] : (List Str))]) (hS.sel [2, 0, 1, 3, 4] (by decide) rfl : Sep H (([FoldersA a_v_law_folders v_law_folders, lstA p22 ([x21] : (List Str))] ++ [imA (.str (s23)) (v_law_name : Any), lstA a_v_law_some_here (v_law_some_here : (List (List Str))), F] : List (Asn G)))), R.wp_mono (R.wp_bind hm) (fun r26 hm H hS => ?_) (fun x hx H hS => ?_)⟩
      ·
        have hS : Sep H ([FoldersA a_v_law_folders r26, lstA p22 ([x21] : (List Str)), imA (.str (s23)) (v_law_name : Any), lstA a_v_law_some_here (v_law_some_here : (List (List Str))), F] : List (Asn G)) := Sep.star (M := [FoldersA a_v_law_folders r26, lstA p22 ([x21] : (List Str))]) hS
        have hS := hS.addIm (v := .non) (x := (Opq.mk : Opq)) opq_i
        exact hm _ _ (hS.sel [0, 1, 4, 5] (by decide) rfl)
      ·
        have hS : Sep H ([FoldersA a_v_law_folders v_law_folders, lstA p22 ([x21] : (List Str)), imA (.str (s23)) (v_law_name : Any), lstA a_v_law_some_here (v_law_some_here : (List (List Str))), F] : List (Asn G)) := Sep.star (M := [FoldersA a_v_law_folders v_law_folders, lstA p22 ([x21] : (List Str))]) hS
        exact hx _ (hS.sel [0, 3, 4] (by decide) rfl)
    · have hm := R.wp_ifN hm (by first | (rw [hb1]; decide) | simpa using hb1)
      refine st_nx ?_
      refine sq_nx ?_
      refine f_seq ?_
      refine f_if ?_
      refine et_to (et_test (ev_eqI (ev_var rfl) ev_c)) ?_
      refine ifK_2 (fun hb28 => ?_) (fun hb28 => ?_)
      · have hm := R.wp_ifY hm hb28
        refine c_ret ?_
        refine c_meth ?_
        refine ev_to (ev_var rfl) ?_
        obtain ⟨d29, _, _, _, _, hO30⟩ := ins_Folders hS (i := 1) rfl
        refine ⟨_, _, _, rfl, hO30, rfl, ?_⟩
        refine ea_to (ea_cons (ev_var rfl) ea_nil) ?_
        refine ⟨a_v_law_folders, (v_law_folders : Folders), a_v_law_name, (v_law_name : Any), star [imA a_v_law_name (v_law_name : Any), lstA a_v_law_some_here (v_law_some_here : (List (List Str))), F], rfl, (hS.im (i := 0) rfl), Sep.unstar (M := [FoldersA a_v_law_folders v_law_folders]) (hS.sel [1, 0, 2, 3] (by decide) rfl : Sep H (([FoldersA a_v_law_folders v_law_folders] ++ [imA a_v_law_name (v_law_name : Any), lstA a_v_law_some_here (v_law_some_here : (List (List Str))), F] : List (Asn G)))), R.wp_mono (R.wp_bind hm) (fun r31 hm H hS => ?_) (fun x hx H hS => ?_)⟩
        ·
          have hS : Sep H ([FoldersA a_v_law_folders r31, imA a_v_law_name (v_law_name : Any), lstA a_v_law_some_here (v_law_some_here : (List (List Str))), F] : List (Asn G)) := Sep.star (M := [FoldersA a_v_law_folders r31]) hS
          have hS := hS.addIm (v := .non) (x := (Opq.mk : Opq)) opq_i
          exact hm _ _ (hS.sel [0, 1, 3, 4] (by decide) rfl)
        ·
          have hS : Sep H ([FoldersA a_v_law_folders v_law_folders, imA a_v_law_name (v_law_name : Any), lstA a_v_law_some_here (v_law_some_here : (List (List Str))), F] : List (Asn G)) := Sep.star (M := [FoldersA a_v_law_folders v_law_folders]) hS
          exact hx _ (hS.sel [0, 2, 3] (by decide) rfl)
      · have hm := R.wp_ifN hm (by first | (rw [hb28]; decide) | simpa using hb28)
        refine st_nx ?_
        refine sq_nx ?_
        refine f_seq ?_
        refine f_if ?_
        refine et_to (et_test (ev_eqI (ev_var rfl) ev_c)) ?_
        refine ifK_2 (fun hb33 => ?_) (fun hb33 => ?_)
        · have hm := R.wp_ifY hm hb33
          refine c_ret ?_
          refine c_meth ?_
          refine ev_to (ev_var rfl) ?_
          obtain ⟨d34, _, _, _, _, hO35⟩ := ins_Folders hS (i := 1) rfl
          refine ⟨_, _, _, rfl, hO35, rfl, ?_⟩
          obtain ⟨x36, hx36, hm⟩ := wp_idx hm
          obtain ⟨vs37, hq38, hM39⟩ := hS.sq (i := 2) rfl
          obtain ⟨u40, hu41, hi42⟩ := atI_im hM39 hx36
          obtain ⟨a43, rfl⟩ := isref hi42
          obtain ⟨x44, hx44, hm⟩ := wp_idx hm
          refine ea_to (ea_cons (ev_var rfl) (ea_cons (ev_ixSq (ev_ixSq (ev_fz (ev_var rfl)) ev_c hq38 hu41) (ev_mod (ev_var rfl) ev_c (by decide)) (imPlF hi42) (atI_map hx44)) ea_nil)) ?_
          refine ⟨a_v_law_folders, (v_law_folders : Folders), a_v_law_name, (v_law_name : Any), x44, star [imA a_v_law_name (v_law_name : Any), lstA a_v_law_some_here (v_law_some_here : (List (List Str))), F], rfl, (hS.im (i := 0) rfl), Sep.unstar (M := [FoldersA a_v_law_folders v_law_folders]) (hS.sel [1, 0, 2, 3] (by decide) rfl : Sep H (([FoldersA a_v_law_folders v_law_folders] ++ [imA a_v_law_name (v_law_name : Any), lstA a_v_law_some_here (v_law_some_here : (List (List Str))), F] : List (Asn G)))), R.wp_mono (R.wp_bind hm) (fun r45 hm H hS => ?_) (fun x hx H hS => ?_)⟩
          ·
            have hS : Sep H ([FoldersA a_v_law_folders r45, imA a_v_law_name (v_law_name : Any), lstA a_v_law_some_here (v_law_some_here : (List (List Str))), F] : List (Asn G)) := Sep.star (M := [FoldersA a_v_law_folders r45]) hS
            have hS := hS.addIm (v := .non) (x := (Opq.mk : Opq)) opq_i
            exact hm _ _ (hS.sel [0, 1, 3, 4] (by decide) rfl)
          ·
            have hS : Sep H ([FoldersA a_v_law_folders v_law_folders, imA a_v_law_name (v_law_name : Any), lstA a_v_law_some_here (v_law_some_here : (List (List Str))), F] : List (Asn G)) := Sep.star (M := [FoldersA a_v_law_folders v_law_folders]) hS
            exact hx _ (hS.sel [0, 2, 3] (by decide) rfl)
        · have hm := R.wp_ifN hm (by first | (rw [hb33]; decide) | simpa using hb33)
          refine st_nx ?_
          refine sq_nx ?_
          refine f_seq ?_
          refine f_if ?_
          refine et_to (et_test (ev_eqI (ev_var rfl) ev_c)) ?_
          refine ifK_2 (fun hb47 => ?_) (fun hb47 => ?_)
          · have hm := R.wp_ifY hm hb47
            refine c_ret ?_
            refine c_meth ?_
            refine ev_to (ev_var rfl) ?_
            obtain ⟨d48, _, _, _, _, hO49⟩ := ins_Folders hS (i := 1) rfl
            refine ⟨_, _, _, rfl, hO49, rfl, ?_⟩
            obtain ⟨x50, hx50, hm⟩ := wp_idx hm
            obtain ⟨vs51, hq52, hM53⟩ := hS.sq (i := 2) rfl
            obtain ⟨u54, hu55, hi56⟩ := atI_im hM53 hx50
            obtain ⟨a57, rfl⟩ := isref hi56
            obtain ⟨x58, hx58, hm⟩ := wp_idx hm
            refine ea_to (ea_cons (ev_var rfl) (ea_cons (ev_ixSq (ev_ixSq (ev_fz (ev_var rfl)) ev_c hq52 hu55) (ev_mod (ev_var rfl) ev_c (by decide)) (imPlF hi56) (atI_map hx58)) ea_nil)) ?_
            refine ⟨a_v_law_folders, (v_law_folders : Folders), a_v_law_name, (v_law_name : Any), x58, star [imA a_v_law_name (v_law_name : Any), lstA a_v_law_some_here (v_law_some_here : (List (List Str))), F], rfl, (hS.im (i := 0) rfl), Sep.unstar (M := [FoldersA a_v_law_folders v_law_folders]) (hS.sel [1, 0, 2, 3] (by decide) rfl : Sep H (([FoldersA a_v_law_folders v_law_folders] ++ [imA a_v_law_name (v_law_name : Any), lstA a_v_law_some_here (v_law_some_here : (List (List Str))), F] : List (Asn G)))), R.wp_mono (R.wp_bind hm) (fun r59 hm H hS => ?_) (fun x hx H hS => ?_)⟩
            ·
              have hS : Sep H ([FoldersA a_v_law_folders r59, imA a_v_law_name (v_law_name : Any), lstA a_v_law_some_here (v_law_some_here : (List (List Str))), F] : List (Asn G)) := Sep.star (M := [FoldersA a_v_law_folders r59]) hS
              have hS := hS.addIm (v := .non) (x := (Opq.mk : Opq)) opq_i
              exact hm _ _ (hS.sel [0, 1, 3, 4] (by decide) rfl)
            ·
              have hS : Sep H ([FoldersA a_v_law_folders v_law_folders, imA a_v_law_name (v_law_name : Any), lstA a_v_law_some_here (v_law_some_here : (List (List Str))), F] : List (Asn G)) := Sep.star (M := [FoldersA a_v_law_folders v_law_folders]) hS
              exact hx _ (hS.sel [0, 2, 3] (by decide) rfl)
          · have hm := R.wp_ifN hm (by first | (rw [hb47]; decide) | simpa using hb47)
            refine st_nx ?_
            refine sq_nx ?_
            refine f_seq ?_
            refine f_if ?_
            refine et_to (et_test (ev_eqI (ev_var rfl) ev_c)) ?_
            refine ifK_2 (fun hb61 => ?_) (fun hb61 => ?_)
            · have hm := R.wp_ifY hm hb61
              refine c_ret ?_
              refine c_meth ?_
              refine ev_to (ev_var rfl) ?_
              obtain ⟨d62, _, _, _, _, hO63⟩ := ins_Folders hS (i := 1) rfl
              refine ⟨_, _, _, rfl, hO63, rfl, ?_⟩
              obtain ⟨x64, hx64, hm⟩ := wp_idx hm
              obtain ⟨vs65, hq66, hM67⟩ := hS.sq (i := 2) rfl
              obtain ⟨u68, hu69, hi70⟩ := atI_im hM67 hx64
              obtain ⟨a71, rfl⟩ := isref hi70
              obtain ⟨x72, hx72, hm⟩ := wp_idx hm
              refine ea_to (ea_cons (ev_var rfl) (ea_cons (ev_ixSq (ev_ixSq (ev_fz (ev_var rfl)) ev_c hq66 hu69) (ev_mod (ev_var rfl) ev_c (by decide)) (imPlF hi70) (atI_map hx72)) ea_nil)) ?_
              refine ⟨a_v_law_folders, (v_law_folders : Folders), a_v_law_name, (v_law_name : Any), x72, star [imA a_v_law_name (v_law_name : Any), lstA a_v_law_some_here (v_law_some_here : (List (List Str))), F], rfl, (hS.im (i := 0) rfl), Sep.unstar (M := [FoldersA a_v_law_folders v_law_folders]) (hS.sel [1, 0, 2, 3] (by decide) rfl : Sep H (([FoldersA a_v_law_folders v_law_folders] ++ [imA a_v_law_name (v_law_name : Any), lstA a_v_law_some_here (v_law_some_here : (List (List Str))), F] : List (Asn G)))), R.wp_mono (R.wp_bind hm) (fun r73 hm H hS => ?_) (fun x hx H hS => ?_)⟩
              ·
                have hS : Sep H ([FoldersA a_v_law_folders r73, imA a_v_law_name (v_law_name : Any), lstA a_v_law_some_here (v_law_some_here : (List (List Str))), F] : List (Asn G)) := Sep.star (M := [FoldersA a_v_law_folders r73]) hS
                have hS := hS.addIm (v := .non) (x := (Opq.mk : Opq)) opq_i
                exact hm _ _ (hS.sel [0, 1, 3, 4] (by decide) rfl)
              ·
                have hS : Sep H ([FoldersA a_v_law_folders v_law_folders, imA a_v_law_name (v_law_name : Any), lstA a_v_law_some_here (v_law_some_here : (List (List Str))), F] : List (Asn G)) := Sep.star (M := [FoldersA a_v_law_folders v_law_folders]) hS
                exact hx _ (hS.sel [0, 2, 3] (by decide) rfl)
            · have hm := R.wp_ifN hm (by first | (rw [hb61]; decide) | simpa using hb61)
              refine st_nx ?_
              refine sq_nx ?_
              refine f_seq ?_
              refine f_if ?_
              refine et_to (et_test (ev_eqI (ev_var rfl) ev_c)) ?_
              refine ifK_2 (fun hb75 => ?_) (fun hb75 => ?_)
              · have hm := R.wp_ifY hm hb75
                refine c_ret ?_
                refine c_meth ?_
                refine ev_to (ev_var rfl) ?_
                obtain ⟨d76, _, _, _, _, hO77⟩ := ins_Folders hS (i := 1) rfl
                refine ⟨_, _, _, rfl, hO77, rfl, ?_⟩
                refine ea_to (ea_cons (ev_var rfl) ea_nil) ?_
                refine ⟨a_v_law_folders, (v_law_folders : Folders), a_v_law_name, (v_law_name : Any), star [imA a_v_law_name (v_law_name : Any), lstA a_v_law_some_here (v_law_some_here : (List (List Str))), F], rfl, (hS.im (i := 0) rfl), Sep.unstar (M := [FoldersA a_v_law_folders v_law_folders]) (hS.sel [1, 0, 2, 3] (by decide) rfl : Sep H (([FoldersA a_v_law_folders v_law_folders] ++ [imA a_v_law_name (v_law_name : Any), lstA a_v_law_some_here (v_law_some_here : (List (List Str))), F] : List (Asn G)))), R.wp_mono (R.wp_bind hm) (fun r78 hm H hS => ?_) (fun x hx H hS => ?_)⟩
                ·
                  have hS : Sep H ([FoldersA a_v_law_folders v_law_folders, imA a_v_law_name (v_law_name : Any), lstA a_v_law_some_here (v_law_some_here : (List (List Str))), F] : List (Asn G)) := Sep.star (M := [FoldersA a_v_law_folders v_law_folders]) hS
                  have hS := hS.addIm (v := (.str (r78))) (x := (Opq.mk : Opq)) opq_i
                  exact hm _ _ (hS.sel [0, 1, 3, 4] (by decide) rfl)
                ·
                  have hS : Sep H ([FoldersA a_v_law_folders v_law_folders, imA a_v_law_name (v_law_name : Any), lstA a_v_law_some_here (v_law_some_here : (List (List Str))), F] : List (Asn G)) := Sep.star (M := [FoldersA a_v_law_folders v_law_folders]) hS
                  exact hx _ (hS.sel [0, 2, 3] (by decide) rfl)
              · have hm := R.wp_ifN hm (by first | (rw [hb75]; decide) | simpa using hb75)
                refine st_nx ?_
                refine sq_nx ?_
                refine f_seq ?_
                refine f_if ?_
                refine et_to (et_test (ev_eqI (ev_var rfl) ev_c)) ?_
                refine ifK_2 (fun hb80 => ?_) (fun hb80 => ?_)
                · have hm := R.wp_ifY hm hb80
                  refine c_ret ?_
                  refine c_meth ?_
                  refine ev_to (ev_var rfl) ?_
                  obtain ⟨d81, _, _, _, _, hO82⟩ := ins_Folders hS (i := 1) rfl
                  refine ⟨_, _, _, rfl, hO82, rfl, ?_⟩
                  refine ea_to (ea_cons (ev_var rfl) ea_nil) ?_
                  obtain ⟨s83, hs84, hm⟩ := Ml.wp_asStr hm
                  have hv85 := v_str (hS.im (i := 0) rfl) hs84
                  subst hv85
                  refine ⟨a_v_law_folders, (v_law_folders : Folders), s83, ("inbox" : Str), .non, (Any.non : Any), star [imA (.str (s83)) (v_law_name : Any), lstA a_v_law_some_here (v_law_some_here : (List (List Str))), F], rfl, (any_non.mpr rfl), Sep.unstar (M := [FoldersA a_v_law_folders v_law_folders]) (hS.sel [1, 0, 2, 3] (by decide) rfl : Sep H (([FoldersA a_v_law_folders v_law_folders] ++ [imA (.str (s83)) (v_law_name : Any), lstA a_v_law_some_here (v_law_some_here : (List (List Str))), F] : List (Asn G)))), R.wp_mono (R.wp_bind hm) (fun r86 hm H hS => ?_) (fun x hx H hS => ?_)⟩
                  ·
                    have hS : Sep H ([FoldersA a_v_law_folders r86, imA (.str (s83)) (v_law_name : Any), lstA a_v_law_some_here (v_law_some_here : (List (List Str))), F] : List (Asn G)) := Sep.star (M := [FoldersA a_v_law_folders r86]) hS
                    have hS := hS.addIm (v := .non) (x := (Opq.mk : Opq)) opq_i
                    exact hm _ _ (hS.sel [0, 1, 3, 4] (by decide) rfl)
                  ·
                    have hS : Sep H ([FoldersA a_v_law_folders v_law_folders, imA (.str (s83)) (v_law_name : Any), lstA a_v_law_some_here (v_law_some_here : (List (List Str))), F] : List (Asn G)) := Sep.star (M := [FoldersA a_v_law_folders v_law_folders]) hS
                    exact hx _ (hS.sel [0, 2, 3] (by decide) rfl)
                · have hm := R.wp_ifN hm (by first | (rw [hb80]; decide) | simpa using hb80)
                  refine st_nx ?_
                  refine sq_nx ?_
                  refine c_ret ?_
                  refine c_fz ?_
                  refine c_meth ?_
                  refine ev_to (ev_var rfl) ?_
                  obtain ⟨d88, _, _, _, _, hO89⟩ := ins_Folders hS (i := 1) rfl
                  refine ⟨_, _, _, rfl, hO89, rfl, ?_⟩
                  refine ea_to (ea_cons (ev_var rfl) ea_nil) ?_
                  refine ⟨a_v_law_folders, (v_law_folders : Folders), a_v_law_name, (v_law_name : Any), star [imA a_v_law_name (v_law_name : Any), lstA a_v_law_some_here (v_law_some_here : (List (List Str))), F], rfl, (hS.im (i := 0) rfl), Sep.unstar (M := [FoldersA a_v_law_folders v_law_folders]) (hS.sel [1, 0, 2, 3] (by decide) rfl : Sep H (([FoldersA a_v_law_folders v_law_folders] ++ [imA a_v_law_name (v_law_name : Any), lstA a_v_law_some_here (v_law_some_here : (List (List Str))), F] : List (Asn G)))), R.wp_mono (R.wp_bind hm) (fun r90 hm p91 H hS => ?_) (fun x hx H hS => ?_)⟩
                  ·
                    have hS : Sep H ([lstA p91 (r90 : (List Str)), FoldersA a_v_law_folders v_law_folders, imA a_v_law_name (v_law_name : Any), lstA a_v_law_some_here (v_law_some_here : (List (List Str))), F] : List (Asn G)) := Sep.star (M := [lstA p91 (r90 : (List Str)), FoldersA a_v_law_folders v_law_folders]) hS
                    refine fz_no ?_
                    have hS := hS.addIm (v := (.ref p91)) (x := (Opq.mk : Opq)) opq_i
                    exact hm _ _ (hS.sel [0, 2, 4, 5] (by decide) rfl)
                  ·
                    have hS : Sep H ([FoldersA a_v_law_folders v_law_folders, imA a_v_law_name (v_law_name : Any), lstA a_v_law_some_here (v_law_some_here : (List (List Str))), F] : List (Asn G)) := Sep.star (M := [FoldersA a_v_law_folders v_law_folders]) hS
                    exact hx _ (hS.sel [0, 2, 3] (by decide) rfl)
def sp_law_refused (G : Gx) : Sp := fun vs H Q E => ∃ (a_v_law_folders : Addr) (v_law_folders : Folders) (v_law_way : Int) (v_law_name : Str) (a_v_law_some_here : Addr) (v_law_some_here : (List (List Str))) (v_law_number : Int) (F : Asn G), vs = [.ref a_v_law_folders, (.int (v_law_way)), (.str (v_law_name)), .ref a_v_law_some_here, (.int (v_law_number))] ∧ Sep H ([FoldersA a_v_law_folders v_law_folders, lstA a_v_law_some_here (v_law_some_here : (List (List Str))), F] : List (Asn G)) ∧ R.wp (m_law_refused v_law_folders v_law_way v_law_name v_law_some_here v_law_number) (fun r => ∀ H', Sep H' ([FoldersA a_v_law_folders r.2, lstA a_v_law_some_here (v_law_some_here : (List (List Str))), F] : List (Asn G)) → Q (.bl (r.1)) H') (fun _ => False)
abbrev N_law_refused : List Str := ["_law_folders", "_law_way", "_law_name", "_law_some_here", "_law_number", "_law_e"]
theorem sc_law_refused : FnScope N_law_refused ["_law_folders", "_law_way", "_law_name", "_law_some_here", "_law_number"] (defScope s_law_refused) := ⟨rfl, rfl, rfl, by decide +kernel, rfl, by decide +kernel, by decide +kernel⟩
theorem ok_law_refused (T : Txt G mg) : FnOk P w G.K mg base CX0 5 T.a_law_refused T.fd_law_refused ["_law_folders", "_law_way", "_law_name", "_law_some_here", "_law_number"] (sp_law_refused G) := by
  have nd := sc_law_refused.nd
  refine Fun.ok T.F_law_refused sc_law_refused (fun vs H Q E h => ?_) (fun cdv A outer s H vs Q E hr h => ?_)
  · obtain ⟨a_v_law_folders, v_law_folders, v_law_way, v_law_name, a_v_law_some_here, v_law_some_here, v_law_number, F, rfl, _⟩ := h; rfl
  · obtain ⟨a_v_law_folders, v_law_folders, v_law_way, v_law_name, a_v_law_some_here, v_law_some_here, v_law_number, F, rfl, hS, hm⟩ := h
    refine ⟨_, (pss_cons (ps_try_as (i := 5) rfl rfl nd rfl rfl ⟨rfl, by decide, .inl T.g_MailError⟩ takes0 (fun W pn xe tk po => (pss_one (ps_expr (pe_callSD (ok_law_asked T) (hr.mono (by decide)) rfl T.g_law_asked T.kp_law_asked T.b_law_asked .nil (fun σ => passAt tk σ) (pa_cons (pv 0) (pa_cons (pv 1) (pa_cons (pv 2) (pa_cons (pe_fz (pv 3)) (pa_cons (pv 4) pa_nil))))))))) (fun a oe cls d pn hz hf => (pss_one (ps_ret (pe_and (pe_callB (call_isEd G.K List.mem_cons_self hz hf) (by rfl) T.z_isinstance (by decide +kernel) (pa_cons (pv 5) (pa_cons (pe_glob (v := .ref (G.cl 4)) rfl T.g_NoName rfl) pa_nil))) (pe_one (pe_callE List.mem_cons_self hz hf (ok_law_of_one_class T) (hotRoom hr (by decide)) rfl T.g_law_of_one_class T.kp_law_of_one_class T.b_law_of_one_class (pa_cons (pv 5) pa_nil))))))))
      (pss_one (ps_ret pe_bl))), ?_⟩
    unfold m_law_refused at hm
    refine f_seq ?_
    refine c_drop ?_
    refine c_callSD ?_
    refine ea_to (ea_cons (ev_var rfl) (ea_cons (ev_var rfl) (ea_cons (ev_var rfl) (ea_cons (ev_fz (ev_var rfl)) (ea_cons (ev_var rfl) ea_nil))))) ?_
    refine ⟨a_v_law_folders, (v_law_folders : Folders), v_law_way, v_law_name, a_v_law_some_here, (v_law_some_here : (List (List Str))), v_law_number, star [F], rfl, Sep.unstar (M := [FoldersA a_v_law_folders v_law_folders, lstA a_v_law_some_here (v_law_some_here : (List (List Str)))]) (hS.sel [0, 1, 2] (by decide) rfl : Sep H (([FoldersA a_v_law_folders v_law_folders, lstA a_v_law_some_here (v_law_some_here : (List (List Str)))] ++ [F] : List (Asn G)))), R.wp_mono (R.wp_tryC hm) (fun r1 hm p2 H hS => ?_) (fun x hx H hS => ?_)⟩
    ·
      have hS : Sep H ([imA p2 (r1.1 : Opq), FoldersA a_v_law_folders r1.2, lstA a_v_law_some_here (v_law_some_here : (List (List Str))), F] : List (Asn G)) := Sep.star (M := [imA p2 (r1.1 : Opq), FoldersA a_v_law_folders r1.2, lstA a_v_law_some_here (v_law_some_here : (List (List Str)))]) hS
      refine sq_nx ?_
      refine c_ret ?_
      refine ev_to ev_c ?_
      exact hm _ (hS.sel [1, 2, 3] (by decide) rfl)
    ·
      have hS : Sep H ([FoldersA a_v_law_folders v_law_folders, lstA a_v_law_some_here (v_law_some_here : (List (List Str))), F] : List (Asn G)) := Sep.star (M := [FoldersA a_v_law_folders v_law_folders, lstA a_v_law_some_here (v_law_some_here : (List (List Str)))]) hS
      refine w_asE (fun z => T.ex_MailError z) hx (fun hcx hm ea na => ?_) (fun hm => ?_)
      ·
        refine c_ret ?_
        refine f_andV ?_
        refine ev_to (ev_isXd (ev_var rfl) ev_c (.own _) (T.ec_ hcx) (T.ki_NoName hcx)) ?_
        refine andVK_J hm hS (fun hb q hm nx => ?_) (fun b4 H hm hS => ?_)
        ·
          refine c_callE ?_
          refine ea_to (ea_cons (ev_var rfl) ea_nil) ?_
          intro oe hz hf
          refine ⟨x, star [FoldersA a_v_law_folders v_law_folders, lstA a_v_law_some_here (v_law_some_here : (List (List Str))), F], rfl, ⟨hz, hf, hcx⟩, Sep.unstar (M := []) (hS.sel [0, 1, 2] (by decide) rfl : Sep H (([] ++ [FoldersA a_v_law_folders v_law_folders, lstA a_v_law_some_here (v_law_some_here : (List (List Str))), F] : List (Asn G)))), R.wp_mono (R.wp_bind hm) (fun r5 hm H hS => ?_) (fun _ z => z)⟩
          have hS : Sep H ([FoldersA a_v_law_folders v_law_folders, lstA a_v_law_some_here (v_law_some_here : (List (List Str))), F] : List (Asn G)) := Sep.star (M := []) hS
          exact nx _ _ hm (hS.sel [0, 1, 2] (by decide) rfl)
        ·
          exact hm _ (hS.sel [0, 1, 2] (by decide) rfl)
      ·
        exact hm.elim
def sp_law_refused_A (G : Gx) : Sp := fun vs H Q E => ∃ (a_v_law_folders : Addr) (v_law_folders : Folders) (v_law_way : Int) (a_v_law_name : V) (v_law_name : Any) (a_v_law_some_here : Addr) (v_law_some_here : (List (List Str))) (v_law_number : Int) (F : Asn G), vs = [.ref a_v_law_folders, (.int (v_law_way)), a_v_law_name, .ref a_v_law_some_here, (.int (v_law_number))] ∧ Im.im G H a_v_law_name v_law_name ∧ Sep H ([FoldersA a_v_law_folders v_law_folders, lstA a_v_law_some_here (v_law_some_here : (List (List Str))), F] : List (Asn G)) ∧ R.wp (m_law_refused_A v_law_folders v_law_way v_law_name v_law_some_here v_law_number) (fun r => ∀ H', Sep H' ([FoldersA a_v_law_folders r.2, lstA a_v_law_some_here (v_law_some_here : (List (List Str))), F] : List (Asn G)) → Q (.bl (r.1)) H') (fun _ => False)
abbrev N_law_refused_A : List Str := ["_law_folders", "_law_way", "_law_name", "_law_some_here", "_law_number", "_law_e"]
theorem sc_law_refused_A : FnScope N_law_refused_A ["_law_folders", "_law_way", "_law_name", "_law_some_here", "_law_number"] (defScope s_law_refused) := ⟨rfl, rfl, rfl, by decide +kernel, rfl, by decide +kernel, by decide +kernel⟩
theorem ok_law_refused_A (T : Txt G mg) : FnOk P w G.K mg base CX0 5 T.a_law_refused T.fd_law_refused ["_law_folders", "_law_way", "_law_name", "_law_some_here", "_law_number"] (sp_law_refused_A G) := by
  have nd := sc_law_refused_A.nd
  refine Fun.ok T.F_law_refused sc_law_refused_A (fun vs H Q E h => ?_) (fun cdv A outer s H vs Q E hr h => ?_)
  · obtain ⟨a_v_law_folders, v_law_folders, v_law_way, a_v_law_name, v_law_name, a_v_law_some_here, v_law_some_here, v_law_number, F, rfl, _⟩ := h; rfl
  · obtain ⟨a_v_law_folders, v_law_folders, v_law_way, a_v_law_name, v_law_name, a_v_law_some_here, v_law_some_here, v_law_number, F, rfl, him_v_law_name, hS, hm⟩ := h
    have hS := hS.addIm him_v_law_name
    refine ⟨_, (pss_cons (ps_try_as (i := 5) rfl rfl nd rfl rfl ⟨rfl, by decide, .inl T.g_MailError⟩ takes0 (fun W pn xe tk po => (pss_one (ps_expr (pe_callSD (ok_law_asked_A T) (hr.mono (by decide)) rfl T.g_law_asked T.kp_law_asked T.b_law_asked .nil (fun σ => passAt tk σ) (pa_cons (pv 0) (pa_cons (pv 1) (pa_cons (pv 2) (pa_cons (pe_fz (pv 3)) (pa_cons (pv 4) pa_nil))))))))) (fun a oe cls d pn hz hf => (pss_one (ps_ret (pe_and (pe_callB (call_isEd G.K List.mem_cons_self hz hf) (by rfl) T.z_isinstance (by decide +kernel) (pa_cons (pv 5) (pa_cons (pe_glob (v := .ref (G.cl 4)) rfl T.g_NoName rfl) pa_nil))) (pe_one (pe_callE List.mem_cons_self hz hf (ok_law_of_one_class T) (hotRoom hr (by decide)) rfl T.g_law_of_one_class T.kp_law_of_one_class T.b_law_of_one_class (pa_cons (pv 5) pa_nil))))))))
      (pss_one (ps_ret pe_bl))), ?_⟩
    unfold m_law_refused_A at hm
    refine f_seq ?_
    refine c_drop ?_
    refine c_callSD ?_
    refine ea_to (ea_cons (ev_var rfl) (ea_cons (ev_var rfl) (ea_cons (ev_var rfl) (ea_cons (ev_fz (ev_var rfl)) (ea_cons (ev_var rfl) ea_nil))))) ?_
    refine ⟨a_v_law_folders, (v_law_folders : Folders), v_law_way, a_v_law_name, (v_law_name : Any), a_v_law_some_here, (v_law_some_here : (List (List Str))), v_law_number, star [imA a_v_law_name (v_law_name : Any), F], rfl, (hS.im (i := 0) rfl), Sep.unstar (M := [FoldersA a_v_law_folders v_law_folders, lstA a_v_law_some_here (v_law_some_here : (List (List Str)))]) (hS.sel [1, 2, 0, 3] (by decide) rfl : Sep H (([FoldersA a_v_law_folders v_law_folders, lstA a_v_law_some_here (v_law_some_here : (List (List Str)))] ++ [imA a_v_law_name (v_law_name : Any), F] : List (Asn G)))), R.wp_mono (R.wp_tryC hm) (fun r1 hm p2 H hS => ?_) (fun x hx H hS => ?_)⟩
    ·
      have hS : Sep H ([imA p2 (r1.1 : Opq), FoldersA a_v_law_folders r1.2, lstA a_v_law_some_here (v_law_some_here : (List (List Str))), imA a_v_law_name (v_law_name : Any), F] : List (Asn G)) := Sep.star (M := [imA p2 (r1.1 : Opq), FoldersA a_v_law_folders r1.2, lstA a_v_law_some_here (v_law_some_here : (List (List Str)))]) hS
      refine sq_nx ?_
      refine c_ret ?_
      refine ev_to ev_c ?_
      exact hm _ (hS.sel [1, 2, 4] (by decide) rfl)
    ·
      have hS : Sep H ([FoldersA a_v_law_folders v_law_folders, lstA a_v_law_some_here (v_law_some_here : (List (List Str))), imA a_v_law_name (v_law_name : Any), F] : List (Asn G)) := Sep.star (M := [FoldersA a_v_law_folders v_law_folders, lstA a_v_law_some_here (v_law_some_here : (List (List Str)))]) hS
      refine w_asE (fun z => T.ex_MailError z) hx (fun hcx hm ea na => ?_) (fun hm => ?_)
      ·
        refine c_ret ?_
        refine f_andV ?_
        refine ev_to (ev_isXd (ev_var rfl) ev_c (.own _) (T.ec_ hcx) (T.ki_NoName hcx)) ?_
        refine andVK_J hm hS (fun hb q hm nx => ?_) (fun b4 H hm hS => ?_)
        ·
          refine c_callE ?_
          refine ea_to (ea_cons (ev_var rfl) ea_nil) ?_
          intro oe hz hf
          refine ⟨x, star [FoldersA a_v_law_folders v_law_folders, lstA a_v_law_some_here (v_law_some_here : (List (List Str))), imA a_v_law_name (v_law_name : Any), F], rfl, ⟨hz, hf, hcx⟩, Sep.unstar (M := []) (hS.sel [0, 1, 2, 3] (by decide) rfl : Sep H (([] ++ [FoldersA a_v_law_folders v_law_folders, lstA a_v_law_some_here (v_law_some_here : (List (List Str))), imA a_v_law_name (v_law_name : Any), F] : List (Asn G)))), R.wp_mono (R.wp_bind hm) (fun r5 hm H hS => ?_) (fun _ z => z)⟩
          have hS : Sep H ([FoldersA a_v_law_folders v_law_folders, lstA a_v_law_some_here (v_law_some_here : (List (List Str))), imA a_v_law_name (v_law_name : Any), F] : List (Asn G)) := Sep.star (M := []) hS
          exact nx _ _ hm (hS.sel [0, 1, 2, 3] (by decide) rfl)
        ·
          exact hm _ (hS.sel [0, 1, 3] (by decide) rfl)
      ·
        exact hm.elim
def sp_law_odd_refused (G : Gx) : Sp := fun vs H Q E => ∃ (a_v_law_folders : Addr) (v_law_folders : Folders) (a_v_law_some_here : Addr) (v_law_some_here : (List (List Str))) (v_law_number : Int) (F : Asn G), vs = [.ref a_v_law_folders, .ref a_v_law_some_here, (.int (v_law_number))] ∧ Sep H ([FoldersA a_v_law_folders v_law_folders, lstA a_v_law_some_here (v_law_some_here : (List (List Str))), F] : List (Asn G)) ∧ R.wp (m_law_odd_refused v_law_folders v_law_some_here v_law_number) (fun r => ∀ H', Sep H' ([FoldersA a_v_law_folders r.2, lstA a_v_law_some_here (v_law_some_here : (List (List Str))), F] : List (Asn G)) → Q (.bl (r.1)) H') (fun _ => False)
abbrev N_law_odd_refused : List Str := ["_law_folders", "_law_some_here", "_law_number", "_law_odd", "_law_way"]
theorem sc_law_odd_refused : FnScope N_law_odd_refused ["_law_folders", "_law_some_here", "_law_number"] (defScope s_law_odd_refused) := ⟨rfl, rfl, rfl, by decide +kernel, rfl, by decide +kernel, by decide +kernel⟩
theorem ok_law_odd_refused (T : Txt G mg) : FnOk P w G.K mg base CX0 6 T.a_law_odd_refused T.fd_law_odd_refused ["_law_folders", "_law_some_here", "_law_number"] (sp_law_odd_refused G) := by
  have nd := sc_law_odd_refused.nd
  refine Fun.ok T.F_law_odd_refused sc_law_odd_refused (fun vs H Q E h => ?_) (fun cdv A outer s H vs Q E hr h => ?_)
  · obtain ⟨a_v_law_folders, v_law_folders, a_v_law_some_here, v_law_some_here, v_law_number, F, rfl, _⟩ := h; rfl
  · obtain ⟨a_v_law_folders, v_law_folders, a_v_law_some_here, v_law_some_here, v_law_number, F, rfl, hS, hm⟩ := h
    refine ⟨_, (pss_cons (ps_if (pt_cmpR op_ne (pe_op op_mod (pe_op op_fdiv (pv 2) pe_int) pe_int) pe_int (nomark _)) (pss_one (ps_ret pe_bl)) pss_nil)
      (pss_cons (ps_set (i := 3) nd rfl (Or.inr rfl) (pe_ix (ix_listK G.K) (pe_fz (pe_lst (pa_cons pe_non (pa_cons pe_int (pa_cons pe_int pa_nil))))) (pe_op op_mod (pe_op op_fdiv (pv 2) pe_int) pe_int) (fun _ _ => rfl)))
      (pss_one (ps_ret (pe_cmpR (eqDK G.K hr.units) (pe_fz (pe_lc (own := [("_law_way", 4)]) (g := gName 4) rfl nd (pi_listK G.K (pe_fz (pe_lst (pa_cons pe_int (pa_cons pe_int (pa_cons pe_int (pa_cons pe_int (pa_cons pe_int (pa_cons pe_int pa_nil))))))))) (blkOk_by (own := [("_law_way", 4)]) (N := N_law_odd_refused) (sc := defScope s_law_odd_refused) (by decide +kernel)) (fun _ _ _ _ _ => pg_name (i := 4) nd rfl (Or.inl rfl)) (fun _ _ _ _ _ => pts_one (pt_not (pt_val (pe_call (ok_law_refused_A T) (hr.mono (by decide)) rfl T.g_law_refused T.kp_law_refused T.b_law_refused .nil pass0 (pa_cons (pv 0) (pa_cons (pv 4) (pa_cons (pv 3) (pa_cons (pe_fz (pv 1)) (pa_cons (pv 2) pa_nil))))))))) (fun _ _ _ _ _ => (pv 4)))) (pe_fz (pe_lst pa_nil)) (nomark _)))))), ?_⟩
    unfold m_law_odd_refused at hm
    refine f_seq ?_
    refine f_if ?_
    refine et_to (et_test (ev_neI (ev_mod (ev_fdiv (ev_var rfl) ev_c ⟨by decide, by decide⟩) ev_c (by decide)) ev_c)) ?_
    refine ifK_2 (fun hb1 => ?_) (fun hb1 => ?_)
    · have hm := R.wp_ifY hm hb1
      refine c_ret ?_
      refine ev_to ev_c ?_
      exact hm _ (hS.sel [0, 1, 2] (by decide) rfl)
    · have hm := R.wp_ifN hm (by first | (rw [hb1]; decide) | simpa using hb1)
      refine st_nx ?_
      refine sq_nx ?_
      refine f_seq ?_
      refine c_asg ?_
      refine c_op ?_
      refine c_fz ?_
      refine c_lst ?_
      refine ea_to (ea_cons ev_c (ea_cons ev_c (ea_cons ev_c ea_nil))) ?_
      refine k_lst (α := Any) (vs := [.non, (.int (7)), (.int (0))]) (xs := [Any.non, (Any.int 7), (Any.int 0)]) hS ⟨(any_non.mpr rfl), ⟨(any_int.mpr rfl), ⟨(any_int.mpr rfl), True.intro⟩⟩⟩ (by show 3 ≤ sizeLine; decide) fun p2 H hS => ?_
      refine fz_no ?_
      refine ev_to (ev_mod (ev_fdiv (ev_var rfl) ev_c ⟨by decide, by decide⟩) ev_c (by decide)) ?_
      obtain ⟨x3, hx3, hm⟩ := wp_idx hm
      obtain ⟨vs4, hq5, hM6⟩ := hS.sq (i := 0) rfl
      obtain ⟨u7, hu8, hi9⟩ := atI_im hM6 hx3
      refine r_ixSq hq5 hu8 _ ?_
      have hS := hS.addIm (v := u7) (x := (x3 : Any)) hi9
      refine c_set (σ' := [some (.ref a_v_law_folders), some (.ref a_v_law_some_here), some (.int (v_law_number)), some u7, none]) rfl ?_
      refine sq_nx ?_
      refine c_ret ?_
      refine c_op ?_
      refine c_fz ?_
      refine c_lc ?_
      refine c_il ?_
      refine c_fz ?_
      refine c_lst ?_
      refine ea_to (ea_cons ev_c (ea_cons ev_c (ea_cons ev_c (ea_cons ev_c (ea_cons ev_c (ea_cons ev_c ea_nil)))))) ?_
      refine k_lst (α := Int) (vs := [(.int (1)), (.int (2)), (.int (3)), (.int (4)), (.int (5)), (.int (7))]) (xs := [1, 2, 3, 4, 5, 7]) hS ⟨rfl, ⟨rfl, ⟨rfl, ⟨rfl, ⟨rfl, ⟨rfl, True.intro⟩⟩⟩⟩⟩⟩ (by show 6 ≤ sizeLine; decide) fun p11 H hS => ?_
      refine fz_no ?_
      refine k_il hS (i := 0) rfl ?_
      obtain ⟨h12, hm⟩ := R.wp_need hm
      refine lc_sep (β := Int) (fun (s17 : Folders) => ([lstA p11 ([1, 2, 3, 4, 5, 7] : (List Int)), imA u7 (x3 : Any), lstA p2 ([Any.non, (Any.int 7), (Any.int 0)] : (List Any)), FoldersA a_v_law_folders s17, lstA a_v_law_some_here (v_law_some_here : (List (List Str))), F] : List (Asn G))) (s := v_law_folders) (im := (Im.im G)) hS (fun _ _ _ => wk_list fun _ _ h => h.sq (i := 1) rfl) h12 hm (fun p13 s17 ys16 x14 v15 H q Nx hS hx hm kS kN => ?_) (fun p13 t H hm hS => ?_)
      ·
        cases hx
        refine c_gLc (σ' := [some (.ref a_v_law_folders), some (.ref a_v_law_some_here), some (.int (v_law_number)), some u7, some (.int (x14))]) rfl rfl ?_
        refine f_not ?_
        refine f_B ?_
        refine c_call ?_
        refine ea_to (ea_cons (ev_var rfl) (ea_cons (ev_var rfl) (ea_cons (ev_var rfl) (ea_cons (ev_fz (ev_var rfl)) (ea_cons (ev_var rfl) ea_nil))))) ?_
        refine ⟨a_v_law_folders, (s17 : Folders), x14, u7, (x3 : Any), a_v_law_some_here, (v_law_some_here : (List (List Str))), v_law_number, star [lstA p13 (ys16 : List Int), lstA p11 ([1, 2, 3, 4, 5, 7] : (List Int)), imA u7 (x3 : Any), lstA p2 ([Any.non, (Any.int 7), (Any.int 0)] : (List Any)), F], rfl, (hS.im (i := 2) rfl), Sep.unstar (M := [FoldersA a_v_law_folders s17, lstA a_v_law_some_here (v_law_some_here : (List (List Str)))]) (hS.sel [4, 5, 0, 1, 2, 3, 6] (by decide) rfl : Sep H (([FoldersA a_v_law_folders s17, lstA a_v_law_some_here (v_law_some_here : (List (List Str)))] ++ [lstA p13 (ys16 : List Int), lstA p11 ([1, 2, 3, 4, 5, 7] : (List Int)), imA u7 (x3 : Any), lstA p2 ([Any.non, (Any.int 7), (Any.int 0)] : (List Any)), F] : List (Asn G)))), R.wp_mono (R.wp_bind hm) (fun r18 hm H hS => ?_) (fun _ z => z)⟩
        have hS : Sep H ([FoldersA a_v_law_folders r18.2, lstA a_v_law_some_here (v_law_some_here : (List (List Str))), lstA p13 (ys16 : List Int), lstA p11 ([1, 2, 3, 4, 5, 7] : (List Int)), imA u7 (x3 : Any), lstA p2 ([Any.non, (Any.int 7), (Any.int 0)] : (List Any)), F] : List (Asn G)) := Sep.star (M := [FoldersA a_v_law_folders r18.2, lstA a_v_law_some_here (v_law_some_here : (List (List Str)))]) hS
        refine f_bl ?_
        refine f_nK ?_
        refine lc_if (fun hb19 => ?_) (fun hb19 => ?_)
        · have hm := R.wp_ifY hm hb19
          refine ev_to (ev_var rfl) ?_
          exact kS r18.2 _ _ _ hm rfl (hS.sel [2, 3, 4, 5, 0, 1, 6] (by decide) rfl)
        · have hm := R.wp_ifN hm (by first | (rw [hb19]; decide) | simpa using hb19)
          exact kN r18.2 _ hm (hS.sel [2, 3, 4, 5, 0, 1, 6] (by decide) rfl)
      · revert hm hS; generalize t = t20; intro hm hS
        refine fz_no ?_
        refine c_fz ?_
        refine c_lst ?_
        refine ea_to ea_nil ?_
        refine k_lst (α := Int) (vs := []) (xs := ([] : (List Int))) hS True.intro (by show 0 ≤ sizeLine; decide) fun p21 H hS => ?_
        refine fz_no ?_
        obtain ⟨h22, hm⟩ := R.wp_need hm
        obtain ⟨h23, hm⟩ := R.wp_need hm
        refine ev_op2 (ev_eqP (G := G) (x := (t20.2 : (List Int))) (y := ([] : (List Int))) ev_c ev_c (dpOwn hS (i := 1) rfl) (dpOwn hS (i := 0) rfl) h22 h23 (Nat.le_of_ble_eq_true rfl)) ?_
        exact hm _ (hS.sel [5, 6, 7] (by decide) rfl)
def sp_law_goes (G : Gx) : Sp := fun vs H Q E => ∃ (a_v_law_folders : Addr) (v_law_folders : Folders) (v_law_way : Int) (v_law_name : Str) (a_v_law_some_here : Addr) (v_law_some_here : (List (List Str))) (v_law_number : Int) (F : Asn G), vs = [.ref a_v_law_folders, (.int (v_law_way)), (.str (v_law_name)), .ref a_v_law_some_here, (.int (v_law_number))] ∧ Sep H ([FoldersA a_v_law_folders v_law_folders, lstA a_v_law_some_here (v_law_some_here : (List (List Str))), F] : List (Asn G)) ∧ R.wp (m_law_goes v_law_folders v_law_way v_law_name v_law_some_here v_law_number) (fun r => ∀ H', Sep H' ([FoldersA a_v_law_folders r.2, lstA a_v_law_some_here (v_law_some_here : (List (List Str))), F] : List (Asn G)) → Q (.bl (r.1)) H') (fun _ => False)
abbrev N_law_goes : List Str := ["_law_folders", "_law_way", "_law_name", "_law_some_here", "_law_number"]
theorem sc_law_goes : FnScope N_law_goes ["_law_folders", "_law_way", "_law_name", "_law_some_here", "_law_number"] (defScope s_law_goes) := ⟨rfl, rfl, rfl, by decide +kernel, rfl, by decide +kernel, by decide +kernel⟩
theorem ok_law_goes (T : Txt G mg) : FnOk P w G.K mg base CX0 5 T.a_law_goes T.fd_law_goes ["_law_folders", "_law_way", "_law_name", "_law_some_here", "_law_number"] (sp_law_goes G) := by
  have nd := sc_law_goes.nd
  refine Fun.ok T.F_law_goes sc_law_goes (fun vs H Q E h => ?_) (fun cdv A outer s H vs Q E hr h => ?_)
  · obtain ⟨a_v_law_folders, v_law_folders, v_law_way, v_law_name, a_v_law_some_here, v_law_some_here, v_law_number, F, rfl, _⟩ := h; rfl
  · obtain ⟨a_v_law_folders, v_law_folders, v_law_way, v_law_name, a_v_law_some_here, v_law_some_here, v_law_number, F, rfl, hS, hm⟩ := h
    refine ⟨_, (pss_cons (ps_try_only rfl rfl ⟨rfl, by decide, .inl T.g_MailError⟩ takes0 (fun W pn xe tk po => (pss_one (ps_expr (pe_callSD (ok_law_asked T) (hr.mono (by decide)) rfl T.g_law_asked T.kp_law_asked T.b_law_asked .nil (fun σ => passAt tk σ) (pa_cons (pv 0) (pa_cons (pv 1) (pa_cons (pv 2) (pa_cons (pe_fz (pv 3)) (pa_cons (pv 4) pa_nil))))))))) (fun a oe cls d pn _ _ => (pss_one (ps_ret pe_bl))))
      (pss_one (ps_ret pe_bl))), ?_⟩
    unfold m_law_goes at hm
    refine f_seq ?_
    refine c_drop ?_
    refine c_callSD ?_
    refine ea_to (ea_cons (ev_var rfl) (ea_cons (ev_var rfl) (ea_cons (ev_var rfl) (ea_cons (ev_fz (ev_var rfl)) (ea_cons (ev_var rfl) ea_nil))))) ?_
    refine ⟨a_v_law_folders, (v_law_folders : Folders), v_law_way, v_law_name, a_v_law_some_here, (v_law_some_here : (List (List Str))), v_law_number, star [F], rfl, Sep.unstar (M := [FoldersA a_v_law_folders v_law_folders, lstA a_v_law_some_here (v_law_some_here : (List (List Str)))]) (hS.sel [0, 1, 2] (by decide) rfl : Sep H (([FoldersA a_v_law_folders v_law_folders, lstA a_v_law_some_here (v_law_some_here : (List (List Str)))] ++ [F] : List (Asn G)))), R.wp_mono (R.wp_tryC hm) (fun r1 hm p2 H hS => ?_) (fun x hx H hS => ?_)⟩
    ·
      have hS : Sep H ([imA p2 (r1.1 : Opq), FoldersA a_v_law_folders r1.2, lstA a_v_law_some_here (v_law_some_here : (List (List Str))), F] : List (Asn G)) := Sep.star (M := [imA p2 (r1.1 : Opq), FoldersA a_v_law_folders r1.2, lstA a_v_law_some_here (v_law_some_here : (List (List Str)))]) hS
      refine sq_nx ?_
      refine c_ret ?_
      refine ev_to ev_c ?_
      exact hm _ (hS.sel [1, 2, 3] (by decide) rfl)
    ·
      have hS : Sep H ([FoldersA a_v_law_folders v_law_folders, lstA a_v_law_some_here (v_law_some_here : (List (List Str))), F] : List (Asn G)) := Sep.star (M := [FoldersA a_v_law_folders v_law_folders, lstA a_v_law_some_here (v_law_some_here : (List (List Str)))]) hS
      refine w_only (fun z => T.ex_MailError z) hx (fun hm ea na => ?_) (fun hm => ?_)
      ·
        refine c_ret ?_
        refine ev_to ev_c ?_
        exact hm _ (hS.sel [0, 1, 2] (by decide) rfl)
      ·
        exact hm.elim
def sp_law_seen (G : Gx) : Sp := fun vs H Q E => ∃ (a_v_law_folders : Addr) (v_law_folders : Folders) (a_v_law_own : Addr) (v_law_own : (List (Str × (Str × (List Str))))) (a_v_law_some_here : Addr) (v_law_some_here : (List (List Str))) (F : Asn G), vs = [.ref a_v_law_folders, .ref a_v_law_own, .ref a_v_law_some_here] ∧ Sep H ([FoldersA a_v_law_folders v_law_folders, dictE recSL a_v_law_own (v_law_own : (List (Str × (Str × (List Str))))), lstA a_v_law_some_here (v_law_some_here : (List (List Str))), F] : List (Asn G)) ∧ R.wp (m_law_seen v_law_folders v_law_own v_law_some_here) (fun r => ∀ (p : Addr) H', Sep H' ([imA (.ref p) (r : (List Any)), FoldersA a_v_law_folders v_law_folders, dictE recSL a_v_law_own (v_law_own : (List (Str × (Str × (List Str))))), lstA a_v_law_some_here (v_law_some_here : (List (List Str))), F] : List (Asn G)) → Q (.ref p) H') (fun _ => False)
abbrev N_law_seen : List Str := ["_law_folders", "_law_own", "_law_some_here", "_law_found", "_law_name", "_law_box", "_law_word_here"]
theorem sc_law_seen : FnScope N_law_seen ["_law_folders", "_law_own", "_law_some_here"] (defScope s_law_seen) := ⟨rfl, rfl, rfl, by decide +kernel, rfl, by decide +kernel, by decide +kernel⟩
theorem ok_law_seen (T : Txt G mg) : FnOk P w G.K mg base CX0 3 T.a_law_seen T.fd_law_seen ["_law_folders", "_law_own", "_law_some_here"] (sp_law_seen G) := by
  have nd := sc_law_seen.nd
  refine Fun.ok T.F_law_seen sc_law_seen (fun vs H Q E h => ?_) (fun cdv A outer s H vs Q E hr h => ?_)
  · obtain ⟨a_v_law_folders, v_law_folders, a_v_law_own, v_law_own, a_v_law_some_here, v_law_some_here, F, rfl, _⟩ := h; rfl
  · obtain ⟨a_v_law_folders, v_law_folders, a_v_law_own, v_law_own, a_v_law_some_here, v_law_some_here, F, rfl, hS, hm⟩ := h
    refine ⟨_, (pss_cons (ps_set (i := 3) nd rfl (Or.inl rfl) (pe_fz (pe_lst (pa_cons (pe_fz (pe_meth0 (pv 0) T.cl_Folders T.m_Folders_folders (ok_Folders_folders T) (hr.mono (by decide)) T.b_Folders_folders .nil pass0)) pa_nil))))
      (pss_cons (ps_for PassesOwn.never rfl (pi_listK G.K (pe_fz (pe_callB (cr_sortD rfl) (by rfl) T.z_sorted (by decide +kernel) (pa_cons (pv 1) pa_nil)))) (pg_name (i := 4) nd rfl (Or.inl rfl)) (pss_one (ps_expr (pe_bmK G.K PySem.F.plainAttrs_list PySem.F.slot_list_append PySem.F.type_list_append mt_append (pe_fz (pv 3)) (pa_cons (pe_tup (pa_cons (pe_meth (pv 0) T.cl_Folders T.m_Folders_folder (ok_Folders_folder T) (hr.mono (by decide)) T.b_Folders_folder .nil passL (pa_cons (pv 4) pa_nil)) (pa_cons (pe_fz (pe_meth (pv 0) T.cl_Folders T.m_Folders_marks (ok_Folders_marks T) (hr.mono (by decide)) T.b_Folders_marks .nil passL (pa_cons (pv 4) pa_nil))) pa_nil))) pa_nil)))))
      (pss_cons (ps_for PassesOwn.never rfl (pi_listK G.K (pe_ix (ix_listK G.K) (pe_fz (pv 2)) pe_int (fun _ _ => rfl))) (pg_name (i := 5) nd rfl (Or.inr rfl)) (pss_cons (ps_expr (pe_bmK G.K PySem.F.plainAttrs_list PySem.F.slot_list_append PySem.F.type_list_append mt_append (pe_fz (pv 3)) (pa_cons (pe_tup (pa_cons (pe_meth (pv 0) T.cl_Folders T.m_Folders_counts (ok_Folders_counts T) (hr.mono (by decide)) T.b_Folders_counts .nil pass0 (pa_cons (pv 5) pa_nil)) (pa_cons (pe_fz (pe_meth (pv 0) T.cl_Folders T.m_Folders_names (ok_Folders_names T) (hr.mono (by decide)) T.b_Folders_names .nil pass0 (pa_cons (pv 5) pa_nil))) pa_nil))) pa_nil)))
      (pss_one (ps_expr (pe_bmK G.K PySem.F.plainAttrs_list PySem.F.slot_list_append PySem.F.type_list_append mt_append (pe_fz (pv 3)) (pa_cons (pe_fz (pe_lc (own := [("_law_word_here", 6)]) (g := gName 6) rfl nd (pi_listK G.K (pe_ix (ix_listK G.K) (pe_fz (pv 2)) pe_int (fun _ _ => rfl))) (blkOk_by (own := [("_law_word_here", 6)]) (N := N_law_seen) (sc := defScope s_law_seen) (by decide +kernel)) (fun _ _ _ _ _ => pg_name (i := 6) nd rfl (Or.inl rfl)) (fun _ _ _ _ _ => pts_nil) (fun _ _ _ _ _ => (pe_meth (pv 0) T.cl_Folders T.m_Folders_marked (ok_Folders_marked T) (hr.mono (by decide)) T.b_Folders_marked .nil pass0 (pa_cons (pv 5) (pa_cons (pv 6) pa_nil)))))) pa_nil))))))
      (pss_one (ps_ret (pe_fz (pv 3))))))), ?_⟩
    unfold m_law_seen at hm
    refine f_seq ?_
    refine c_asg ?_
    refine c_fz ?_
    refine c_lst ?_
    refine c_cons ?_
    refine c_fz ?_
    refine c_meth ?_
    refine ev_to (ev_var rfl) ?_
    obtain ⟨d1, _, _, _, _, hO2⟩ := ins_Folders hS (i := 0) rfl
    refine ⟨_, _, _, rfl, hO2, rfl, ?_⟩
    refine ea_to ea_nil ?_
    refine ⟨a_v_law_folders, (v_law_folders : Folders), star [dictE recSL a_v_law_own (v_law_own : (List (Str × (Str × (List Str))))), lstA a_v_law_some_here (v_law_some_here : (List (List Str))), F], rfl, Sep.unstar (M := [FoldersA a_v_law_folders v_law_folders]) (hS.sel [0, 1, 2, 3] (by decide) rfl : Sep H (([FoldersA a_v_law_folders v_law_folders] ++ [dictE recSL a_v_law_own (v_law_own : (List (Str × (Str × (List Str))))), lstA a_v_law_some_here (v_law_some_here : (List (List Str))), F] : List (Asn G)))), R.wp_mono (R.wp_bind hm) (fun r3 hm p4 H hS => ?_) (fun _ z => z)⟩
    have hS : Sep H ([lstA p4 (r3 : (List (T3 Str Int Int))), FoldersA a_v_law_folders v_law_folders, dictE recSL a_v_law_own (v_law_own : (List (Str × (Str × (List Str))))), lstA a_v_law_some_here (v_law_some_here : (List (List Str))), F] : List (Asn G)) := Sep.star (M := [lstA p4 (r3 : (List (T3 Str Int Int))), FoldersA a_v_law_folders v_law_folders]) hS
    refine fz_yes (xs := (r3 : (List (T3 Str Int Int)))) hS (i := 0) rfl fun H hS => ?_
    have hS : Sep H ([imA (.ref p4) (r3 : (List (T3 Str Int Int))), FoldersA a_v_law_folders v_law_folders, dictE recSL a_v_law_own (v_law_own : (List (Str × (Str × (List Str))))), lstA a_v_law_some_here (v_law_some_here : (List (List Str))), F] : List (Asn G)) := hS
    refine c_nil ?_
    refine k_lst (α := Any) (vs := [(.ref p4)]) (xs := [(Any.lst (r3.map sii))]) hS ⟨(any_lstSII (hS.im (i := 0) rfl)), True.intro⟩ (by show 1 ≤ sizeLine; decide) fun p6 H hS => ?_
    refine fz_no ?_
    obtain ⟨y7, hy7, hm⟩ := wp_let hm
    have hS : Sep H ([lstA p6 (y7 : (List Any)), imA (.ref p4) (r3 : (List (T3 Str Int Int))), FoldersA a_v_law_folders v_law_folders, dictE recSL a_v_law_own (v_law_own : (List (Str × (Str × (List Str))))), lstA a_v_law_some_here (v_law_some_here : (List (List Str))), F] : List (Asn G)) := by rw [← hy7]; exact hS
    refine c_set (σ' := [some (.ref a_v_law_folders), some (.ref a_v_law_own), some (.ref a_v_law_some_here), some (.ref p6), none, none, none]) rfl ?_
    refine sq_nx ?_
    refine f_seq ?_
    refine c_for ?_
    refine c_il ?_
    refine c_fz ?_
    refine c_cb ?_
    refine ea_to (ea_cons (ev_var rfl) ea_nil) ?_
    obtain ⟨h9, hm⟩ := R.wp_need hm
    refine k_sortDEi hS (i := 3) rfl h9 fun p8 H hS => ?_
    refine fz_no ?_
    refine k_il hS (i := 0) rfl ?_
    refine k_for (τ := (List Any)) (fun (s10 : (List Any)) (σ : L2.St) (H : Hp) => ∃ (w13 : Option V), σ = [some (.ref a_v_law_folders), some (.ref a_v_law_own), some (.ref a_v_law_some_here), some (.ref p6), w13, none, none] ∧ Sep H ([lstA p8 (sortT (v_law_own.map (·.1)) : (List Str)), lstA p6 (s10 : (List Any)), imA (.ref p4) (r3 : (List (T3 Str Int Int))), FoldersA a_v_law_folders v_law_folders, dictE recSL a_v_law_own (v_law_own : (List (Str × (Str × (List Str))))), lstA a_v_law_some_here (v_law_some_here : (List (List Str))), F] : List (Asn G))) (im := (Im.im G)) (s := (y7)) (fun _ => wk_list fun _ _ ⟨_, _, h⟩ => h.sq (i := 0) rfl) ⟨_, rfl, hS.sel [0, 1, 2, 3, 4, 5, 6] (by decide) rfl⟩ hm (fun s10 x11 v12 σ H q N hI hx hm nx => ?_) (fun s10 σ H hm hI => ?_)
    ·
      obtain ⟨w13, rfl, hS⟩ := hI
      cases hx
      refine c_gN (σ' := [some (.ref a_v_law_folders), some (.ref a_v_law_own), some (.ref a_v_law_some_here), some (.ref p6), some (.str (x11)), none, none]) rfl ?_
      refine c_drop ?_
      refine c_bm ?_
      refine ev_to (ev_fz (ev_var rfl)) ⟨tyL hS (i := 1) rfl, ?_⟩
      refine c_cons ?_
      refine c_tup ?_
      refine c_cons ?_
      refine c_meth ?_
      refine ev_to (ev_var rfl) ?_
      obtain ⟨d14, _, _, _, _, hO15⟩ := ins_Folders hS (i := 3) rfl
      refine ⟨_, _, _, rfl, hO15, rfl, ?_⟩
      refine ea_to (ea_cons (ev_var rfl) ea_nil) ?_
      refine ⟨a_v_law_folders, (v_law_folders : Folders), x11, star [lstA p8 (sortT (v_law_own.map (·.1)) : (List Str)), lstA p6 (s10 : (List Any)), imA (.ref p4) (r3 : (List (T3 Str Int Int))), dictE recSL a_v_law_own (v_law_own : (List (Str × (Str × (List Str))))), lstA a_v_law_some_here (v_law_some_here : (List (List Str))), F], rfl, Sep.unstar (M := [FoldersA a_v_law_folders v_law_folders]) (hS.sel [3, 0, 1, 2, 4, 5, 6] (by decide) rfl : Sep H (([FoldersA a_v_law_folders v_law_folders] ++ [lstA p8 (sortT (v_law_own.map (·.1)) : (List Str)), lstA p6 (s10 : (List Any)), imA (.ref p4) (r3 : (List (T3 Str Int Int))), dictE recSL a_v_law_own (v_law_own : (List (Str × (Str × (List Str))))), lstA a_v_law_some_here (v_law_some_here : (List (List Str))), F] : List (Asn G)))), R.wp_mono (R.wp_bind hm) (fun r16 hm H hS => ?_) (fun _ z => z.elim)⟩
      have hS : Sep H ([FoldersA a_v_law_folders v_law_folders, lstA p8 (sortT (v_law_own.map (·.1)) : (List Str)), lstA p6 (s10 : (List Any)), imA (.ref p4) (r3 : (List (T3 Str Int Int))), dictE recSL a_v_law_own (v_law_own : (List (Str × (Str × (List Str))))), lstA a_v_law_some_here (v_law_some_here : (List (List Str))), F] : List (Asn G)) := Sep.star (M := [FoldersA a_v_law_folders v_law_folders]) hS
      refine c_cons ?_
      refine c_fz ?_
      refine c_meth ?_
      refine ev_to (ev_var rfl) ?_
      obtain ⟨d17, _, _, _, _, hO18⟩ := ins_Folders hS (i := 0) rfl
      refine ⟨_, _, _, rfl, hO18, rfl, ?_⟩
      refine ea_to (ea_cons (ev_var rfl) ea_nil) ?_
      refine ⟨a_v_law_folders, (v_law_folders : Folders), x11, star [lstA p8 (sortT (v_law_own.map (·.1)) : (List Str)), lstA p6 (s10 : (List Any)), imA (.ref p4) (r3 : (List (T3 Str Int Int))), dictE recSL a_v_law_own (v_law_own : (List (Str × (Str × (List Str))))), lstA a_v_law_some_here (v_law_some_here : (List (List Str))), F], rfl, Sep.unstar (M := [FoldersA a_v_law_folders v_law_folders]) (hS.sel [0, 1, 2, 3, 4, 5, 6] (by decide) rfl : Sep H (([FoldersA a_v_law_folders v_law_folders] ++ [lstA p8 (sortT (v_law_own.map (·.1)) : (List Str)), lstA p6 (s10 : (List Any)), imA (.ref p4) (r3 : (List (T3 Str Int Int))), dictE recSL a_v_law_own (v_law_own : (List (Str × (Str × (List Str))))), lstA a_v_law_some_here (v_law_some_here : (List (List Str))), F] : List (Asn G)))), R.wp_mono (R.wp_bind hm) (fun r19 hm p20 H hS => ?_) (fun _ z => z.elim)⟩
      have hS : Sep H ([lstA p20 (r19 : (List Str)), FoldersA a_v_law_folders v_law_folders, lstA p8 (sortT (v_law_own.map (·.1)) : (List Str)), lstA p6 (s10 : (List Any)), imA (.ref p4) (r3 : (List (T3 Str Int Int))), dictE recSL a_v_law_own (v_law_own : (List (Str × (Str × (List Str))))), lstA a_v_law_some_here (v_law_some_here : (List (List Str))), F] : List (Asn G)) := Sep.star (M := [lstA p20 (r19 : (List Str)), FoldersA a_v_law_folders v_law_folders]) hS
      refine fz_yes (xs := (r19 : (List Str))) hS (i := 0) rfl fun H hS => ?_
      have hS : Sep H ([imA (.ref p20) (r19 : (List Str)), FoldersA a_v_law_folders v_law_folders, lstA p8 (sortT (v_law_own.map (·.1)) : (List Str)), lstA p6 (s10 : (List Any)), imA (.ref p4) (r3 : (List (T3 Str Int Int))), dictE recSL a_v_law_own (v_law_own : (List (Str × (Str × (List Str))))), lstA a_v_law_some_here (v_law_some_here : (List (List Str))), F] : List (Asn G)) := hS
      refine c_nil ?_
      refine k_tupA (vs := [(.str (r16)), (.ref p20)]) (xs := [(Any.str r16), (Any.lst (r19.map Any.str))]) hS ⟨(any_str.mpr rfl), ⟨(any_lstS (hS.im (i := 0) rfl)), True.intro⟩⟩ (by show 2 ≤ sizeLine; decide) fun p22 H hS => ?_
      refine c_nil ?_
      obtain ⟨h24, hm⟩ := R.wp_need hm
      refine k_append (x := (Any.tup [(Any.str r16), (Any.lst (r19.map Any.str))])) hS (i := 4) rfl (hS.im (i := 0) rfl) h24 rfl fun H hS => ?_
      exact nx _ _ _ hm ⟨_, rfl, hS.sel [3, 4, 5, 2, 6, 7, 8] (by decide) rfl⟩
    · obtain ⟨w13, rfl, hS⟩ := hI
      refine sq_nx ?_
      refine f_seq ?_
      refine c_for ?_
      refine c_il ?_
      obtain ⟨x25, hx25, hm⟩ := wp_idx hm
      obtain ⟨vs26, hq27, hM28⟩ := hS.sq (i := 5) rfl
      obtain ⟨u29, hu30, hi31⟩ := atI_im hM28 hx25
      obtain ⟨a32, rfl⟩ := isref hi31
      refine ev_to (ev_ixSq (ev_fz (ev_var rfl)) ev_c hq27 hu30) ?_
      have hS := hS.addIm (v := (.ref a32)) (x := (x25 : (List Str))) hi31
      refine k_ilG (imPl (hS.im (i := 0) rfl)) ?_
      refine k_for (τ := (List Any)) (fun (s34 : (List Any)) (σ : L2.St) (H : Hp) => ∃ (w37 : Option V), σ = [some (.ref a_v_law_folders), some (.ref a_v_law_own), some (.ref a_v_law_some_here), some (.ref p6), w13, w37, none] ∧ Sep H ([imA (.ref a32) (x25 : (List Str)), lstA p8 (sortT (v_law_own.map (·.1)) : (List Str)), lstA p6 (s34 : (List Any)), imA (.ref p4) (r3 : (List (T3 Str Int Int))), FoldersA a_v_law_folders v_law_folders, dictE recSL a_v_law_own (v_law_own : (List (Str × (Str × (List Str))))), lstA a_v_law_some_here (v_law_some_here : (List (List Str))), F] : List (Asn G))) (im := (Im.im G)) (s := (s10)) (fun _ => wk_list fun _ _ ⟨_, _, h⟩ => imPl (h.im (i := 0) rfl)) ⟨_, rfl, hS.sel [0, 1, 2, 3, 4, 5, 6, 7] (by decide) rfl⟩ hm (fun s34 x35 v36 σ H q N hI hx hm nx => ?_) (fun s34 σ H hm hI => ?_)
      ·
        obtain ⟨w37, rfl, hS⟩ := hI
        cases hx
        refine c_gN (σ' := [some (.ref a_v_law_folders), some (.ref a_v_law_own), some (.ref a_v_law_some_here), some (.ref p6), w13, some (.str (x35)), none]) rfl ?_
        refine f_seq ?_
        refine c_drop ?_
        refine c_bm ?_
        refine ev_to (ev_fz (ev_var rfl)) ⟨tyL hS (i := 2) rfl, ?_⟩
        refine c_cons ?_
        refine c_tup ?_
        refine c_cons ?_
        refine c_meth ?_
        refine ev_to (ev_var rfl) ?_
        obtain ⟨d38, _, _, _, _, hO39⟩ := ins_Folders hS (i := 4) rfl
        refine ⟨_, _, _, rfl, hO39, rfl, ?_⟩
        refine ea_to (ea_cons (ev_var rfl) ea_nil) ?_
        refine ⟨a_v_law_folders, (v_law_folders : Folders), x35, star [imA (.ref a32) (x25 : (List Str)), lstA p8 (sortT (v_law_own.map (·.1)) : (List Str)), lstA p6 (s34 : (List Any)), imA (.ref p4) (r3 : (List (T3 Str Int Int))), dictE recSL a_v_law_own (v_law_own : (List (Str × (Str × (List Str))))), lstA a_v_law_some_here (v_law_some_here : (List (List Str))), F], rfl, Sep.unstar (M := [FoldersA a_v_law_folders v_law_folders]) (hS.sel [4, 0, 1, 2, 3, 5, 6, 7] (by decide) rfl : Sep H (([FoldersA a_v_law_folders v_law_folders] ++ [imA (.ref a32) (x25 : (List Str)), lstA p8 (sortT (v_law_own.map (·.1)) : (List Str)), lstA p6 (s34 : (List Any)), imA (.ref p4) (r3 : (List (T3 Str Int Int))), dictE recSL a_v_law_own (v_law_own : (List (Str × (Str × (List Str))))), lstA a_v_law_some_here (v_law_some_here : (List (List Str))), F] : List (Asn G)))), R.wp_mono (R.wp_bind hm) (fun r40 hm p41 H hS => ?_) (fun _ z => z)⟩
        have hS : Sep H ([imA (.ref p41) (r40 : (Int × Int)), FoldersA a_v_law_folders v_law_folders, imA (.ref a32) (x25 : (List Str)), lstA p8 (sortT (v_law_own.map (·.1)) : (List Str)), lstA p6 (s34 : (List Any)), imA (.ref p4) (r3 : (List (T3 Str Int Int))), dictE recSL a_v_law_own (v_law_own : (List (Str × (Str × (List Str))))), lstA a_v_law_some_here (v_law_some_here : (List (List Str))), F] : List (Asn G)) := Sep.star (M := [imA (.ref p41) (r40 : (Int × Int)), FoldersA a_v_law_folders v_law_folders]) hS
        refine c_cons ?_
        refine c_fz ?_
        refine c_meth ?_
        refine ev_to (ev_var rfl) ?_
        obtain ⟨d43, _, _, _, _, hO44⟩ := ins_Folders hS (i := 1) rfl
        refine ⟨_, _, _, rfl, hO44, rfl, ?_⟩
        refine ea_to (ea_cons (ev_var rfl) ea_nil) ?_
        refine ⟨a_v_law_folders, (v_law_folders : Folders), x35, star [imA (.ref p41) (r40 : (Int × Int)), imA (.ref a32) (x25 : (List Str)), lstA p8 (sortT (v_law_own.map (·.1)) : (List Str)), lstA p6 (s34 : (List Any)), imA (.ref p4) (r3 : (List (T3 Str Int Int))), dictE recSL a_v_law_own (v_law_own : (List (Str × (Str × (List Str))))), lstA a_v_law_some_here (v_law_some_here : (List (List Str))), F], rfl, Sep.unstar (M := [FoldersA a_v_law_folders v_law_folders]) (hS.sel [1, 0, 2, 3, 4, 5, 6, 7, 8] (by decide) rfl : Sep H (([FoldersA a_v_law_folders v_law_folders] ++ [imA (.ref p41) (r40 : (Int × Int)), imA (.ref a32) (x25 : (List Str)), lstA p8 (sortT (v_law_own.map (·.1)) : (List Str)), lstA p6 (s34 : (List Any)), imA (.ref p4) (r3 : (List (T3 Str Int Int))), dictE recSL a_v_law_own (v_law_own : (List (Str × (Str × (List Str))))), lstA a_v_law_some_here (v_law_some_here : (List (List Str))), F] : List (Asn G)))), R.wp_mono (R.wp_bind hm) (fun r45 hm p46 H hS => ?_) (fun _ z => z)⟩
        have hS : Sep H ([lstA p46 (r45 : (List Str)), FoldersA a_v_law_folders v_law_folders, imA (.ref p41) (r40 : (Int × Int)), imA (.ref a32) (x25 : (List Str)), lstA p8 (sortT (v_law_own.map (·.1)) : (List Str)), lstA p6 (s34 : (List Any)), imA (.ref p4) (r3 : (List (T3 Str Int Int))), dictE recSL a_v_law_own (v_law_own : (List (Str × (Str × (List Str))))), lstA a_v_law_some_here (v_law_some_here : (List (List Str))), F] : List (Asn G)) := Sep.star (M := [lstA p46 (r45 : (List Str)), FoldersA a_v_law_folders v_law_folders]) hS
        refine fz_yes (xs := (r45 : (List Str))) hS (i := 0) rfl fun H hS => ?_
        have hS : Sep H ([imA (.ref p46) (r45 : (List Str)), FoldersA a_v_law_folders v_law_folders, imA (.ref p41) (r40 : (Int × Int)), imA (.ref a32) (x25 : (List Str)), lstA p8 (sortT (v_law_own.map (·.1)) : (List Str)), lstA p6 (s34 : (List Any)), imA (.ref p4) (r3 : (List (T3 Str Int Int))), dictE recSL a_v_law_own (v_law_own : (List (Str × (Str × (List Str))))), lstA a_v_law_some_here (v_law_some_here : (List (List Str))), F] : List (Asn G)) := hS
        refine c_nil ?_
        obtain ⟨u48, u49, hT52, h50, h51⟩ := im2 (hS.im (i := 2) rfl)
        obtain rfl : u48 = (.int (r40.1)) := h50
        obtain rfl : u49 = (.int (r40.2)) := h51
        refine k_tupA (vs := [(.ref p41), (.ref p46)]) (xs := [(Any.tup [(Any.int r40.1), (Any.int r40.2)]), (Any.lst (r45.map Any.str))]) hS ⟨((any_tup (xs := [(Any.int r40.1), (Any.int r40.2)])).mpr ⟨_, _, rfl, hT52, ⟨(any_int.mpr rfl), ⟨(any_int.mpr rfl), True.intro⟩⟩⟩), ⟨(any_lstS (hS.im (i := 0) rfl)), True.intro⟩⟩ (by show 2 ≤ sizeLine; decide) fun p53 H hS => ?_
        refine c_nil ?_
        obtain ⟨h55, hm⟩ := R.wp_need hm
        refine k_append (x := (Any.tup [(Any.tup [(Any.int r40.1), (Any.int r40.2)]), (Any.lst (r45.map Any.str))])) hS (i := 6) rfl (hS.im (i := 0) rfl) h55 rfl fun H hS => ?_
        refine sq_nx ?_
        refine c_drop ?_
        refine c_bm ?_
        refine ev_to (ev_fz (ev_var rfl)) ⟨tyL hS (i := 6) rfl, ?_⟩
        refine c_cons ?_
        refine c_fz ?_
        refine c_lc ?_
        refine c_il ?_
        obtain ⟨x56, hx56, hm⟩ := wp_idx hm
        obtain ⟨vs57, hq58, hM59⟩ := hS.sq (i := 9) rfl
        obtain ⟨u60, hu61, hi62⟩ := atI_im hM59 hx56
        obtain ⟨a63, rfl⟩ := isref hi62
        refine ev_to (ev_ixSq (ev_fz (ev_var rfl)) ev_c hq58 hu61) ?_
        have hS := hS.addIm (v := (.ref a63)) (x := (x56 : (List Str))) hi62
        refine k_ilG (imPl (hS.im (i := 0) rfl)) ?_
        obtain ⟨h65, hm⟩ := R.wp_need hm
        refine lc_sep (β := Int) (fun (_ : Unit) => ([imA (.ref a63) (x56 : (List Str)), imA (.ref p53) ((Any.tup [(Any.tup [(Any.int r40.1), (Any.int r40.2)]), (Any.lst (r45.map Any.str))]) : Any), imA (.ref p46) (r45 : (List Str)), FoldersA a_v_law_folders v_law_folders, imA (.ref p41) (r40 : (Int × Int)), imA (.ref a32) (x25 : (List Str)), lstA p8 (sortT (v_law_own.map (·.1)) : (List Str)), lstA p6 (s34 ++ [(Any.tup [(Any.tup [(Any.int r40.1), (Any.int r40.2)]), (Any.lst (r45.map Any.str))])] : (List Any)), imA (.ref p4) (r3 : (List (T3 Str Int Int))), dictE recSL a_v_law_own (v_law_own : (List (Str × (Str × (List Str))))), lstA a_v_law_some_here (v_law_some_here : (List (List Str))), F] : List (Asn G))) (s := ()) (im := (Im.im G)) hS (fun _ _ _ => wk_list fun _ _ h => imPl (h.im (i := 1) rfl)) h65 hm (fun p66 _ ys69 x67 v68 H q Nx hS hx hm kS kN => ?_) (fun p66 t H hm hS => ?_)
        ·
          cases hx
          refine c_gLc (σ' := [some (.ref a_v_law_folders), some (.ref a_v_law_own), some (.ref a_v_law_some_here), some (.ref p6), w13, some (.str (x35)), some (.str (x67))]) rfl rfl ?_
          refine c_yes ?_
          refine c_meth ?_
          refine ev_to (ev_var rfl) ?_
          obtain ⟨d70, _, _, _, _, hO71⟩ := ins_Folders hS (i := 4) rfl
          refine ⟨_, _, _, rfl, hO71, rfl, ?_⟩
          refine ea_to (ea_cons (ev_var rfl) (ea_cons (ev_var rfl) ea_nil)) ?_
          refine ⟨a_v_law_folders, (v_law_folders : Folders), x35, x67, star [lstA p66 (ys69 : List Int), imA (.ref a63) (x56 : (List Str)), imA (.ref p53) ((Any.tup [(Any.tup [(Any.int r40.1), (Any.int r40.2)]), (Any.lst (r45.map Any.str))]) : Any), imA (.ref p46) (r45 : (List Str)), imA (.ref p41) (r40 : (Int × Int)), imA (.ref a32) (x25 : (List Str)), lstA p8 (sortT (v_law_own.map (·.1)) : (List Str)), lstA p6 (s34 ++ [(Any.tup [(Any.tup [(Any.int r40.1), (Any.int r40.2)]), (Any.lst (r45.map Any.str))])] : (List Any)), imA (.ref p4) (r3 : (List (T3 Str Int Int))), dictE recSL a_v_law_own (v_law_own : (List (Str × (Str × (List Str))))), lstA a_v_law_some_here (v_law_some_here : (List (List Str))), F], rfl, Sep.unstar (M := [FoldersA a_v_law_folders v_law_folders]) (hS.sel [4, 0, 1, 2, 3, 5, 6, 7, 8, 9, 10, 11, 12] (by decide) rfl : Sep H (([FoldersA a_v_law_folders v_law_folders] ++ [lstA p66 (ys69 : List Int), imA (.ref a63) (x56 : (List Str)), imA (.ref p53) ((Any.tup [(Any.tup [(Any.int r40.1), (Any.int r40.2)]), (Any.lst (r45.map Any.str))]) : Any), imA (.ref p46) (r45 : (List Str)), imA (.ref p41) (r40 : (Int × Int)), imA (.ref a32) (x25 : (List Str)), lstA p8 (sortT (v_law_own.map (·.1)) : (List Str)), lstA p6 (s34 ++ [(Any.tup [(Any.tup [(Any.int r40.1), (Any.int r40.2)]), (Any.lst (r45.map Any.str))])] : (List Any)), imA (.ref p4) (r3 : (List (T3 Str Int Int))), dictE recSL a_v_law_own (v_law_own : (List (Str × (Str × (List Str))))), lstA a_v_law_some_here (v_law_some_here : (List (List Str))), F] : List (Asn G)))), R.wp_mono (R.wp_bind hm) (fun r72 hm H hS => ?_) (fun _ z => z)⟩
          have hS : Sep H ([FoldersA a_v_law_folders v_law_folders, lstA p66 (ys69 : List Int), imA (.ref a63) (x56 : (List Str)), imA (.ref p53) ((Any.tup [(Any.tup [(Any.int r40.1), (Any.int r40.2)]), (Any.lst (r45.map Any.str))]) : Any), imA (.ref p46) (r45 : (List Str)), imA (.ref p41) (r40 : (Int × Int)), imA (.ref a32) (x25 : (List Str)), lstA p8 (sortT (v_law_own.map (·.1)) : (List Str)), lstA p6 (s34 ++ [(Any.tup [(Any.tup [(Any.int r40.1), (Any.int r40.2)]), (Any.lst (r45.map Any.str))])] : (List Any)), imA (.ref p4) (r3 : (List (T3 Str Int Int))), dictE recSL a_v_law_own (v_law_own : (List (Str × (Str × (List Str))))), lstA a_v_law_some_here (v_law_some_here : (List (List Str))), F] : List (Asn G)) := Sep.star (M := [FoldersA a_v_law_folders v_law_folders]) hS
          exact kS () _ _ _ hm rfl (hS.sel [1, 2, 3, 4, 0, 5, 6, 7, 8, 9, 10, 11, 12] (by decide) rfl)
        · revert hm hS; generalize t = t73; intro hm hS
          refine fz_yes (xs := (t73.2 : (List Int))) hS (i := 0) rfl fun H hS => ?_
          have hS : Sep H ([imA (.ref p66) (t73.2 : (List Int)), imA (.ref a63) (x56 : (List Str)), imA (.ref p53) ((Any.tup [(Any.tup [(Any.int r40.1), (Any.int r40.2)]), (Any.lst (r45.map Any.str))]) : Any), imA (.ref p46) (r45 : (List Str)), FoldersA a_v_law_folders v_law_folders, imA (.ref p41) (r40 : (Int × Int)), imA (.ref a32) (x25 : (List Str)), lstA p8 (sortT (v_law_own.map (·.1)) : (List Str)), lstA p6 (s34 ++ [(Any.tup [(Any.tup [(Any.int r40.1), (Any.int r40.2)]), (Any.lst (r45.map Any.str))])] : (List Any)), imA (.ref p4) (r3 : (List (T3 Str Int Int))), dictE recSL a_v_law_own (v_law_own : (List (Str × (Str × (List Str))))), lstA a_v_law_some_here (v_law_some_here : (List (List Str))), F] : List (Asn G)) := hS
          refine c_nil ?_
          obtain ⟨h75, hm⟩ := R.wp_need hm
          refine k_append (x := (Any.lst (t73.2.map Any.int))) hS (i := 8) rfl (any_lstI (hS.im (i := 0) rfl)) h75 rfl fun H hS => ?_
          exact nx _ _ _ hm ⟨_, rfl, hS.sel [6, 7, 8, 9, 4, 10, 11, 12] (by decide) rfl⟩
      · obtain ⟨w37, rfl, hS⟩ := hI
        refine sq_nx ?_
        refine c_ret ?_
        refine c_fz ?_
        refine ev_to (ev_var rfl) ?_
        refine fz_yes (xs := (s34 : (List Any))) hS (i := 2) rfl fun H hS => ?_
        have hS : Sep H ([imA (.ref p6) (s34 : (List Any)), imA (.ref a32) (x25 : (List Str)), lstA p8 (sortT (v_law_own.map (·.1)) : (List Str)), imA (.ref p4) (r3 : (List (T3 Str Int Int))), FoldersA a_v_law_folders v_law_folders, dictE recSL a_v_law_own (v_law_own : (List (Str × (Str × (List Str))))), lstA a_v_law_some_here (v_law_some_here : (List (List Str))), F] : List (Asn G)) := hS
        exact hm _ _ (hS.sel [0, 4, 5, 6, 7] (by decide) rfl)
def sp_law (G : Gx) : Sp := fun vs H Q E => ∃ (a_v_law_script : V) (v_law_script : Script) (F : Asn G), vs = [a_v_law_script] ∧ Im.im G H a_v_law_script v_law_script ∧ Sep H ([F] : List (Asn G)) ∧ R.wp (m_law v_law_script) (fun r => ∀ H', Sep H' ([F] : List (Asn G)) → Q (.bl (r)) H') (fun _ => False)
abbrev N_law : List Str := ["_law_script", "_law_row_here", "_law_some_here", "_law_folders", "_law_own", "_law_k", "_law_deed_here", "_law_number", "_law_name", "_law_way", "_law_ahead", "_law_good", "_law_turn"]
theorem sc_law : FnScope N_law ["_law_script"] (defScope s_law) := ⟨rfl, rfl, rfl, by decide +kernel, rfl, by decide +kernel, by decide +kernel⟩
theorem ok_law (T : Txt G mg) : FnOk P w G.K mg base CX0 7 T.a_law T.fd_law ["_law_script"] (sp_law G) := by
  have nd := sc_law.nd
  refine Fun.ok T.F_law sc_law (fun vs H Q E h => ?_) (fun cdv A outer s H vs Q E hr h => ?_)
  · obtain ⟨a_v_law_script, v_law_script, F, rfl, _⟩ := h; rfl
  · obtain ⟨a_v_law_script, v_law_script, F, rfl, him_v_law_script, hS, hm⟩ := h
    obtain ⟨ad_v_law_script, rfl, _⟩ := im_script him_v_law_script
    have hS := hS.addIm him_v_law_script
    refine ⟨_, (pss_cons (ps_set (i := 1) nd rfl (Or.inl rfl) (pe_fz (pe_call (ok_law_row T) (hr.mono (by decide)) rfl T.g_law_row T.kp_law_row T.b_law_row .nil pass0 (pa_cons (pv 0) (pa_cons pe_int pa_nil)))))
      (pss_cons (ps_set (i := 2) nd rfl (Or.inl rfl) (pe_fz (pe_call (ok_law_some T) (hr.mono (by decide)) rfl T.g_law_some T.kp_law_some T.b_law_some .nil pass0 (pa_cons (pe_ix (ix_listK G.K) (pe_fz (pv 1)) pe_int (fun _ _ => rfl)) pa_nil))))
      (pss_cons (ps_set (i := 3) nd rfl (Or.inl rfl) (pe_make0 T.k_Folders (ok_Folders___init__ T) (hr.mono (by decide)) rfl T.g_Folders T.b_Folders___init__ .nil pass0))
      (pss_cons (ps_set (i := 4) nd rfl (Or.inl rfl) pe_dnewK)
      (pss_cons (ps_for PassesOwn.never rfl (pi_range1 rfl T.z_range (pa_cons (pe_op op_mod (pe_ix (ix_listK G.K) (pe_fz (pv 1)) pe_int (fun _ _ => rfl)) pe_int) pa_nil)) (pg_name (i := 5) nd rfl (Or.inl rfl)) (pss_cons (ps_set (i := 6) nd rfl (Or.inl rfl) (pe_tup (pa_cons pe_str (pa_cons (pe_ix (ix_listK G.K) (pe_ix (ix_listK G.K) (pe_fz (pv 2)) pe_int (fun _ _ => rfl)) (pe_op op_mod (pe_ix (ix_listK G.K) (pe_fz (pv 1)) (pe_op op_add pe_int (pv 5)) (fun _ _ => rfl)) pe_int) (fun _ _ => rfl)) (pa_cons (pe_ix (ix_listK G.K) (pe_ix (ix_listK G.K) (pe_fz (pv 2)) pe_int (fun _ _ => rfl)) (pe_op op_mod (pe_ix (ix_listK G.K) (pe_fz (pv 1)) (pe_op op_add pe_int (pv 5)) (fun _ _ => rfl)) pe_int) (fun _ _ => rfl)) (pa_cons (pe_callTy (tupleOfK G.K) (by rfl) T.z_tuple (by decide +kernel) (pa_cons (pe_fz (pe_slice (sl_listK G.K) (pe_ix (ix_listK G.K) (pe_fz (pv 2)) pe_int (fun _ _ => rfl)) po_none (po_some (pe_op op_mod (pe_ix (ix_listK G.K) (pe_fz (pv 1)) (pe_op op_add pe_int (pv 5)) (fun _ _ => rfl)) pe_int)))) pa_nil)) pa_nil))))))
      (pss_one (ps_if (pt_cmp (pc_dnotin (hu_of hr) (pe_ix (ix_tupK G.K) (pv 6) pe_int (fun _ _ => rfl)) (pv 4))) (pss_cons (ps_expr (pe_call (ok_law_does T) (hr.mono (by decide)) rfl T.g_law_does T.kp_law_does T.b_law_does .nil passL (pa_cons (pv 3) (pa_cons (pv 6) (pa_cons pe_bl pa_nil)))))
      (pss_one (ps_expr (pe_call (ok_law_done T) (hr.mono (by decide)) rfl T.g_law_done T.kp_law_done T.b_law_done .nil pass0 (pa_cons (pv 4) (pa_cons (pv 6) pa_nil)))))) pss_nil))))
      (pss_cons (ps_for PassesOwn.never rfl (pi_range1 rfl T.z_range (pa_cons (pe_callB (call_min2 rfl) (by rfl) T.z_min (by decide +kernel) (pa_cons pe_int (pa_cons (pe_callB (lenSqK G.K) (by rfl) T.z_len PySem.boot_len (pa_cons (pv 0) pa_nil)) pa_nil))) pa_nil)) (pg_name (i := 5) nd rfl (Or.inl rfl)) (pss_cons (ps_set (i := 7) nd rfl (Or.inl rfl) (pe_ix (ix_listK G.K) (pe_fz (pv 1)) (pe_op op_add pe_int (pv 5)) (fun _ _ => rfl)))
      (pss_cons (ps_set (i := 8) nd rfl (Or.inl rfl) (pe_ix (ix_listK G.K) (pe_ix (ix_listK G.K) (pe_fz (pv 2)) pe_int (fun _ _ => rfl)) (pe_op op_mod (pe_op op_fdiv (pv 7) pe_int) pe_int) (fun _ _ => rfl)))
      (pss_cons (ps_set (i := 9) nd rfl (Or.inl rfl) (pe_op op_mod (pv 7) pe_int))
      (pss_cons (ps_if (pt_cmpR op_ne (pe_cmp (pc_din (hu_of hr) (pv 8) (pv 4)) rfl) (pe_cmpR op_eq (pe_op op_mod (pv 9) pe_int) pe_int (nomark _)) (nomark _)) (pss_one (ps_set (i := 9) nd rfl (Or.inl rfl) (pe_ix (ix_listK G.K) (pe_fz (pe_lst (pa_cons pe_int (pa_cons pe_int (pa_cons pe_int (pa_cons pe_int (pa_cons pe_int (pa_cons pe_int (pa_cons pe_int (pa_cons pe_int pa_nil)))))))))) (pe_ifExp (pt_cmp (pc_din (hu_of hr) (pv 8) (pv 4))) (pe_op op_mod (pe_op op_fdiv (pv 7) pe_int) pe_int) (pe_op op_add pe_int (pe_op op_mod (pe_op op_fdiv (pv 7) pe_int) pe_int))) (fun _ _ => rfl)))) pss_nil)
      (pss_cons (ps_set (i := 10) nd rfl (Or.inl rfl) (pe_call (ok_law_seen T) (hr.mono (by decide)) rfl T.g_law_seen T.kp_law_seen T.b_law_seen .nil pass0 (pa_cons (pv 3) (pa_cons (pv 4) (pa_cons (pe_fz (pv 2)) pa_nil)))))
      (pss_cons (ps_set (i := 11) nd rfl (Or.inl rfl) (pe_call (ok_law_odd_refused T) (hr.mono (by decide)) rfl T.g_law_odd_refused T.kp_law_odd_refused T.b_law_odd_refused .nil pass0 (pa_cons (pv 3) (pa_cons (pe_fz (pv 2)) (pa_cons (pv 7) pa_nil)))))
      (pss_cons (ps_for PassesOwn.never rfl (pi_range1 rfl T.z_range (pa_cons pe_int pa_nil)) (pg_name (i := 12) nd rfl (Or.inl rfl)) (pss_one (ps_set (i := 11) nd rfl (Or.inl rfl) (pe_and (pv 11) (pe_one (pe_call (ok_law_refused T) (hr.mono (by decide)) rfl T.g_law_refused T.kp_law_refused T.b_law_refused .nil pass0 (pa_cons (pv 3) (pa_cons (pv 9) (pa_cons (pv 8) (pa_cons (pe_fz (pv 2)) (pa_cons (pv 7) pa_nil)))))))))))
      (pss_cons (ps_if (PW.pt (pw_or (pt_not (pt_val (pv 11))) (pw_or1 (pt_cmpR (neDK G.K hr.units) (pe_call (ok_law_seen T) (hr.mono (by decide)) rfl T.g_law_seen T.kp_law_seen T.b_law_seen .nil pass0 (pa_cons (pv 3) (pa_cons (pv 4) (pa_cons (pe_fz (pv 2)) pa_nil)))) (pv 10) (nomark _))))) (pss_one (ps_ret pe_bl)) pss_nil)
      (pss_cons (ps_if (pt_cmpR op_eq (pe_op op_mod (pv 9) pe_int) pe_int (nomark _)) (pss_cons (ps_expr (pe_meth (pv 3) T.cl_Folders T.m_Folders_take_out (ok_Folders_take_out T) (hr.mono (by decide)) T.b_Folders_take_out .nil passL (pa_cons (pv 8) pa_nil)))
      (pss_one (ps_expr (pe_dpop1 (pv 4) (pv 8) m1)))) (pss_one (ps_if (pt_cmpR op_eq (pe_op op_mod (pe_op op_fdiv (pv 7) pe_int) pe_int) pe_int (nomark _)) (pss_cons (ps_expr (pe_meth (pv 3) T.cl_Folders T.m_Folders_add (ok_Folders_add T) (hr.mono (by decide)) (T.bd_Folders_add_2).2 (T.bd_Folders_add_2).1 passL (pa_cons (pv 8) pa_nil)))
      (pss_one (ps_asg (pe_fz (pe_lst (pa_cons pe_str (pa_cons (pe_fz (pe_lst pa_nil)) pa_nil)))) (pg_sub (pv 4) (pv 8) (set_dict (hu_of hr)))))) pss_nil)))
      (pss_one (ps_if (PW.pt (pw_or (pt_cmpR op_eq (pe_op op_mod (pv 9) pe_int) pe_int (nomark _)) (pw_or1 (pt_cmpR op_eq (pe_op op_mod (pe_op op_fdiv (pv 7) pe_int) pe_int) pe_int (nomark _))))) (pss_cons (ps_if (pt_not (pt_val (pe_call (ok_law_goes T) (hr.mono (by decide)) rfl T.g_law_goes T.kp_law_goes T.b_law_goes .nil pass0 (pa_cons (pv 3) (pa_cons (pv 9) (pa_cons (pv 8) (pa_cons (pe_fz (pv 2)) (pa_cons (pv 7) pa_nil)))))))) (pss_one (ps_ret pe_bl)) pss_nil)
      (pss_cons (ps_if (pt_cmpR op_eq (pe_op op_mod (pv 9) pe_int) pe_int (nomark _)) (pss_one (ps_asg (pe_fz (pe_lst (pa_cons pe_str (pa_cons (pe_fz (pe_lst pa_nil)) pa_nil)))) (pg_sub (pv 4) (pv 8) (set_dict (hu_of hr))))) pss_nil)
      (pss_one (ps_if (pt_cmpR op_eq (pv 9) pe_int (nomark _)) (pss_one (ps_expr (pe_dpop1 (pv 4) (pv 8) m1))) pss_nil)))) pss_nil))))))))))))
      (pss_one (ps_ret pe_bl)))))))), ?_⟩
    unfold m_law at hm
    refine f_seq ?_
    refine c_asg ?_
    refine c_fz ?_
    refine c_call ?_
    refine ea_to (ea_cons (ev_var rfl) (ea_cons ev_c ea_nil)) ?_
    refine ⟨_, v_law_script, 60, star [imA (.ref ad_v_law_script) v_law_script, F], rfl, (hS.im (i := 0) rfl), Sep.unstar (M := []) (hS.sel [0, 1] (by decide) rfl : Sep H (([] ++ [imA (.ref ad_v_law_script) v_law_script, F] : List (Asn G)))), R.wp_mono (R.wp_bind hm) (fun r1 hm p2 H hS => ?_) (fun _ z => z)⟩
    have hS : Sep H ([lstA p2 (r1 : (List Int)), imA (.ref ad_v_law_script) v_law_script, F] : List (Asn G)) := Sep.star (M := [lstA p2 (r1 : (List Int))]) hS
    refine fz_no ?_
    refine c_set (σ' := [some (.ref ad_v_law_script), some (.ref p2), none, none, none, none, none, none, none, none, none, none, none]) rfl ?_
    refine sq_nx ?_
    refine f_seq ?_
    refine c_asg ?_
    refine c_fz ?_
    refine c_call ?_
    obtain ⟨x3, hx3, hm⟩ := wp_idx hm
    refine ea_to (ea_cons (ev_ixSq (ev_fz (ev_var rfl)) ev_c (hS.sqF (i := 0) rfl) (atI_map hx3)) ea_nil) ?_
    refine ⟨x3, star [lstA p2 (r1 : (List Int)), imA (.ref ad_v_law_script) v_law_script, F], rfl, Sep.unstar (M := []) (hS.sel [0, 1, 2] (by decide) rfl : Sep H (([] ++ [lstA p2 (r1 : (List Int)), imA (.ref ad_v_law_script) v_law_script, F] : List (Asn G)))), R.wp_mono (R.wp_bind hm) (fun r4 hm p5 H hS => ?_) (fun _ z => z)⟩
    have hS : Sep H ([lstA p5 (r4 : (List (List Str))), lstA p2 (r1 : (List Int)), imA (.ref ad_v_law_script) v_law_script, F] : List (Asn G)) := Sep.star (M := [lstA p5 (r4 : (List (List Str)))]) hS
    refine fz_no ?_
    refine c_set (σ' := [some (.ref ad_v_law_script), some (.ref p2), some (.ref p5), none, none, none, none, none, none, none, none, none, none]) rfl ?_
    refine sq_nx ?_
    refine f_seq ?_
    refine c_asg ?_
    refine c_make ?_
    refine ea_to ea_nil ?_
    intro p6 d7 np nd ne
    have hS := hS.newI (C := G.cl 7) np nd ne (by rw [T.fz_Folders]; decide)
    refine ⟨p6, d7, star [lstA p5 (r4 : (List (List Str))), lstA p2 (r1 : (List Int)), imA (.ref ad_v_law_script) v_law_script, F], rfl, Sep.unstar (M := [cell p6 (.ins (G.cl 7) d7 [])]) (hS.sel [0, 1, 2, 3, 4] (by decide) rfl : Sep _ (([cell p6 (.ins (G.cl 7) d7 [])] ++ [lstA p5 (r4 : (List (List Str))), lstA p2 (r1 : (List Int)), imA (.ref ad_v_law_script) v_law_script, F] : List (Asn G)))), R.wp_mono (R.wp_bind hm) (fun r8 hm H hS => ⟨rfl, ?_⟩) (fun _ z => z)⟩
    have hS : Sep H ([FoldersA p6 r8, lstA p5 (r4 : (List (List Str))), lstA p2 (r1 : (List Int)), imA (.ref ad_v_law_script) v_law_script, F] : List (Asn G)) := Sep.star (M := [FoldersA p6 r8]) hS
    refine c_set (σ' := [some (.ref ad_v_law_script), some (.ref p2), some (.ref p5), some (.ref p6), none, none, none, none, none, none, none, none, none]) rfl ?_
    refine sq_nx ?_
    refine f_seq ?_
    refine c_asg ?_
    refine k_dnewE (κ := Str) (β := (Str × (List Str))) (E := recSL) hS fun p9 H hS => ?_
    refine c_set (σ' := [some (.ref ad_v_law_script), some (.ref p2), some (.ref p5), some (.ref p6), some (.ref p9), none, none, none, none, none, none, none, none]) rfl ?_
    refine sq_nx ?_
    refine f_seq ?_
    refine c_for ?_
    refine c_rng1 ?_
    obtain ⟨x10, hx10, hm⟩ := wp_idx hm
    refine ea_to (ea_cons (ev_mod (ev_ixSq (ev_fz (ev_var rfl)) ev_c (hS.sqF (i := 3) rfl) (atI_map hx10)) ev_c (by decide)) ea_nil) ?_
    obtain ⟨h11, hm⟩ := R.wp_need hm
    refine k_rng1 h11.1 h11.2 ?_
    refine k_for (τ := Folders × (List (Str × (Str × (List Str))))) (fun (s12 : Folders × (List (Str × (Str × (List Str))))) (σ : L2.St) (H : Hp) => ∃ (w15 w16 : Option V), σ = [some (.ref ad_v_law_script), some (.ref p2), some (.ref p5), some (.ref p6), some (.ref p9), w15, w16, none, none, none, none, none, none] ∧ Sep H ([dictE recSL p9 (s12.2 : (List (Str × (Str × (List Str))))), FoldersA p6 s12.1, lstA p5 (r4 : (List (List Str))), lstA p2 (r1 : (List Int)), imA (.ref ad_v_law_script) v_law_script, F] : List (Asn G))) (im := (fun _ v (x : Int) => v = .int x)) (s := (r8, ([] : (List (Str × (Str × (List Str))))))) (fun _ => wk_range) ⟨_, _, rfl, hS.sel [0, 1, 2, 3, 4, 5] (by decide) rfl⟩ hm (fun s12 x13 v14 σ H q N hI hx hm nx => ?_) (fun s12 σ H hm hI => ?_)
    ·
      obtain ⟨w15, w16, rfl, hS⟩ := hI
      cases hx
      refine c_gN (σ' := [some (.ref ad_v_law_script), some (.ref p2), some (.ref p5), some (.ref p6), some (.ref p9), some (.int (x13)), w16, none, none, none, none, none, none]) rfl ?_
      refine f_seq ?_
      refine c_asg ?_
      refine c_tup ?_
      refine c_cons ?_
      refine ev_to ev_c ?_
      refine c_cons ?_
      obtain ⟨x17, hx17, hm⟩ := wp_idx hm
      obtain ⟨vs18, hq19, hM20⟩ := hS.sq (i := 2) rfl
      obtain ⟨u21, hu22, hi23⟩ := atI_im hM20 hx17
      obtain ⟨a24, rfl⟩ := isref hi23
      obtain ⟨x25, hx25, hm⟩ := wp_idx hm
      obtain ⟨x26, hx26, hm⟩ := wp_idx hm
      refine ev_to (ev_ixSq (ev_ixSq (ev_fz (ev_var rfl)) ev_c hq19 hu22) (ev_mod (ev_ixSq (ev_fz (ev_var rfl)) (ev_add ev_c (ev_var rfl)) (hS.sqF (i := 3) rfl) (atI_map hx25)) ev_c (by decide)) (imPlF hi23) (atI_map hx26)) ?_
      refine c_cons ?_
      obtain ⟨x27, hx27, hm⟩ := wp_idx hm
      obtain ⟨vs28, hq29, hM30⟩ := hS.sq (i := 2) rfl
      obtain ⟨u31, hu32, hi33⟩ := atI_im hM30 hx27
      obtain ⟨a34, rfl⟩ := isref hi33
      obtain ⟨x35, hx35, hm⟩ := wp_idx hm
      obtain ⟨x36, hx36, hm⟩ := wp_idx hm
      refine ev_to (ev_ixSq (ev_ixSq (ev_fz (ev_var rfl)) ev_c hq29 hu32) (ev_mod (ev_ixSq (ev_fz (ev_var rfl)) (ev_add ev_c (ev_var rfl)) (hS.sqF (i := 3) rfl) (atI_map hx35)) ev_c (by decide)) (imPlF hi33) (atI_map hx36)) ?_
      refine c_cons ?_
      refine c_cb ?_
      refine c_cons ?_
      refine c_fz ?_
      refine c_sl ?_
      obtain ⟨x37, hx37, hm⟩ := wp_idx hm
      obtain ⟨vs38, hq39, hM40⟩ := hS.sq (i := 2) rfl
      obtain ⟨u41, hu42, hi43⟩ := atI_im hM40 hx37
      obtain ⟨a44, rfl⟩ := isref hi43
      refine ev_to (ev_ixSq (ev_fz (ev_var rfl)) ev_c hq39 hu42) ?_
      have hS := hS.addIm (v := (.ref a44)) (x := (x37 : (List Str))) hi43
      obtain ⟨x46, hx46, hm⟩ := wp_idx hm
      refine eo_to eo_no ?_
      refine eo_to (eo_some (ev_mod (ev_ixSq (ev_fz (ev_var rfl)) (ev_add ev_c (ev_var rfl)) (hS.sqF (i := 4) rfl) (atI_map hx46)) ev_c (by decide))) ?_
      refine k_slG hS (imPl (hS.im (i := 0) rfl)) fun p47 H hS => ?_
      refine fz_no ?_
      refine c_nil ?_
      refine k_tupleS hS (hS.sq (i := 0) rfl) fun p48 H hS => ?_
      refine c_nil ?_
      refine k_tupP (x := ((⟨("add" : Str), x26, x36, (Any.tup ((cutL x37 none (some (x46 % 4))).map Any.str))⟩ : T4 _ _ _ _) : (T4 Str Str Str Any))) hS (fun H' p h s => mk4 rfl rfl rfl (hS.im (i := 0) rfl) h s) (by show 4 ≤ sizeLine; decide) fun p50 H hS => ?_
      refine c_set (σ' := [some (.ref ad_v_law_script), some (.ref p2), some (.ref p5), some (.ref p6), some (.ref p9), some (.int (x13)), some (.ref p50), none, none, none, none, none, none]) rfl ?_
      refine sq_nx ?_
      refine f_if ?_
      obtain ⟨u52, u53, u54, u55, hT60, h56, h57, h58, h59⟩ := im4 (hS.im (i := 0) rfl)
      obtain rfl : u52 = (.str ((⟨("add" : Str), x26, x36, (Any.tup ((cutL x37 none (some (x46 % 4))).map Any.str))⟩ : T4 _ _ _ _).a)) := h56
      obtain rfl : u53 = (.str ((⟨("add" : Str), x26, x36, (Any.tup ((cutL x37 none (some (x46 % 4))).map Any.str))⟩ : T4 _ _ _ _).b)) := h57
      obtain rfl : u54 = (.str ((⟨("add" : Str), x26, x36, (Any.tup ((cutL x37 none (some (x46 % 4))).map Any.str))⟩ : T4 _ _ _ _).c)) := h58
      refine et_to (et_B (ev_dniE hS (i := 4) (k := (⟨("add" : Str), x26, x36, (Any.tup ((cutL x37 none (some (x46 % 4))).map Any.str))⟩ : T4 _ _ _ _).b) rfl (ev_ixT (ev_var rfl) ev_c hT60 rfl) (ev_var rfl))) ?_
      refine ifK_J (τ := Folders × (List (Str × (Str × (List Str))))) (fun (s61 : Folders × (List (Str × (Str × (List Str))))) (σ : L2.St) (H : Hp) => σ = [some (.ref ad_v_law_script), some (.ref p2), some (.ref p5), some (.ref p6), some (.ref p9), some (.int (x13)), some (.ref p50), none, none, none, none, none, none] ∧ Sep H ([imA (.ref p50) ((⟨("add" : Str), x26, x36, (Any.tup ((cutL x37 none (some (x46 % 4))).map Any.str))⟩ : T4 _ _ _ _) : (T4 Str Str Str Any)), imA (.ref p48) ((Any.tup ((cutL x37 none (some (x46 % 4))).map Any.str)) : Any), lstA p47 (cutL x37 none (some (x46 % 4)) : (List Str)), imA (.ref a44) (x37 : (List Str)), dictE recSL p9 (s61.2 : (List (Str × (Str × (List Str))))), FoldersA p6 s61.1, lstA p5 (r4 : (List (List Str))), lstA p2 (r1 : (List Int)), imA (.ref ad_v_law_script) v_law_script, F] : List (Asn G))) hm (fun hb q hm nx => ?_) (fun hb q hm nx => ?_) (fun s61 σ H hm hI => ?_)
      ·
        refine f_seq ?_
        refine c_drop ?_
        refine c_call ?_
        refine ea_to (ea_cons (ev_var rfl) (ea_cons (ev_var rfl) (ea_cons ev_c ea_nil))) ?_
        obtain ⟨u62, u63, u64, u65, hT70, h66, h67, h68, h69⟩ := im4 (hS.im (i := 0) rfl)
        obtain rfl : u62 = (.str ((⟨("add" : Str), x26, x36, (Any.tup ((cutL x37 none (some (x46 % 4))).map Any.str))⟩ : T4 _ _ _ _).a)) := h66
        obtain rfl : u63 = (.str ((⟨("add" : Str), x26, x36, (Any.tup ((cutL x37 none (some (x46 % 4))).map Any.str))⟩ : T4 _ _ _ _).b)) := h67
        obtain rfl : u64 = (.str ((⟨("add" : Str), x26, x36, (Any.tup ((cutL x37 none (some (x46 % 4))).map Any.str))⟩ : T4 _ _ _ _).c)) := h68
        refine ⟨p6, (s12.1 : Folders), (.ref p50), ((Any.tup [(Any.str ((⟨("add" : Str), x26, x36, (Any.tup ((cutL x37 none (some (x46 % 4))).map Any.str))⟩ : T4 _ _ _ _).a)), (Any.str ((⟨("add" : Str), x26, x36, (Any.tup ((cutL x37 none (some (x46 % 4))).map Any.str))⟩ : T4 _ _ _ _).b)), (Any.str ((⟨("add" : Str), x26, x36, (Any.tup ((cutL x37 none (some (x46 % 4))).map Any.str))⟩ : T4 _ _ _ _).c)), (⟨("add" : Str), x26, x36, (Any.tup ((cutL x37 none (some (x46 % 4))).map Any.str))⟩ : T4 _ _ _ _).d]) : Any), false, star [imA (.ref p50) ((⟨("add" : Str), x26, x36, (Any.tup ((cutL x37 none (some (x46 % 4))).map Any.str))⟩ : T4 _ _ _ _) : (T4 Str Str Str Any)), imA (.ref p48) ((Any.tup ((cutL x37 none (some (x46 % 4))).map Any.str)) : Any), lstA p47 (cutL x37 none (some (x46 % 4)) : (List Str)), imA (.ref a44) (x37 : (List Str)), dictE recSL p9 (s12.2 : (List (Str × (Str × (List Str))))), lstA p5 (r4 : (List (List Str))), lstA p2 (r1 : (List Int)), imA (.ref ad_v_law_script) v_law_script, F], rfl, ((any_tup (xs := [(Any.str ((⟨("add" : Str), x26, x36, (Any.tup ((cutL x37 none (some (x46 % 4))).map Any.str))⟩ : T4 _ _ _ _).a)), (Any.str ((⟨("add" : Str), x26, x36, (Any.tup ((cutL x37 none (some (x46 % 4))).map Any.str))⟩ : T4 _ _ _ _).b)), (Any.str ((⟨("add" : Str), x26, x36, (Any.tup ((cutL x37 none (some (x46 % 4))).map Any.str))⟩ : T4 _ _ _ _).c)), (⟨("add" : Str), x26, x36, (Any.tup ((cutL x37 none (some (x46 % 4))).map Any.str))⟩ : T4 _ _ _ _).d])).mpr ⟨_, _, rfl, hT70, ⟨(any_str.mpr rfl), ⟨(any_str.mpr rfl), ⟨(any_str.mpr rfl), ⟨h69, True.intro⟩⟩⟩⟩⟩), Sep.unstar (M := [FoldersA p6 s12.1]) (hS.sel [5, 0, 1, 2, 3, 4, 6, 7, 8, 9] (by decide) rfl : Sep H (([FoldersA p6 s12.1] ++ [imA (.ref p50) ((⟨("add" : Str), x26, x36, (Any.tup ((cutL x37 none (some (x46 % 4))).map Any.str))⟩ : T4 _ _ _ _) : (T4 Str Str Str Any)), imA (.ref p48) ((Any.tup ((cutL x37 none (some (x46 % 4))).map Any.str)) : Any), lstA p47 (cutL x37 none (some (x46 % 4)) : (List Str)), imA (.ref a44) (x37 : (List Str)), dictE recSL p9 (s12.2 : (List (Str × (Str × (List Str))))), lstA p5 (r4 : (List (List Str))), lstA p2 (r1 : (List Int)), imA (.ref ad_v_law_script) v_law_script, F] : List (Asn G)))), R.wp_mono (R.wp_bind hm) (fun r71 hm H hS => ?_) (fun _ z => z.elim)⟩
        have hS : Sep H ([FoldersA p6 r71, imA (.ref p50) ((⟨("add" : Str), x26, x36, (Any.tup ((cutL x37 none (some (x46 % 4))).map Any.str))⟩ : T4 _ _ _ _) : (T4 Str Str Str Any)), imA (.ref p48) ((Any.tup ((cutL x37 none (some (x46 % 4))).map Any.str)) : Any), lstA p47 (cutL x37 none (some (x46 % 4)) : (List Str)), imA (.ref a44) (x37 : (List Str)), dictE recSL p9 (s12.2 : (List (Str × (Str × (List Str))))), lstA p5 (r4 : (List (List Str))), lstA p2 (r1 : (List Int)), imA (.ref ad_v_law_script) v_law_script, F] : List (Asn G)) := Sep.star (M := [FoldersA p6 r71]) hS
        refine sq_nx ?_
        refine c_drop ?_
        refine c_call ?_
        refine ea_to (ea_cons (ev_var rfl) (ea_cons (ev_var rfl) ea_nil)) ?_
        obtain ⟨u72, u73, u74, u75, hT80, h76, h77, h78, h79⟩ := im4 (hS.im (i := 1) rfl)
        obtain rfl : u72 = (.str ((⟨("add" : Str), x26, x36, (Any.tup ((cutL x37 none (some (x46 % 4))).map Any.str))⟩ : T4 _ _ _ _).a)) := h76
        obtain rfl : u73 = (.str ((⟨("add" : Str), x26, x36, (Any.tup ((cutL x37 none (some (x46 % 4))).map Any.str))⟩ : T4 _ _ _ _).b)) := h77
        obtain rfl : u74 = (.str ((⟨("add" : Str), x26, x36, (Any.tup ((cutL x37 none (some (x46 % 4))).map Any.str))⟩ : T4 _ _ _ _).c)) := h78
        refine ⟨p9, (s12.2 : (List (Str × (Str × (List Str))))), (.ref p50), ((Any.tup [(Any.str ((⟨("add" : Str), x26, x36, (Any.tup ((cutL x37 none (some (x46 % 4))).map Any.str))⟩ : T4 _ _ _ _).a)), (Any.str ((⟨("add" : Str), x26, x36, (Any.tup ((cutL x37 none (some (x46 % 4))).map Any.str))⟩ : T4 _ _ _ _).b)), (Any.str ((⟨("add" : Str), x26, x36, (Any.tup ((cutL x37 none (some (x46 % 4))).map Any.str))⟩ : T4 _ _ _ _).c)), (⟨("add" : Str), x26, x36, (Any.tup ((cutL x37 none (some (x46 % 4))).map Any.str))⟩ : T4 _ _ _ _).d]) : Any), star [FoldersA p6 r71, imA (.ref p50) ((⟨("add" : Str), x26, x36, (Any.tup ((cutL x37 none (some (x46 % 4))).map Any.str))⟩ : T4 _ _ _ _) : (T4 Str Str Str Any)), imA (.ref p48) ((Any.tup ((cutL x37 none (some (x46 % 4))).map Any.str)) : Any), lstA p47 (cutL x37 none (some (x46 % 4)) : (List Str)), imA (.ref a44) (x37 : (List Str)), lstA p5 (r4 : (List (List Str))), lstA p2 (r1 : (List Int)), imA (.ref ad_v_law_script) v_law_script, F], rfl, ((any_tup (xs := [(Any.str ((⟨("add" : Str), x26, x36, (Any.tup ((cutL x37 none (some (x46 % 4))).map Any.str))⟩ : T4 _ _ _ _).a)), (Any.str ((⟨("add" : Str), x26, x36, (Any.tup ((cutL x37 none (some (x46 % 4))).map Any.str))⟩ : T4 _ _ _ _).b)), (Any.str ((⟨("add" : Str), x26, x36, (Any.tup ((cutL x37 none (some (x46 % 4))).map Any.str))⟩ : T4 _ _ _ _).c)), (⟨("add" : Str), x26, x36, (Any.tup ((cutL x37 none (some (x46 % 4))).map Any.str))⟩ : T4 _ _ _ _).d])).mpr ⟨_, _, rfl, hT80, ⟨(any_str.mpr rfl), ⟨(any_str.mpr rfl), ⟨(any_str.mpr rfl), ⟨h79, True.intro⟩⟩⟩⟩⟩), Sep.unstar (M := [dictE recSL p9 (s12.2 : (List (Str × (Str × (List Str)))))]) (hS.sel [5, 0, 1, 2, 3, 4, 6, 7, 8, 9] (by decide) rfl : Sep H (([dictE recSL p9 (s12.2 : (List (Str × (Str × (List Str)))))] ++ [FoldersA p6 r71, imA (.ref p50) ((⟨("add" : Str), x26, x36, (Any.tup ((cutL x37 none (some (x46 % 4))).map Any.str))⟩ : T4 _ _ _ _) : (T4 Str Str Str Any)), imA (.ref p48) ((Any.tup ((cutL x37 none (some (x46 % 4))).map Any.str)) : Any), lstA p47 (cutL x37 none (some (x46 % 4)) : (List Str)), imA (.ref a44) (x37 : (List Str)), lstA p5 (r4 : (List (List Str))), lstA p2 (r1 : (List Int)), imA (.ref ad_v_law_script) v_law_script, F] : List (Asn G)))), R.wp_mono (R.wp_bind hm) (fun r81 hm p82 H hS => ?_) (fun _ z => z)⟩
        have hS : Sep H ([imA p82 (r81.1 : Any), dictE recSL p9 (r81.2 : (List (Str × (Str × (List Str))))), FoldersA p6 r71, imA (.ref p50) ((⟨("add" : Str), x26, x36, (Any.tup ((cutL x37 none (some (x46 % 4))).map Any.str))⟩ : T4 _ _ _ _) : (T4 Str Str Str Any)), imA (.ref p48) ((Any.tup ((cutL x37 none (some (x46 % 4))).map Any.str)) : Any), lstA p47 (cutL x37 none (some (x46 % 4)) : (List Str)), imA (.ref a44) (x37 : (List Str)), lstA p5 (r4 : (List (List Str))), lstA p2 (r1 : (List Int)), imA (.ref ad_v_law_script) v_law_script, F] : List (Asn G)) := Sep.star (M := [imA p82 (r81.1 : Any), dictE recSL p9 (r81.2 : (List (Str × (Str × (List Str)))))]) hS
        exact nx _ _ _ hm ⟨rfl, hS.sel [3, 4, 5, 6, 1, 2, 7, 8, 9, 10] (by decide) rfl⟩
      ·
        refine st_nx ?_
        exact nx _ _ _ hm ⟨rfl, hS.sel [0, 1, 2, 3, 4, 5, 6, 7, 8, 9] (by decide) rfl⟩
      · obtain ⟨rfl, hS⟩ := hI
        exact nx _ _ _ hm ⟨_, _, rfl, hS.sel [4, 5, 6, 7, 8, 9] (by decide) rfl⟩
    · obtain ⟨w15, w16, rfl, hS⟩ := hI
      refine sq_nx ?_
      refine f_seq ?_
      refine c_for ?_
      refine c_rng1 ?_
      refine ea_to (ea_cons (ev_cb (ea_cons ev_c (ea_cons (ev_lenLm (ev_var rfl) (sq_script (hS.im (i := 4) rfl))) ea_nil)) fun _ q => ⟨_, _, rfl, q⟩) ea_nil) ?_
      obtain ⟨h84, hm⟩ := R.wp_need hm
      refine k_rng1 h84.1 h84.2 ?_
      refine k_forF (τ := Folders × (List (Str × (Str × (List Str))))) (fun (s85 : Folders × (List (Str × (Str × (List Str))))) (σ : L2.St) (H : Hp) => ∃ (w88 w89 w90 w91 w92 w93 w94 : Option V), σ = [some (.ref ad_v_law_script), some (.ref p2), some (.ref p5), some (.ref p6), some (.ref p9), w88, w16, w89, w90, w91, w92, w93, w94] ∧ Sep H ([dictE recSL p9 (s85.2 : (List (Str × (Str × (List Str))))), FoldersA p6 s85.1, lstA p5 (r4 : (List (List Str))), lstA p2 (r1 : (List Int)), imA (.ref ad_v_law_script) v_law_script, F] : List (Asn G))) (im := (fun _ v (x : Int) => v = .int x)) (s := (s12.1, s12.2)) (fun _ => wk_range) ⟨_, _, _, _, _, _, _, rfl, hS.sel [0, 1, 2, 3, 4, 5] (by decide) rfl⟩ hm (fun s85 x86 v87 σ H q N B hI hx hm nx bk ho95 => ?_) (fun s85 σ H hm hI => ?_)
      ·
        obtain ⟨w88, w89, w90, w91, w92, w93, w94, rfl, hS⟩ := hI
        cases hx
        refine c_gN (σ' := [some (.ref ad_v_law_script), some (.ref p2), some (.ref p5), some (.ref p6), some (.ref p9), some (.int (x86)), w16, w89, w90, w91, w92, w93, w94]) rfl ?_
        refine f_seq ?_
        refine c_asg ?_
        obtain ⟨x96, hx96, hm⟩ := wp_idx hm
        refine ev_to (ev_ixSq (ev_fz (ev_var rfl)) (ev_add ev_c (ev_var rfl)) (hS.sqF (i := 3) rfl) (atI_map hx96)) ?_
        refine c_set (σ' := [some (.ref ad_v_law_script), some (.ref p2), some (.ref p5), some (.ref p6), some (.ref p9), some (.int (x86)), w16, some (.int (x96)), w90, w91, w92, w93, w94]) rfl ?_
        refine sq_nx ?_
        refine f_seq ?_
        refine c_asg ?_
        obtain ⟨x97, hx97, hm⟩ := wp_idx hm
        obtain ⟨vs98, hq99, hM100⟩ := hS.sq (i := 2) rfl
        obtain ⟨u101, hu102, hi103⟩ := atI_im hM100 hx97
        obtain ⟨a104, rfl⟩ := isref hi103
        obtain ⟨x105, hx105, hm⟩ := wp_idx hm
        refine ev_to (ev_ixSq (ev_ixSq (ev_fz (ev_var rfl)) ev_c hq99 hu102) (ev_mod (ev_fdiv (ev_var rfl) ev_c ⟨by decide, by decide⟩) ev_c (by decide)) (imPlF hi103) (atI_map hx105)) ?_
        refine c_set (σ' := [some (.ref ad_v_law_script), some (.ref p2), some (.ref p5), some (.ref p6), some (.ref p9), some (.int (x86)), w16, some (.int (x96)), some (.str (x105)), w91, w92, w93, w94]) rfl ?_
        refine sq_nx ?_
        refine f_seq ?_
        refine c_asg ?_
        refine ev_to (ev_mod (ev_var rfl) ev_c (by decide)) ?_
        obtain ⟨y106, hy106, hm⟩ := wp_let hm
        refine n_is (w := (.int (y106))) (by first | rw [hy106] | (subst hy106; rfl)) ?_
        refine c_set (σ' := [some (.ref ad_v_law_script), some (.ref p2), some (.ref p5), some (.ref p6), some (.ref p9), some (.int (x86)), w16, some (.int (x96)), some (.str (x105)), some (.int (y106)), w92, w93, w94]) rfl ?_
        refine sq_nx ?_
        refine f_seq ?_
        refine f_if ?_
        refine et_to (et_test (ev_neB (ev_dinE hS (i := 0) (k := x105) rfl (ev_var rfl) (ev_var rfl)) (ev_eqI (ev_mod (ev_var rfl) ev_c (by decide)) ev_c))) ?_
        refine ifK_J (τ := Int) (fun (s107 : Int) (σ : L2.St) (H : Hp) => σ = [some (.ref ad_v_law_script), some (.ref p2), some (.ref p5), some (.ref p6), some (.ref p9), some (.int (x86)), w16, some (.int (x96)), some (.str (x105)), some (.int (s107)), w92, w93, w94] ∧ Sep H ([dictE recSL p9 (s85.2 : (List (Str × (Str × (List Str))))), FoldersA p6 s85.1, lstA p5 (r4 : (List (List Str))), lstA p2 (r1 : (List Int)), imA (.ref ad_v_law_script) v_law_script, F] : List (Asn G))) hm (fun hb q hm nx => ?_) (fun hb q hm nx => ?_) (fun s107 σ H hm hI => ?_)
        ·
          refine c_asg ?_
          refine c_op ?_
          refine c_fz ?_
          refine c_lst ?_
          refine ea_to (ea_cons ev_c (ea_cons ev_c (ea_cons ev_c (ea_cons ev_c (ea_cons ev_c (ea_cons ev_c (ea_cons ev_c (ea_cons ev_c ea_nil)))))))) ?_
          refine k_lst (α := Int) (vs := [(.int (0)), (.int (6)), (.int (1)), (.int (2)), (.int (3)), (.int (4)), (.int (5)), (.int (7))]) (xs := [0, 6, 1, 2, 3, 4, 5, 7]) hS ⟨rfl, ⟨rfl, ⟨rfl, ⟨rfl, ⟨rfl, ⟨rfl, ⟨rfl, ⟨rfl, True.intro⟩⟩⟩⟩⟩⟩⟩⟩ (by show 8 ≤ sizeLine; decide) fun p108 H hS => ?_
          refine fz_no ?_
          refine ev_to (ev_ifI (et_B (ev_dinE hS (i := 1) (k := x105) rfl (ev_var rfl) (ev_var rfl))) (ev_mod (ev_fdiv (ev_var rfl) ev_c ⟨by decide, by decide⟩) ev_c (by decide)) (ev_add ev_c (ev_mod (ev_fdiv (ev_var rfl) ev_c ⟨by decide, by decide⟩) ev_c (by decide)))) ?_
          obtain ⟨x109, hx109, hm⟩ := wp_idx hm
          refine r_ixSq (hS.sqF (i := 0) rfl) (atI_map hx109) _ ?_
          refine c_set (σ' := [some (.ref ad_v_law_script), some (.ref p2), some (.ref p5), some (.ref p6), some (.ref p9), some (.int (x86)), w16, some (.int (x96)), some (.str (x105)), some (.int (x109)), w92, w93, w94]) rfl ?_
          exact nx _ _ _ hm ⟨rfl, hS.sel [1, 2, 3, 4, 5, 6] (by decide) rfl⟩
        ·
          refine st_nx ?_
          exact nx _ _ _ hm ⟨rfl, hS.sel [0, 1, 2, 3, 4, 5] (by decide) rfl⟩
        · obtain ⟨rfl, hS⟩ := hI
          refine sq_nx ?_
          refine f_seq ?_
          refine c_asg ?_
          refine c_call ?_
          refine ea_to (ea_cons (ev_var rfl) (ea_cons (ev_var rfl) (ea_cons (ev_fz (ev_var rfl)) ea_nil))) ?_
          refine ⟨p6, (s85.1 : Folders), p9, (s85.2 : (List (Str × (Str × (List Str))))), p5, (r4 : (List (List Str))), star [lstA p2 (r1 : (List Int)), imA (.ref ad_v_law_script) v_law_script, F], rfl, Sep.unstar (M := [FoldersA p6 s85.1, dictE recSL p9 (s85.2 : (List (Str × (Str × (List Str))))), lstA p5 (r4 : (List (List Str)))]) (hS.sel [1, 0, 2, 3, 4, 5] (by decide) rfl : Sep H (([FoldersA p6 s85.1, dictE recSL p9 (s85.2 : (List (Str × (Str × (List Str))))), lstA p5 (r4 : (List (List Str)))] ++ [lstA p2 (r1 : (List Int)), imA (.ref ad_v_law_script) v_law_script, F] : List (Asn G)))), R.wp_mono (R.wp_bind hm) (fun r110 hm p111 H hS => ?_) (fun _ z => z)⟩
          have hS : Sep H ([imA (.ref p111) (r110 : (List Any)), FoldersA p6 s85.1, dictE recSL p9 (s85.2 : (List (Str × (Str × (List Str))))), lstA p5 (r4 : (List (List Str))), lstA p2 (r1 : (List Int)), imA (.ref ad_v_law_script) v_law_script, F] : List (Asn G)) := Sep.star (M := [imA (.ref p111) (r110 : (List Any)), FoldersA p6 s85.1, dictE recSL p9 (s85.2 : (List (Str × (Str × (List Str))))), lstA p5 (r4 : (List (List Str)))]) hS
          refine c_set (σ' := [some (.ref ad_v_law_script), some (.ref p2), some (.ref p5), some (.ref p6), some (.ref p9), some (.int (x86)), w16, some (.int (x96)), some (.str (x105)), some (.int (s107)), some (.ref p111), w93, w94]) rfl ?_
          refine sq_nx ?_
          refine f_seq ?_
          refine c_asg ?_
          refine c_call ?_
          refine ea_to (ea_cons (ev_var rfl) (ea_cons (ev_fz (ev_var rfl)) (ea_cons (ev_var rfl) ea_nil))) ?_
          refine ⟨p6, (s85.1 : Folders), p5, (r4 : (List (List Str))), x96, star [imA (.ref p111) (r110 : (List Any)), dictE recSL p9 (s85.2 : (List (Str × (Str × (List Str))))), lstA p2 (r1 : (List Int)), imA (.ref ad_v_law_script) v_law_script, F], rfl, Sep.unstar (M := [FoldersA p6 s85.1, lstA p5 (r4 : (List (List Str)))]) (hS.sel [1, 3, 0, 2, 4, 5, 6] (by decide) rfl : Sep H (([FoldersA p6 s85.1, lstA p5 (r4 : (List (List Str)))] ++ [imA (.ref p111) (r110 : (List Any)), dictE recSL p9 (s85.2 : (List (Str × (Str × (List Str))))), lstA p2 (r1 : (List Int)), imA (.ref ad_v_law_script) v_law_script, F] : List (Asn G)))), R.wp_mono (R.wp_bind hm) (fun r113 hm H hS => ?_) (fun _ z => z)⟩
          have hS : Sep H ([FoldersA p6 r113.2, lstA p5 (r4 : (List (List Str))), imA (.ref p111) (r110 : (List Any)), dictE recSL p9 (s85.2 : (List (Str × (Str × (List Str))))), lstA p2 (r1 : (List Int)), imA (.ref ad_v_law_script) v_law_script, F] : List (Asn G)) := Sep.star (M := [FoldersA p6 r113.2, lstA p5 (r4 : (List (List Str)))]) hS
          refine c_set (σ' := [some (.ref ad_v_law_script), some (.ref p2), some (.ref p5), some (.ref p6), some (.ref p9), some (.int (x86)), w16, some (.int (x96)), some (.str (x105)), some (.int (s107)), some (.ref p111), some (.bl (r113.1)), w94]) rfl ?_
          refine sq_nx ?_
          refine f_seq ?_
          refine c_for ?_
          refine c_rng1 ?_
          refine ea_to (ea_cons ev_c ea_nil) ?_
          refine k_rng1 (by decide) (by decide) ?_
          refine k_for (τ := Folders × Bool) (fun (s114 : Folders × Bool) (σ : L2.St) (H : Hp) => ∃ (w117 : Option V), σ = [some (.ref ad_v_law_script), some (.ref p2), some (.ref p5), some (.ref p6), some (.ref p9), some (.int (x86)), w16, some (.int (x96)), some (.str (x105)), some (.int (s107)), some (.ref p111), some (.bl (s114.2)), w117] ∧ Sep H ([FoldersA p6 s114.1, lstA p5 (r4 : (List (List Str))), imA (.ref p111) (r110 : (List Any)), dictE recSL p9 (s85.2 : (List (Str × (Str × (List Str))))), lstA p2 (r1 : (List Int)), imA (.ref ad_v_law_script) v_law_script, F] : List (Asn G))) (im := (fun _ v (x : Int) => v = .int x)) (s := (r113.2, r113.1)) (fun _ => wk_range) ⟨_, rfl, hS.sel [0, 1, 2, 3, 4, 5, 6] (by decide) rfl⟩ hm (fun s114 x115 v116 σ H q N hI hx hm nx => ?_) (fun s114 σ H hm hI => ?_)
          ·
            obtain ⟨w117, rfl, hS⟩ := hI
            cases hx
            refine c_gN (σ' := [some (.ref ad_v_law_script), some (.ref p2), some (.ref p5), some (.ref p6), some (.ref p9), some (.int (x86)), w16, some (.int (x96)), some (.str (x105)), some (.int (s107)), some (.ref p111), some (.bl (s114.2)), some (.int (x115))]) rfl ?_
            refine c_asg ?_
            refine f_andV ?_
            refine ev_to (ev_var rfl) ?_
            refine andVK_T (τ := Folders) (s0 := s114.1) (fun (s118 : Folders) => ([FoldersA p6 s118, lstA p5 (r4 : (List (List Str))), imA (.ref p111) (r110 : (List Any)), dictE recSL p9 (s85.2 : (List (Str × (Str × (List Str))))), lstA p2 (r1 : (List Int)), imA (.ref ad_v_law_script) v_law_script, F] : List (Asn G))) hm hS (fun hb q hm nx => ?_) (fun s118 b119 H hm hS => ?_)
            ·
              refine c_call ?_
              refine ea_to (ea_cons (ev_var rfl) (ea_cons (ev_var rfl) (ea_cons (ev_var rfl) (ea_cons (ev_fz (ev_var rfl)) (ea_cons (ev_var rfl) ea_nil))))) ?_
              refine ⟨p6, (s114.1 : Folders), s107, x105, p5, (r4 : (List (List Str))), x96, star [imA (.ref p111) (r110 : (List Any)), dictE recSL p9 (s85.2 : (List (Str × (Str × (List Str))))), lstA p2 (r1 : (List Int)), imA (.ref ad_v_law_script) v_law_script, F], rfl, Sep.unstar (M := [FoldersA p6 s114.1, lstA p5 (r4 : (List (List Str)))]) (hS.sel [0, 1, 2, 3, 4, 5, 6] (by decide) rfl : Sep H (([FoldersA p6 s114.1, lstA p5 (r4 : (List (List Str)))] ++ [imA (.ref p111) (r110 : (List Any)), dictE recSL p9 (s85.2 : (List (Str × (Str × (List Str))))), lstA p2 (r1 : (List Int)), imA (.ref ad_v_law_script) v_law_script, F] : List (Asn G)))), R.wp_mono (R.wp_bind hm) (fun r120 hm H hS => ?_) (fun _ z => z)⟩
              have hS : Sep H ([FoldersA p6 r120.2, lstA p5 (r4 : (List (List Str))), imA (.ref p111) (r110 : (List Any)), dictE recSL p9 (s85.2 : (List (Str × (Str × (List Str))))), lstA p2 (r1 : (List Int)), imA (.ref ad_v_law_script) v_law_script, F] : List (Asn G)) := Sep.star (M := [FoldersA p6 r120.2, lstA p5 (r4 : (List (List Str)))]) hS
              exact nx r120.2 _ _ hm (hS.sel [0, 1, 2, 3, 4, 5, 6] (by decide) rfl)
            ·
              refine c_set (σ' := [some (.ref ad_v_law_script), some (.ref p2), some (.ref p5), some (.ref p6), some (.ref p9), some (.int (x86)), w16, some (.int (x96)), some (.str (x105)), some (.int (s107)), some (.ref p111), some (.bl (b119)), some (.int (x115))]) rfl ?_
              exact nx _ _ _ hm ⟨_, rfl, hS.sel [0, 1, 2, 3, 4, 5, 6] (by decide) rfl⟩
          · obtain ⟨w117, rfl, hS⟩ := hI
            refine sq_nx ?_
            refine f_seq ?_
            refine f_if ?_
            refine f_or ?_
            refine et_to (et_not (et_B (ev_var rfl))) ?_
            refine orK_J hm hS (fun hb q hm nx => ?_) (fun b121 H hm hS => ?_)
            ·
              refine f_test ?_
              refine c_op ?_
              refine c_call ?_
              refine ea_to (ea_cons (ev_var rfl) (ea_cons (ev_var rfl) (ea_cons (ev_fz (ev_var rfl)) ea_nil))) ?_
              refine ⟨p6, (s114.1 : Folders), p9, (s85.2 : (List (Str × (Str × (List Str))))), p5, (r4 : (List (List Str))), star [imA (.ref p111) (r110 : (List Any)), lstA p2 (r1 : (List Int)), imA (.ref ad_v_law_script) v_law_script, F], rfl, Sep.unstar (M := [FoldersA p6 s114.1, dictE recSL p9 (s85.2 : (List (Str × (Str × (List Str))))), lstA p5 (r4 : (List (List Str)))]) (hS.sel [0, 3, 1, 2, 4, 5, 6] (by decide) rfl : Sep H (([FoldersA p6 s114.1, dictE recSL p9 (s85.2 : (List (Str × (Str × (List Str))))), lstA p5 (r4 : (List (List Str)))] ++ [imA (.ref p111) (r110 : (List Any)), lstA p2 (r1 : (List Int)), imA (.ref ad_v_law_script) v_law_script, F] : List (Asn G)))), R.wp_mono (R.wp_bind hm) (fun r122 hm p123 H hS => ?_) (fun _ z => z)⟩
              have hS : Sep H ([imA (.ref p123) (r122 : (List Any)), FoldersA p6 s114.1, dictE recSL p9 (s85.2 : (List (Str × (Str × (List Str))))), lstA p5 (r4 : (List (List Str))), imA (.ref p111) (r110 : (List Any)), lstA p2 (r1 : (List Int)), imA (.ref ad_v_law_script) v_law_script, F] : List (Asn G)) := Sep.star (M := [imA (.ref p123) (r122 : (List Any)), FoldersA p6 s114.1, dictE recSL p9 (s85.2 : (List (Str × (Str × (List Str))))), lstA p5 (r4 : (List (List Str)))]) hS
              refine ev_to (ev_var rfl) ?_
              obtain ⟨b125, hb125, hm⟩ := wp_eqA hm
              refine ev_op2 (ev_neA ev_c ev_c (any_lstA (hS.im (i := 0) rfl)) (any_lstA (hS.im (i := 4) rfl)) hb125) ?_
              refine f_bl ?_
              exact nx _ _ hm (hS.sel [1, 3, 4, 2, 5, 6, 7] (by decide) rfl)
            ·
              refine ifK_2 (fun hb126 => ?_) (fun hb126 => ?_)
              · have hm := R.wp_ifY hm hb126
                refine c_ret ?_
                refine ev_to ev_c ?_
                exact (ho95 _ hm) _ (hS.sel [6] (by decide) rfl)
              · have hm := R.wp_ifN hm (by first | (rw [hb126]; decide) | simpa using hb126)
                refine st_nx ?_
                refine sq_nx ?_
                refine f_seq ?_
                refine f_if ?_
                refine et_to (et_test (ev_eqI (ev_mod (ev_var rfl) ev_c (by decide)) ev_c)) ?_
                refine ifK_J (τ := Folders × (List (Str × (Str × (List Str))))) (fun (s127 : Folders × (List (Str × (Str × (List Str))))) (σ : L2.St) (H : Hp) => σ = [some (.ref ad_v_law_script), some (.ref p2), some (.ref p5), some (.ref p6), some (.ref p9), some (.int (x86)), w16, some (.int (x96)), some (.str (x105)), some (.int (s107)), some (.ref p111), some (.bl (s114.2)), w117] ∧ Sep H ([FoldersA p6 s127.1, lstA p5 (r4 : (List (List Str))), imA (.ref p111) (r110 : (List Any)), dictE recSL p9 (s127.2 : (List (Str × (Str × (List Str))))), lstA p2 (r1 : (List Int)), imA (.ref ad_v_law_script) v_law_script, F] : List (Asn G))) hm (fun hb q hm nx => ?_) (fun hb q hm nx => ?_) (fun s127 σ H hm hI => ?_)
                ·
                  refine f_seq ?_
                  refine c_drop ?_
                  refine c_meth ?_
                  refine ev_to (ev_var rfl) ?_
                  obtain ⟨d128, _, _, _, _, hO129⟩ := ins_Folders hS (i := 0) rfl
                  refine ⟨_, _, _, rfl, hO129, rfl, ?_⟩
                  refine ea_to (ea_cons (ev_var rfl) ea_nil) ?_
                  refine ⟨p6, (s114.1 : Folders), x105, star [lstA p5 (r4 : (List (List Str))), imA (.ref p111) (r110 : (List Any)), dictE recSL p9 (s85.2 : (List (Str × (Str × (List Str))))), lstA p2 (r1 : (List Int)), imA (.ref ad_v_law_script) v_law_script, F], rfl, Sep.unstar (M := [FoldersA p6 s114.1]) (hS.sel [0, 1, 2, 3, 4, 5, 6] (by decide) rfl : Sep H (([FoldersA p6 s114.1] ++ [lstA p5 (r4 : (List (List Str))), imA (.ref p111) (r110 : (List Any)), dictE recSL p9 (s85.2 : (List (Str × (Str × (List Str))))), lstA p2 (r1 : (List Int)), imA (.ref ad_v_law_script) v_law_script, F] : List (Asn G)))), R.wp_mono (R.wp_bind hm) (fun r130 hm H hS => ?_) (fun _ z => z.elim)⟩
                  have hS : Sep H ([FoldersA p6 r130, lstA p5 (r4 : (List (List Str))), imA (.ref p111) (r110 : (List Any)), dictE recSL p9 (s85.2 : (List (Str × (Str × (List Str))))), lstA p2 (r1 : (List Int)), imA (.ref ad_v_law_script) v_law_script, F] : List (Asn G)) := Sep.star (M := [FoldersA p6 r130]) hS
                  refine sq_nx ?_
                  refine c_drop ?_
                  refine c_dpop1 ?_
                  refine ev_to (ev_var rfl) ?_
                  refine k_pop1a (isD_Ei hS (i := 3) rfl) ?_
                  refine ev_to (ev_var rfl) ?_
                  obtain ⟨y131, hy131, hm⟩ := wp_dgetX hm
                  refine k_pop1E (hS.sel [3, 0, 1, 2, 4, 5, 6] (by decide) rfl : Sep _ (dictE recSL p9 (s85.2 : (List (Str × (Str × (List Str))))) :: [FoldersA p6 r130, lstA p5 (r4 : (List (List Str))), imA (.ref p111) (r110 : (List Any)), lstA p2 (r1 : (List Int)), imA (.ref ad_v_law_script) v_law_script, F] : List (Asn G))) hy131 fun v132 H hS => ?_
                  have hS : Sep H ([recSL v132 (y131 : (Str × (List Str))), dictE recSL p9 (ddrop s85.2 x105 : (List (Str × (Str × (List Str))))), FoldersA p6 r130, lstA p5 (r4 : (List (List Str))), imA (.ref p111) (r110 : (List Any)), lstA p2 (r1 : (List Int)), imA (.ref ad_v_law_script) v_law_script, F] : List (Asn G)) := hS
                  exact nx _ _ _ hm ⟨rfl, hS.sel [2, 3, 4, 1, 5, 6, 7] (by decide) rfl⟩
                ·
                  refine f_if ?_
                  refine et_to (et_test (ev_eqI (ev_mod (ev_fdiv (ev_var rfl) ev_c ⟨by decide, by decide⟩) ev_c (by decide)) ev_c)) ?_
                  refine ifK_J (τ := Folders × (List (Str × (Str × (List Str))))) (fun (s133 : Folders × (List (Str × (Str × (List Str))))) (σ : L2.St) (H : Hp) => σ = [some (.ref ad_v_law_script), some (.ref p2), some (.ref p5), some (.ref p6), some (.ref p9), some (.int (x86)), w16, some (.int (x96)), some (.str (x105)), some (.int (s107)), some (.ref p111), some (.bl (s114.2)), w117] ∧ Sep H ([FoldersA p6 s133.1, lstA p5 (r4 : (List (List Str))), imA (.ref p111) (r110 : (List Any)), dictE recSL p9 (s133.2 : (List (Str × (Str × (List Str))))), lstA p2 (r1 : (List Int)), imA (.ref ad_v_law_script) v_law_script, F] : List (Asn G))) hm (fun hb q hm nx => ?_) (fun hb q hm nx => ?_) (fun s133 σ H hm hI => ?_)
                  ·
                    refine f_seq ?_
                    refine c_drop ?_
                    refine c_meth ?_
                    refine ev_to (ev_var rfl) ?_
                    obtain ⟨d134, _, _, _, _, hO135⟩ := ins_Folders hS (i := 0) rfl
                    refine ⟨_, _, _, rfl, hO135, rfl, ?_⟩
                    refine ea_to (ea_cons (ev_var rfl) ea_nil) ?_
                    refine ⟨p6, (s114.1 : Folders), x105, ("inbox" : Str), .non, (Any.non : Any), star [lstA p5 (r4 : (List (List Str))), imA (.ref p111) (r110 : (List Any)), dictE recSL p9 (s85.2 : (List (Str × (Str × (List Str))))), lstA p2 (r1 : (List Int)), imA (.ref ad_v_law_script) v_law_script, F], rfl, (any_non.mpr rfl), Sep.unstar (M := [FoldersA p6 s114.1]) (hS.sel [0, 1, 2, 3, 4, 5, 6] (by decide) rfl : Sep H (([FoldersA p6 s114.1] ++ [lstA p5 (r4 : (List (List Str))), imA (.ref p111) (r110 : (List Any)), dictE recSL p9 (s85.2 : (List (Str × (Str × (List Str))))), lstA p2 (r1 : (List Int)), imA (.ref ad_v_law_script) v_law_script, F] : List (Asn G)))), R.wp_mono (R.wp_bind hm) (fun r136 hm H hS => ?_) (fun _ z => z.elim)⟩
                    have hS : Sep H ([FoldersA p6 r136, lstA p5 (r4 : (List (List Str))), imA (.ref p111) (r110 : (List Any)), dictE recSL p9 (s85.2 : (List (Str × (Str × (List Str))))), lstA p2 (r1 : (List Int)), imA (.ref ad_v_law_script) v_law_script, F] : List (Asn G)) := Sep.star (M := [FoldersA p6 r136]) hS
                    refine sq_nx ?_
                    refine c_asgS ?_
                    refine c_fz ?_
                    refine c_lst ?_
                    refine c_cons ?_
                    refine ev_to ev_c ?_
                    refine c_cons ?_
                    refine c_fz ?_
                    refine c_lst ?_
                    refine ea_to ea_nil ?_
                    refine k_lst (α := Str) (vs := []) (xs := ([] : (List Str))) hS True.intro (by show 0 ≤ sizeLine; decide) fun p137 H hS => ?_
                    refine fz_yes (xs := (([] : (List Str)) : (List Str))) hS (i := 0) rfl fun H hS => ?_
                    have hS : Sep H ([imA (.ref p137) (([] : (List Str)) : (List Str)), FoldersA p6 r136, lstA p5 (r4 : (List (List Str))), imA (.ref p111) (r110 : (List Any)), dictE recSL p9 (s85.2 : (List (Str × (Str × (List Str))))), lstA p2 (r1 : (List Int)), imA (.ref ad_v_law_script) v_law_script, F] : List (Asn G)) := hS
                    refine c_nil ?_
                    refine k_lst (α := Any) (vs := [(.str (("inbox" : Str))), (.ref p137)]) (xs := [(Any.str ("inbox" : Str)), (Any.lst (([] : (List Str)).map Any.str))]) hS ⟨(any_str.mpr rfl), (any_lstS (hS.im (i := 0) rfl)), True.intro⟩ (by show 2 ≤ sizeLine; decide) fun p139 H hS => ?_
                    have hS : Sep H ([recSL p139 ((("inbox" : Str), ([] : (List Str))) : (Str × (List Str))), imA (.ref p137) (([] : (List Str)) : (List Str)), FoldersA p6 r136, lstA p5 (r4 : (List (List Str))), imA (.ref p111) (r110 : (List Any)), dictE recSL p9 (s85.2 : (List (Str × (Str × (List Str))))), lstA p2 (r1 : (List Int)), imA (.ref ad_v_law_script) v_law_script, F] : List (Asn G)) := hS
                    refine fz_no ?_
                    refine ev_to (ev_var rfl) ?_
                    refine ev_to (ev_var rfl) ?_
                    obtain ⟨h140, hm⟩ := R.wp_need hm
                    obtain ⟨h141, hm⟩ := R.wp_need hm
                    refine k_newE' (k := x105) (hS.sel [5, 0, 1, 2, 3, 4, 6, 7, 8] (by decide) rfl : Sep H (dictE recSL p9 (s85.2 : (List (Str × (Str × (List Str))))) :: recSL p139 ((("inbox" : Str), ([] : (List Str))) : (Str × (List Str))) :: [imA (.ref p137) (([] : (List Str)) : (List Str)), FoldersA p6 r136, lstA p5 (r4 : (List (List Str))), imA (.ref p111) (r110 : (List Any)), lstA p2 (r1 : (List Int)), imA (.ref ad_v_law_script) v_law_script, F] : List (Asn G))) h141 h140 fun H hS => ?_
                    have hS : Sep H ([dictE recSL p9 (s85.2 ++ [(x105, (("inbox" : Str), ([] : (List Str))))] : (List (Str × (Str × (List Str))))), imA (.ref p137) (([] : (List Str)) : (List Str)), FoldersA p6 r136, lstA p5 (r4 : (List (List Str))), imA (.ref p111) (r110 : (List Any)), lstA p2 (r1 : (List Int)), imA (.ref ad_v_law_script) v_law_script, F] : List (Asn G)) := hS
                    exact nx _ _ _ hm ⟨rfl, hS.sel [2, 3, 4, 0, 5, 6, 7] (by decide) rfl⟩
                  ·
                    refine st_nx ?_
                    exact nx _ _ _ hm ⟨rfl, hS.sel [0, 1, 2, 3, 4, 5, 6] (by decide) rfl⟩
                  · obtain ⟨rfl, hS⟩ := hI
                    exact nx _ _ _ hm ⟨rfl, hS.sel [0, 1, 2, 3, 4, 5, 6] (by decide) rfl⟩
                · obtain ⟨rfl, hS⟩ := hI
                  refine sq_nx ?_
                  refine f_if ?_
                  refine et_to (et_or (et_test (ev_eqI (ev_mod (ev_var rfl) ev_c (by decide)) ev_c)) fun _ => (et_test (ev_eqI (ev_mod (ev_fdiv (ev_var rfl) ev_c ⟨by decide, by decide⟩) ev_c (by decide)) ev_c))) ?_
                  refine ifK_2 (fun hb142 => ?_) (fun hb142 => ?_)
                  · have hm := R.wp_ifY hm hb142
                    refine f_seq ?_
                    refine f_if ?_
                    refine f_not ?_
                    refine f_B ?_
                    refine c_call ?_
                    refine ea_to (ea_cons (ev_var rfl) (ea_cons (ev_var rfl) (ea_cons (ev_var rfl) (ea_cons (ev_fz (ev_var rfl)) (ea_cons (ev_var rfl) ea_nil))))) ?_
                    refine ⟨p6, (s127.1 : Folders), s107, x105, p5, (r4 : (List (List Str))), x96, star [imA (.ref p111) (r110 : (List Any)), dictE recSL p9 (s127.2 : (List (Str × (Str × (List Str))))), lstA p2 (r1 : (List Int)), imA (.ref ad_v_law_script) v_law_script, F], rfl, Sep.unstar (M := [FoldersA p6 s127.1, lstA p5 (r4 : (List (List Str)))]) (hS.sel [0, 1, 2, 3, 4, 5, 6] (by decide) rfl : Sep H (([FoldersA p6 s127.1, lstA p5 (r4 : (List (List Str)))] ++ [imA (.ref p111) (r110 : (List Any)), dictE recSL p9 (s127.2 : (List (Str × (Str × (List Str))))), lstA p2 (r1 : (List Int)), imA (.ref ad_v_law_script) v_law_script, F] : List (Asn G)))), R.wp_mono (R.wp_bind hm) (fun r143 hm H hS => ?_) (fun _ z => z)⟩
                    have hS : Sep H ([FoldersA p6 r143.2, lstA p5 (r4 : (List (List Str))), imA (.ref p111) (r110 : (List Any)), dictE recSL p9 (s127.2 : (List (Str × (Str × (List Str))))), lstA p2 (r1 : (List Int)), imA (.ref ad_v_law_script) v_law_script, F] : List (Asn G)) := Sep.star (M := [FoldersA p6 r143.2, lstA p5 (r4 : (List (List Str)))]) hS
                    refine f_bl ?_
                    refine f_nK ?_
                    refine ifK_2 (fun hb144 => ?_) (fun hb144 => ?_)
                    · have hm := R.wp_ifY hm hb144
                      refine c_ret ?_
                      refine ev_to ev_c ?_
                      exact (ho95 _ hm) _ (hS.sel [6] (by decide) rfl)
                    · have hm := R.wp_ifN hm (by first | (rw [hb144]; decide) | simpa using hb144)
                      refine st_nx ?_
                      refine sq_nx ?_
                      refine f_seq ?_
                      refine f_if ?_
                      refine et_to (et_test (ev_eqI (ev_mod (ev_var rfl) ev_c (by decide)) ev_c)) ?_
                      refine ifK_J (τ := (List (Str × (Str × (List Str))))) (fun (s145 : (List (Str × (Str × (List Str))))) (σ : L2.St) (H : Hp) => σ = [some (.ref ad_v_law_script), some (.ref p2), some (.ref p5), some (.ref p6), some (.ref p9), some (.int (x86)), w16, some (.int (x96)), some (.str (x105)), some (.int (s107)), some (.ref p111), some (.bl (s114.2)), w117] ∧ Sep H ([FoldersA p6 r143.2, lstA p5 (r4 : (List (List Str))), imA (.ref p111) (r110 : (List Any)), dictE recSL p9 (s145 : (List (Str × (Str × (List Str))))), lstA p2 (r1 : (List Int)), imA (.ref ad_v_law_script) v_law_script, F] : List (Asn G))) hm (fun hb q hm nx => ?_) (fun hb q hm nx => ?_) (fun s145 σ H hm hI => ?_)
                      ·
                        refine c_asgS ?_
                        refine c_fz ?_
                        refine c_lst ?_
                        refine c_cons ?_
                        refine ev_to ev_c ?_
                        refine c_cons ?_
                        refine c_fz ?_
                        refine c_lst ?_
                        refine ea_to ea_nil ?_
                        refine k_lst (α := Str) (vs := []) (xs := ([] : (List Str))) hS True.intro (by show 0 ≤ sizeLine; decide) fun p146 H hS => ?_
                        refine fz_yes (xs := (([] : (List Str)) : (List Str))) hS (i := 0) rfl fun H hS => ?_
                        have hS : Sep H ([imA (.ref p146) (([] : (List Str)) : (List Str)), FoldersA p6 r143.2, lstA p5 (r4 : (List (List Str))), imA (.ref p111) (r110 : (List Any)), dictE recSL p9 (s127.2 : (List (Str × (Str × (List Str))))), lstA p2 (r1 : (List Int)), imA (.ref ad_v_law_script) v_law_script, F] : List (Asn G)) := hS
                        refine c_nil ?_
                        refine k_lst (α := Any) (vs := [(.str (("" : Str))), (.ref p146)]) (xs := [(Any.str ("" : Str)), (Any.lst (([] : (List Str)).map Any.str))]) hS ⟨(any_str.mpr rfl), (any_lstS (hS.im (i := 0) rfl)), True.intro⟩ (by show 2 ≤ sizeLine; decide) fun p148 H hS => ?_
                        have hS : Sep H ([recSL p148 ((("" : Str), ([] : (List Str))) : (Str × (List Str))), imA (.ref p146) (([] : (List Str)) : (List Str)), FoldersA p6 r143.2, lstA p5 (r4 : (List (List Str))), imA (.ref p111) (r110 : (List Any)), dictE recSL p9 (s127.2 : (List (Str × (Str × (List Str))))), lstA p2 (r1 : (List Int)), imA (.ref ad_v_law_script) v_law_script, F] : List (Asn G)) := hS
                        refine fz_no ?_
                        refine ev_to (ev_var rfl) ?_
                        refine ev_to (ev_var rfl) ?_
                        obtain ⟨h149, hm⟩ := R.wp_need hm
                        obtain ⟨h150, hm⟩ := R.wp_need hm
                        refine k_newE' (k := x105) (hS.sel [5, 0, 1, 2, 3, 4, 6, 7, 8] (by decide) rfl : Sep H (dictE recSL p9 (s127.2 : (List (Str × (Str × (List Str))))) :: recSL p148 ((("" : Str), ([] : (List Str))) : (Str × (List Str))) :: [imA (.ref p146) (([] : (List Str)) : (List Str)), FoldersA p6 r143.2, lstA p5 (r4 : (List (List Str))), imA (.ref p111) (r110 : (List Any)), lstA p2 (r1 : (List Int)), imA (.ref ad_v_law_script) v_law_script, F] : List (Asn G))) h150 h149 fun H hS => ?_
                        have hS : Sep H ([dictE recSL p9 (s127.2 ++ [(x105, (("" : Str), ([] : (List Str))))] : (List (Str × (Str × (List Str))))), imA (.ref p146) (([] : (List Str)) : (List Str)), FoldersA p6 r143.2, lstA p5 (r4 : (List (List Str))), imA (.ref p111) (r110 : (List Any)), lstA p2 (r1 : (List Int)), imA (.ref ad_v_law_script) v_law_script, F] : List (Asn G)) := hS
                        exact nx _ _ _ hm ⟨rfl, hS.sel [2, 3, 4, 0, 5, 6, 7] (by decide) rfl⟩
                      ·
                        refine st_nx ?_
                        exact nx _ _ _ hm ⟨rfl, hS.sel [0, 1, 2, 3, 4, 5, 6] (by decide) rfl⟩
                      · obtain ⟨rfl, hS⟩ := hI
                        refine sq_nx ?_
                        refine f_if ?_
                        refine et_to (et_test (ev_eqI (ev_var rfl) ev_c)) ?_
                        refine ifK_J (τ := (List (Str × (Str × (List Str))))) (fun (s151 : (List (Str × (Str × (List Str))))) (σ : L2.St) (H : Hp) => σ = [some (.ref ad_v_law_script), some (.ref p2), some (.ref p5), some (.ref p6), some (.ref p9), some (.int (x86)), w16, some (.int (x96)), some (.str (x105)), some (.int (s107)), some (.ref p111), some (.bl (s114.2)), w117] ∧ Sep H ([FoldersA p6 r143.2, lstA p5 (r4 : (List (List Str))), imA (.ref p111) (r110 : (List Any)), dictE recSL p9 (s151 : (List (Str × (Str × (List Str))))), lstA p2 (r1 : (List Int)), imA (.ref ad_v_law_script) v_law_script, F] : List (Asn G))) hm (fun hb q hm nx => ?_) (fun hb q hm nx => ?_) (fun s151 σ H hm hI => ?_)
                        ·
                          refine c_drop ?_
                          refine c_dpop1 ?_
                          refine ev_to (ev_var rfl) ?_
                          refine k_pop1a (isD_Ei hS (i := 3) rfl) ?_
                          refine ev_to (ev_var rfl) ?_
                          obtain ⟨y152, hy152, hm⟩ := wp_dgetX hm
                          refine k_pop1E (hS.sel [3, 0, 1, 2, 4, 5, 6] (by decide) rfl : Sep _ (dictE recSL p9 (s145 : (List (Str × (Str × (List Str))))) :: [FoldersA p6 r143.2, lstA p5 (r4 : (List (List Str))), imA (.ref p111) (r110 : (List Any)), lstA p2 (r1 : (List Int)), imA (.ref ad_v_law_script) v_law_script, F] : List (Asn G))) hy152 fun v153 H hS => ?_
                          have hS : Sep H ([recSL v153 (y152 : (Str × (List Str))), dictE recSL p9 (ddrop s145 x105 : (List (Str × (Str × (List Str))))), FoldersA p6 r143.2, lstA p5 (r4 : (List (List Str))), imA (.ref p111) (r110 : (List Any)), lstA p2 (r1 : (List Int)), imA (.ref ad_v_law_script) v_law_script, F] : List (Asn G)) := hS
                          exact nx _ _ _ hm ⟨rfl, hS.sel [2, 3, 4, 1, 5, 6, 7] (by decide) rfl⟩
                        ·
                          refine st_nx ?_
                          exact nx _ _ _ hm ⟨rfl, hS.sel [0, 1, 2, 3, 4, 5, 6] (by decide) rfl⟩
                        · obtain ⟨rfl, hS⟩ := hI
                          exact nx _ _ _ hm ⟨_, _, _, _, _, _, _, rfl, hS.sel [3, 0, 1, 4, 5, 6] (by decide) rfl⟩
                  · have hm := R.wp_ifN hm (by first | (rw [hb142]; decide) | simpa using hb142)
                    refine st_nx ?_
                    exact nx _ _ _ hm ⟨_, _, _, _, _, _, _, rfl, hS.sel [3, 0, 1, 4, 5, 6] (by decide) rfl⟩
      · obtain ⟨w88, w89, w90, w91, w92, w93, w94, rfl, hS⟩ := hI
        refine sq_nx ?_
        refine c_ret ?_
        refine ev_to ev_c ?_
        exact hm _ (hS.sel [5] (by decide) rfl)
end
end Lw
namespace Lw
open PySem PySem.Spec PyProof.Rows L2 Ml
def sp_top (K : PySem.W.Frag) : Sp := fun vs H Q E => ∃ (a : Addr) (ns : List Int), vs = [.ref a] ∧ SqL K H a (ns.map V.int) ∧ Only H ∧ ns.length ≤ 63 ∧ ∀ H', Q (.bl true) H'
theorem all_mk {l : PySem.W.OpenLaw} {w : World} {K : PySem.W.Frag} {h : Heap} {mg : Str → Option Value} {fa : Addr} (X : K.In h) (H : h.Ns mainGlobals mg) (hfa : mg "law" = some (.ref fa))
    {c0 : Addr}
    {c1 : Addr}
    {c2 : Addr}
    {c3 : Addr}
    {c4 : Addr}
    {c5 : Addr}
    {c6 : Addr}
    {c7 : Addr}
    {f0 : Addr} {od0 an0 : Option Addr} {sl0 : Array (Option Value)} {oc0 kV0 dc0 pm0 cd0 ct0 : Value}
    {f1 : Addr} {od1 an1 : Option Addr} {sl1 : Array (Option Value)} {oc1 kV1 dc1 pm1 cd1 ct1 : Value}
    {f2 : Addr} {od2 an2 : Option Addr} {sl2 : Array (Option Value)} {oc2 kV2 dc2 pm2 cd2 ct2 : Value}
    {f3 : Addr} {od3 an3 : Option Addr} {sl3 : Array (Option Value)} {oc3 kV3 dc3 pm3 cd3 ct3 : Value}
    {f4 : Addr} {fd4 : FuncData}
    {f5 : Addr} {od5 an5 : Option Addr} {sl5 : Array (Option Value)} {oc5 kV5 dc5 pm5 cd5 ct5 : Value}
    {f6 : Addr} {od6 an6 : Option Addr} {sl6 : Array (Option Value)} {oc6 kV6 dc6 pm6 cd6 ct6 : Value}
    {f7 : Addr} {od7 an7 : Option Addr} {sl7 : Array (Option Value)} {oc7 kV7 dc7 pm7 cd7 ct7 : Value}
    {f8 : Addr} {od8 an8 : Option Addr} {sl8 : Array (Option Value)} {oc8 kV8 dc8 pm8 cd8 ct8 : Value}
    {f9 : Addr} {od9 an9 : Option Addr} {sl9 : Array (Option Value)} {oc9 kV9 dc9 pm9 cd9 ct9 : Value}
    {f10 : Addr} {od10 an10 : Option Addr} {sl10 : Array (Option Value)} {oc10 kV10 dc10 pm10 cd10 ct10 : Value}
    {f11 : Addr} {od11 an11 : Option Addr} {sl11 : Array (Option Value)} {oc11 kV11 dc11 pm11 cd11 ct11 : Value}
    {f12 : Addr} {od12 an12 : Option Addr} {sl12 : Array (Option Value)} {oc12 kV12 dc12 pm12 cd12 ct12 : Value}
    {f13 : Addr} {od13 an13 : Option Addr} {sl13 : Array (Option Value)} {oc13 kV13 dc13 pm13 cd13 ct13 : Value}
    {f14 : Addr} {od14 an14 : Option Addr} {sl14 : Array (Option Value)} {oc14 kV14 dc14 pm14 cd14 ct14 : Value}
    {f15 : Addr} {od15 an15 : Option Addr} {sl15 : Array (Option Value)} {oc15 kV15 dc15 pm15 cd15 ct15 : Value}
    {f16 : Addr} {od16 an16 : Option Addr} {sl16 : Array (Option Value)} {oc16 kV16 dc16 pm16 cd16 ct16 : Value}
    {f17 : Addr} {od17 an17 : Option Addr} {sl17 : Array (Option Value)} {oc17 kV17 dc17 pm17 cd17 ct17 : Value}
    {f18 : Addr} {od18 an18 : Option Addr} {sl18 : Array (Option Value)} {oc18 kV18 dc18 pm18 cd18 ct18 : Value}
    {f19 : Addr} {od19 an19 : Option Addr} {sl19 : Array (Option Value)} {oc19 kV19 dc19 pm19 cd19 ct19 : Value}
    {f20 : Addr} {od20 an20 : Option Addr} {sl20 : Array (Option Value)} {oc20 kV20 dc20 pm20 cd20 ct20 : Value}
    {f21 : Addr} {od21 an21 : Option Addr} {sl21 : Array (Option Value)} {oc21 kV21 dc21 pm21 cd21 ct21 : Value}
    {f22 : Addr} {od22 an22 : Option Addr} {sl22 : Array (Option Value)} {oc22 kV22 dc22 pm22 cd22 ct22 : Value}
    {f23 : Addr} {od23 an23 : Option Addr} {sl23 : Array (Option Value)} {oc23 kV23 dc23 pm23 cd23 ct23 : Value}
    {f24 : Addr} {od24 an24 : Option Addr} {sl24 : Array (Option Value)} {oc24 kV24 dc24 pm24 cd24 ct24 : Value}
    {f25 : Addr} {od25 an25 : Option Addr} {sl25 : Array (Option Value)} {oc25 kV25 dc25 pm25 cd25 ct25 : Value}
    {f26 : Addr} {od26 an26 : Option Addr} {sl26 : Array (Option Value)} {oc26 kV26 dc26 pm26 cd26 ct26 : Value}
    {t_SEEN : Tok}
    (ac0 : PySem.W.nsIn K mainGlobals "MailError" = some (some (.ref c0)))
    (ac1 : PySem.W.nsIn K mainGlobals "NoWord" = some (some (.ref c1)))
    (ac2 : PySem.W.nsIn K mainGlobals "NoLetter" = some (some (.ref c2)))
    (ac3 : PySem.W.nsIn K mainGlobals "NoRule" = some (some (.ref c3)))
    (ac4 : PySem.W.nsIn K mainGlobals "NoName" = some (some (.ref c4)))
    (ac5 : PySem.W.nsIn K mainGlobals "NoParcel" = some (some (.ref c5)))
    (ac6 : PySem.W.nsIn K mainGlobals "NoRow" = some (some (.ref c6)))
    (ac7 : PySem.W.nsIn K mainGlobals "Folders" = some (some (.ref c7)))
    (a0_7 : PySem.W.findIn K (.ref c7) "__init__" = some (some (.ref f0)))
    (i0 : PySem.W.isFn K (.ref f0) = true)
    (l0 : K.lookup f0 = some ⟨oc0, od0, .func (PySem.W.fnOf "__init__" "Folders.__init__" (defArgs s_Folders___init__) (defBody s_Folders___init__) (defScope s_Folders___init__) .none kV0 dc0 pm0 an0 cd0 ct0), sl0⟩)
    (cc0 : PySem.W.codeIn K cd0 "Folders.__init__" = true)
    (k0 : PySem.W.keepIn K (.ref f0) = true)
    (mk7 : PySem.W.makesIn K c7 = true)
    (kc7 : PySem.W.keepIn K (.ref c7) = true)
    (a1_7 : PySem.W.findIn K (.ref c7) "need" = some (some (.ref f1)))
    (i1 : PySem.W.isFn K (.ref f1) = true)
    (l1 : K.lookup f1 = some ⟨oc1, od1, .func (PySem.W.fnOf "need" "Folders.need" (defArgs s_Folders_need) (defBody s_Folders_need) (defScope s_Folders_need) .none kV1 dc1 pm1 an1 cd1 ct1), sl1⟩)
    (cc1 : PySem.W.codeIn K cd1 "Folders.need" = true)
    (k1 : PySem.W.keepIn K (.ref f1) = true)
    (a2_7 : PySem.W.findIn K (.ref c7) "tally" = some (some (.ref f2)))
    (i2 : PySem.W.isFn K (.ref f2) = true)
    (l2 : K.lookup f2 = some ⟨oc2, od2, .func (PySem.W.fnOf "tally" "Folders.tally" (defArgs s_Folders_tally) (defBody s_Folders_tally) (defScope s_Folders_tally) .none kV2 dc2 pm2 an2 cd2 ct2), sl2⟩)
    (cc2 : PySem.W.codeIn K cd2 "Folders.tally" = true)
    (k2 : PySem.W.keepIn K (.ref f2) = true)
    (a3_7 : PySem.W.findIn K (.ref c7) "shift" = some (some (.ref f3)))
    (i3 : PySem.W.isFn K (.ref f3) = true)
    (l3 : K.lookup f3 = some ⟨oc3, od3, .func (PySem.W.fnOf "shift" "Folders.shift" (defArgs s_Folders_shift) (defBody s_Folders_shift) (defScope s_Folders_shift) .none kV3 dc3 pm3 an3 cd3 ct3), sl3⟩)
    (cc3 : PySem.W.codeIn K cd3 "Folders.shift" = true)
    (k3 : PySem.W.keepIn K (.ref f3) = true)
    (a4_7 : PySem.W.findIn K (.ref c7) "add" = some (some (.ref f4)))
    (i4 : PySem.W.isFn K (.ref f4) = true)
    (F4 : FunD K "add" "Folders.add" (defArgs s_Folders_add) (defBody s_Folders_add) (defScope s_Folders_add) [.str ("inbox" : Str), .non] [] f4 fd4)
    (a5_7 : PySem.W.findIn K (.ref c7) "take_out" = some (some (.ref f5)))
    (i5 : PySem.W.isFn K (.ref f5) = true)
    (l5 : K.lookup f5 = some ⟨oc5, od5, .func (PySem.W.fnOf "take_out" "Folders.take_out" (defArgs s_Folders_take_out) (defBody s_Folders_take_out) (defScope s_Folders_take_out) .none kV5 dc5 pm5 an5 cd5 ct5), sl5⟩)
    (cc5 : PySem.W.codeIn K cd5 "Folders.take_out" = true)
    (k5 : PySem.W.keepIn K (.ref f5) = true)
    (a6_7 : PySem.W.findIn K (.ref c7) "place" = some (some (.ref f6)))
    (i6 : PySem.W.isFn K (.ref f6) = true)
    (l6 : K.lookup f6 = some ⟨oc6, od6, .func (PySem.W.fnOf "place" "Folders.place" (defArgs s_Folders_place) (defBody s_Folders_place) (defScope s_Folders_place) .none kV6 dc6 pm6 an6 cd6 ct6), sl6⟩)
    (cc6 : PySem.W.codeIn K cd6 "Folders.place" = true)
    (k6 : PySem.W.keepIn K (.ref f6) = true)
    (a7_7 : PySem.W.findIn K (.ref c7) "mark" = some (some (.ref f7)))
    (i7 : PySem.W.isFn K (.ref f7) = true)
    (l7 : K.lookup f7 = some ⟨oc7, od7, .func (PySem.W.fnOf "mark" "Folders.mark" (defArgs s_Folders_mark) (defBody s_Folders_mark) (defScope s_Folders_mark) .none kV7 dc7 pm7 an7 cd7 ct7), sl7⟩)
    (cc7 : PySem.W.codeIn K cd7 "Folders.mark" = true)
    (k7 : PySem.W.keepIn K (.ref f7) = true)
    (a8_7 : PySem.W.findIn K (.ref c7) "unmark" = some (some (.ref f8)))
    (i8 : PySem.W.isFn K (.ref f8) = true)
    (l8 : K.lookup f8 = some ⟨oc8, od8, .func (PySem.W.fnOf "unmark" "Folders.unmark" (defArgs s_Folders_unmark) (defBody s_Folders_unmark) (defScope s_Folders_unmark) .none kV8 dc8 pm8 an8 cd8 ct8), sl8⟩)
    (cc8 : PySem.W.codeIn K cd8 "Folders.unmark" = true)
    (k8 : PySem.W.keepIn K (.ref f8) = true)
    (a9_7 : PySem.W.findIn K (.ref c7) "folder" = some (some (.ref f9)))
    (i9 : PySem.W.isFn K (.ref f9) = true)
    (l9 : K.lookup f9 = some ⟨oc9, od9, .func (PySem.W.fnOf "folder" "Folders.folder" (defArgs s_Folders_folder) (defBody s_Folders_folder) (defScope s_Folders_folder) .none kV9 dc9 pm9 an9 cd9 ct9), sl9⟩)
    (cc9 : PySem.W.codeIn K cd9 "Folders.folder" = true)
    (k9 : PySem.W.keepIn K (.ref f9) = true)
    (a10_7 : PySem.W.findIn K (.ref c7) "marks" = some (some (.ref f10)))
    (i10 : PySem.W.isFn K (.ref f10) = true)
    (l10 : K.lookup f10 = some ⟨oc10, od10, .func (PySem.W.fnOf "marks" "Folders.marks" (defArgs s_Folders_marks) (defBody s_Folders_marks) (defScope s_Folders_marks) .none kV10 dc10 pm10 an10 cd10 ct10), sl10⟩)
    (cc10 : PySem.W.codeIn K cd10 "Folders.marks" = true)
    (k10 : PySem.W.keepIn K (.ref f10) = true)
    (a11_7 : PySem.W.findIn K (.ref c7) "counts" = some (some (.ref f11)))
    (i11 : PySem.W.isFn K (.ref f11) = true)
    (l11 : K.lookup f11 = some ⟨oc11, od11, .func (PySem.W.fnOf "counts" "Folders.counts" (defArgs s_Folders_counts) (defBody s_Folders_counts) (defScope s_Folders_counts) .none kV11 dc11 pm11 an11 cd11 ct11), sl11⟩)
    (cc11 : PySem.W.codeIn K cd11 "Folders.counts" = true)
    (k11 : PySem.W.keepIn K (.ref f11) = true)
    (a12_7 : PySem.W.findIn K (.ref c7) "marked" = some (some (.ref f12)))
    (i12 : PySem.W.isFn K (.ref f12) = true)
    (l12 : K.lookup f12 = some ⟨oc12, od12, .func (PySem.W.fnOf "marked" "Folders.marked" (defArgs s_Folders_marked) (defBody s_Folders_marked) (defScope s_Folders_marked) .none kV12 dc12 pm12 an12 cd12 ct12), sl12⟩)
    (cc12 : PySem.W.codeIn K cd12 "Folders.marked" = true)
    (k12 : PySem.W.keepIn K (.ref f12) = true)
    (a13_7 : PySem.W.findIn K (.ref c7) "names" = some (some (.ref f13)))
    (i13 : PySem.W.isFn K (.ref f13) = true)
    (l13 : K.lookup f13 = some ⟨oc13, od13, .func (PySem.W.fnOf "names" "Folders.names" (defArgs s_Folders_names) (defBody s_Folders_names) (defScope s_Folders_names) .none kV13 dc13 pm13 an13 cd13 ct13), sl13⟩)
    (cc13 : PySem.W.codeIn K cd13 "Folders.names" = true)
    (k13 : PySem.W.keepIn K (.ref f13) = true)
    (a14_7 : PySem.W.findIn K (.ref c7) "folders" = some (some (.ref f14)))
    (i14 : PySem.W.isFn K (.ref f14) = true)
    (l14 : K.lookup f14 = some ⟨oc14, od14, .func (PySem.W.fnOf "folders" "Folders.folders" (defArgs s_Folders_folders) (defBody s_Folders_folders) (defScope s_Folders_folders) .none kV14 dc14 pm14 an14 cd14 ct14), sl14⟩)
    (cc14 : PySem.W.codeIn K cd14 "Folders.folders" = true)
    (k14 : PySem.W.keepIn K (.ref f14) = true)
    (a15 : PySem.W.nsIn K mainGlobals "_law_row" = some (some (.ref f15)))
    (l15 : K.lookup f15 = some ⟨oc15, od15, .func (PySem.W.fnOf "_law_row" "_law_row" (defArgs s_law_row) (defBody s_law_row) (defScope s_law_row) .none kV15 dc15 pm15 an15 cd15 ct15), sl15⟩)
    (cc15 : PySem.W.codeIn K cd15 "_law_row" = true)
    (k15 : PySem.W.keepIn K (.ref f15) = true)
    (a16 : PySem.W.nsIn K mainGlobals "_law_word" = some (some (.ref f16)))
    (l16 : K.lookup f16 = some ⟨oc16, od16, .func (PySem.W.fnOf "_law_word" "_law_word" (defArgs s_law_word) (defBody s_law_word) (defScope s_law_word) .none kV16 dc16 pm16 an16 cd16 ct16), sl16⟩)
    (cc16 : PySem.W.codeIn K cd16 "_law_word" = true)
    (k16 : PySem.W.keepIn K (.ref f16) = true)
    (a17 : PySem.W.nsIn K mainGlobals "_law_done" = some (some (.ref f17)))
    (l17 : K.lookup f17 = some ⟨oc17, od17, .func (PySem.W.fnOf "_law_done" "_law_done" (defArgs s_law_done) (defBody s_law_done) (defScope s_law_done) .none kV17 dc17 pm17 an17 cd17 ct17), sl17⟩)
    (cc17 : PySem.W.codeIn K cd17 "_law_done" = true)
    (k17 : PySem.W.keepIn K (.ref f17) = true)
    (a18 : PySem.W.nsIn K mainGlobals "_law_does" = some (some (.ref f18)))
    (l18 : K.lookup f18 = some ⟨oc18, od18, .func (PySem.W.fnOf "_law_does" "_law_does" (defArgs s_law_does) (defBody s_law_does) (defScope s_law_does) .none kV18 dc18 pm18 an18 cd18 ct18), sl18⟩)
    (cc18 : PySem.W.codeIn K cd18 "_law_does" = true)
    (k18 : PySem.W.keepIn K (.ref f18) = true)
    (a19 : PySem.W.nsIn K mainGlobals "_law_some" = some (some (.ref f19)))
    (l19 : K.lookup f19 = some ⟨oc19, od19, .func (PySem.W.fnOf "_law_some" "_law_some" (defArgs s_law_some) (defBody s_law_some) (defScope s_law_some) .none kV19 dc19 pm19 an19 cd19 ct19), sl19⟩)
    (cc19 : PySem.W.codeIn K cd19 "_law_some" = true)
    (k19 : PySem.W.keepIn K (.ref f19) = true)
    (a20 : PySem.W.nsIn K mainGlobals "_law_of_one_class" = some (some (.ref f20)))
    (l20 : K.lookup f20 = some ⟨oc20, od20, .func (PySem.W.fnOf "_law_of_one_class" "_law_of_one_class" (defArgs s_law_of_one_class) (defBody s_law_of_one_class) (defScope s_law_of_one_class) .none kV20 dc20 pm20 an20 cd20 ct20), sl20⟩)
    (cc20 : PySem.W.codeIn K cd20 "_law_of_one_class" = true)
    (k20 : PySem.W.keepIn K (.ref f20) = true)
    (a21 : PySem.W.nsIn K mainGlobals "_law_asked" = some (some (.ref f21)))
    (l21 : K.lookup f21 = some ⟨oc21, od21, .func (PySem.W.fnOf "_law_asked" "_law_asked" (defArgs s_law_asked) (defBody s_law_asked) (defScope s_law_asked) .none kV21 dc21 pm21 an21 cd21 ct21), sl21⟩)
    (cc21 : PySem.W.codeIn K cd21 "_law_asked" = true)
    (k21 : PySem.W.keepIn K (.ref f21) = true)
    (a22 : PySem.W.nsIn K mainGlobals "_law_refused" = some (some (.ref f22)))
    (l22 : K.lookup f22 = some ⟨oc22, od22, .func (PySem.W.fnOf "_law_refused" "_law_refused" (defArgs s_law_refused) (defBody s_law_refused) (defScope s_law_refused) .none kV22 dc22 pm22 an22 cd22 ct22), sl22⟩)
    (cc22 : PySem.W.codeIn K cd22 "_law_refused" = true)
    (k22 : PySem.W.keepIn K (.ref f22) = true)
    (a23 : PySem.W.nsIn K mainGlobals "_law_odd_refused" = some (some (.ref f23)))
    (l23 : K.lookup f23 = some ⟨oc23, od23, .func (PySem.W.fnOf "_law_odd_refused" "_law_odd_refused" (defArgs s_law_odd_refused) (defBody s_law_odd_refused) (defScope s_law_odd_refused) .none kV23 dc23 pm23 an23 cd23 ct23), sl23⟩)
    (cc23 : PySem.W.codeIn K cd23 "_law_odd_refused" = true)
    (k23 : PySem.W.keepIn K (.ref f23) = true)
    (a24 : PySem.W.nsIn K mainGlobals "_law_goes" = some (some (.ref f24)))
    (l24 : K.lookup f24 = some ⟨oc24, od24, .func (PySem.W.fnOf "_law_goes" "_law_goes" (defArgs s_law_goes) (defBody s_law_goes) (defScope s_law_goes) .none kV24 dc24 pm24 an24 cd24 ct24), sl24⟩)
    (cc24 : PySem.W.codeIn K cd24 "_law_goes" = true)
    (k24 : PySem.W.keepIn K (.ref f24) = true)
    (a25 : PySem.W.nsIn K mainGlobals "_law_seen" = some (some (.ref f25)))
    (l25 : K.lookup f25 = some ⟨oc25, od25, .func (PySem.W.fnOf "_law_seen" "_law_seen" (defArgs s_law_seen) (defBody s_law_seen) (defScope s_law_seen) .none kV25 dc25 pm25 an25 cd25 ct25), sl25⟩)
    (cc25 : PySem.W.codeIn K cd25 "_law_seen" = true)
    (k25 : PySem.W.keepIn K (.ref f25) = true)
    (a26 : PySem.W.nsIn K mainGlobals "law" = some (some (.ref f26)))
    (l26 : K.lookup f26 = some ⟨oc26, od26, .func (PySem.W.fnOf "law" "law" (defArgs s_law) (defBody s_law) (defScope s_law) .none kV26 dc26 pm26 an26 cd26 ct26), sl26⟩)
    (cc26 : PySem.W.codeIn K cd26 "law" = true)
    (k26 : PySem.W.keepIn K (.ref f26) = true)
    (bE0 : PySem.W.subIn K (.ref c0) (.type "BaseException") = some true)
    (tE0 : PySem.W.typeIn K (.ref c0) = some (.type "type"))
    (hE0 : PySem.W.hasDictIn K c0 = true)
    (s0_0 : PySem.W.subIn K (.ref c0) (.ref c0) = some true)
    (s1_0 : PySem.W.subIn K (.ref c1) (.ref c0) = some true)
    (s2_0 : PySem.W.subIn K (.ref c2) (.ref c0) = some true)
    (s3_0 : PySem.W.subIn K (.ref c3) (.ref c0) = some true)
    (s4_0 : PySem.W.subIn K (.ref c4) (.ref c0) = some true)
    (s5_0 : PySem.W.subIn K (.ref c5) (.ref c0) = some true)
    (s6_0 : PySem.W.subIn K (.ref c6) (.ref c0) = some true)
    (xE4 : PySem.W.excIn K c4 [.type "ValueError", .type "Exception", .type "BaseException", .type "object"] "ValueError.__new__" = true)
    (kE4 : PySem.W.keepIn K (.ref c4) = true)
    (bE4 : PySem.W.subIn K (.ref c4) (.type "BaseException") = some true)
    (tE4 : PySem.W.typeIn K (.ref c4) = some (.type "type"))
    (pg7 : PySem.W.plainGet K c7 Str.empty = true)
    (hd7 : PySem.W.hasDictIn K c7 = true)
    (po7 : PySem.W.plainOver K c7 = true)
    (sa7 : PySem.W.findIn K (.ref c7) "__setattr__" = some (some (.builtin "object.__setattr__")))
    (nf7_0 : PySem.W.findIn K (.ref c7) "boxes" = some none)
    (nf7_1 : PySem.W.findIn K (.ref c7) "tags" = some none)
    (nf7_2 : PySem.W.findIn K (.ref c7) "sums" = some none)
    (nf7_3 : PySem.W.findIn K (.ref c7) "tallies" = some none)
    (ea0 : PySem.W.findIn K (.ref c0) "__getattribute__" = some (some (.builtin "BaseException.__getattribute__")))
    (eb0 : PySem.W.findIn K (.ref c0) "__getattr__" = some none)
    (ed0 : PySem.W.findIn K (.ref c0) "__class__" = some (some (.builtin "object.__class__")))
    (eh0 : PySem.W.mroIn K c0 (.type "object") = some true)
    (ea1 : PySem.W.findIn K (.ref c1) "__getattribute__" = some (some (.builtin "BaseException.__getattribute__")))
    (eb1 : PySem.W.findIn K (.ref c1) "__getattr__" = some none)
    (bE1 : PySem.W.subIn K (.ref c1) (.type "BaseException") = some true)
    (tE1 : PySem.W.typeIn K (.ref c1) = some (.type "type"))
    (hE1 : PySem.W.hasDictIn K c1 = true)
    (ed1 : PySem.W.findIn K (.ref c1) "__class__" = some (some (.builtin "object.__class__")))
    (eh1 : PySem.W.mroIn K c1 (.type "object") = some true)
    (ea2 : PySem.W.findIn K (.ref c2) "__getattribute__" = some (some (.builtin "BaseException.__getattribute__")))
    (eb2 : PySem.W.findIn K (.ref c2) "__getattr__" = some none)
    (bE2 : PySem.W.subIn K (.ref c2) (.type "BaseException") = some true)
    (tE2 : PySem.W.typeIn K (.ref c2) = some (.type "type"))
    (hE2 : PySem.W.hasDictIn K c2 = true)
    (ed2 : PySem.W.findIn K (.ref c2) "__class__" = some (some (.builtin "object.__class__")))
    (eh2 : PySem.W.mroIn K c2 (.type "object") = some true)
    (ea3 : PySem.W.findIn K (.ref c3) "__getattribute__" = some (some (.builtin "BaseException.__getattribute__")))
    (eb3 : PySem.W.findIn K (.ref c3) "__getattr__" = some none)
    (bE3 : PySem.W.subIn K (.ref c3) (.type "BaseException") = some true)
    (tE3 : PySem.W.typeIn K (.ref c3) = some (.type "type"))
    (hE3 : PySem.W.hasDictIn K c3 = true)
    (ed3 : PySem.W.findIn K (.ref c3) "__class__" = some (some (.builtin "object.__class__")))
    (eh3 : PySem.W.mroIn K c3 (.type "object") = some true)
    (ea4 : PySem.W.findIn K (.ref c4) "__getattribute__" = some (some (.builtin "BaseException.__getattribute__")))
    (eb4 : PySem.W.findIn K (.ref c4) "__getattr__" = some none)
    (hE4 : PySem.W.hasDictIn K c4 = true)
    (ed4 : PySem.W.findIn K (.ref c4) "__class__" = some (some (.builtin "object.__class__")))
    (eh4 : PySem.W.mroIn K c4 (.type "object") = some true)
    (ea5 : PySem.W.findIn K (.ref c5) "__getattribute__" = some (some (.builtin "BaseException.__getattribute__")))
    (eb5 : PySem.W.findIn K (.ref c5) "__getattr__" = some none)
    (bE5 : PySem.W.subIn K (.ref c5) (.type "BaseException") = some true)
    (tE5 : PySem.W.typeIn K (.ref c5) = some (.type "type"))
    (hE5 : PySem.W.hasDictIn K c5 = true)
    (ed5 : PySem.W.findIn K (.ref c5) "__class__" = some (some (.builtin "object.__class__")))
    (eh5 : PySem.W.mroIn K c5 (.type "object") = some true)
    (ea6 : PySem.W.findIn K (.ref c6) "__getattribute__" = some (some (.builtin "BaseException.__getattribute__")))
    (eb6 : PySem.W.findIn K (.ref c6) "__getattr__" = some none)
    (bE6 : PySem.W.subIn K (.ref c6) (.type "BaseException") = some true)
    (tE6 : PySem.W.typeIn K (.ref c6) = some (.type "type"))
    (hE6 : PySem.W.hasDictIn K c6 = true)
    (ed6 : PySem.W.findIn K (.ref c6) "__class__" = some (some (.builtin "object.__class__")))
    (eh6 : PySem.W.mroIn K c6 (.type "object") = some true)
    (ee : PySem.W.specialIn K (.builtin "object.__class__") "__get__" = some (some (.builtin "getset_descriptor.__get__")))
    (ef : PySem.W.takesIn K (.builtin "object.__class__") = some true)
    (sk0_2 : PySem.W.subIn K (.ref c0) (.ref c2) = some false)
    (nk0_2 : ¬ c0 = c2)
    (sk1_2 : PySem.W.subIn K (.ref c1) (.ref c2) = some false)
    (nk1_2 : ¬ c1 = c2)
    (sk2_2 : PySem.W.subIn K (.ref c2) (.ref c2) = some true)
    (sk3_2 : PySem.W.subIn K (.ref c3) (.ref c2) = some false)
    (nk3_2 : ¬ c3 = c2)
    (sk4_2 : PySem.W.subIn K (.ref c4) (.ref c2) = some false)
    (nk4_2 : ¬ c4 = c2)
    (sk5_2 : PySem.W.subIn K (.ref c5) (.ref c2) = some false)
    (nk5_2 : ¬ c5 = c2)
    (sk6_2 : PySem.W.subIn K (.ref c6) (.ref c2) = some false)
    (nk6_2 : ¬ c6 = c2)
    (sk0_4 : PySem.W.subIn K (.ref c0) (.ref c4) = some false)
    (nk0_4 : ¬ c0 = c4)
    (sk1_4 : PySem.W.subIn K (.ref c1) (.ref c4) = some false)
    (nk1_4 : ¬ c1 = c4)
    (sk2_4 : PySem.W.subIn K (.ref c2) (.ref c4) = some false)
    (nk2_4 : ¬ c2 = c4)
    (sk3_4 : PySem.W.subIn K (.ref c3) (.ref c4) = some false)
    (nk3_4 : ¬ c3 = c4)
    (sk4_4 : PySem.W.subIn K (.ref c4) (.ref c4) = some true)
    (sk5_4 : PySem.W.subIn K (.ref c5) (.ref c4) = some false)
    (nk5_4 : ¬ c5 = c4)
    (sk6_4 : PySem.W.subIn K (.ref c6) (.ref c4) = some false)
    (nk6_4 : ¬ c6 = c4)
    (sk0_5 : PySem.W.subIn K (.ref c0) (.ref c5) = some false)
    (nk0_5 : ¬ c0 = c5)
    (sk1_5 : PySem.W.subIn K (.ref c1) (.ref c5) = some false)
    (nk1_5 : ¬ c1 = c5)
    (sk2_5 : PySem.W.subIn K (.ref c2) (.ref c5) = some false)
    (nk2_5 : ¬ c2 = c5)
    (sk3_5 : PySem.W.subIn K (.ref c3) (.ref c5) = some false)
    (nk3_5 : ¬ c3 = c5)
    (sk4_5 : PySem.W.subIn K (.ref c4) (.ref c5) = some false)
    (nk4_5 : ¬ c4 = c5)
    (sk5_5 : PySem.W.subIn K (.ref c5) (.ref c5) = some true)
    (sk6_5 : PySem.W.subIn K (.ref c6) (.ref c5) = some false)
    (nk6_5 : ¬ c6 = c5)
    (sk0_6 : PySem.W.subIn K (.ref c0) (.ref c6) = some false)
    (nk0_6 : ¬ c0 = c6)
    (sk1_6 : PySem.W.subIn K (.ref c1) (.ref c6) = some false)
    (nk1_6 : ¬ c1 = c6)
    (sk2_6 : PySem.W.subIn K (.ref c2) (.ref c6) = some false)
    (nk2_6 : ¬ c2 = c6)
    (sk3_6 : PySem.W.subIn K (.ref c3) (.ref c6) = some false)
    (nk3_6 : ¬ c3 = c6)
    (sk4_6 : PySem.W.subIn K (.ref c4) (.ref c6) = some false)
    (nk4_6 : ¬ c4 = c6)
    (sk5_6 : PySem.W.subIn K (.ref c5) (.ref c6) = some false)
    (nk5_6 : ¬ c5 = c6)
    (sk6_6 : PySem.W.subIn K (.ref c6) (.ref c6) = some true)
    (sk0_3 : PySem.W.subIn K (.ref c0) (.ref c3) = some false)
    (nk0_3 : ¬ c0 = c3)
    (sk1_3 : PySem.W.subIn K (.ref c1) (.ref c3) = some false)
    (nk1_3 : ¬ c1 = c3)
    (sk2_3 : PySem.W.subIn K (.ref c2) (.ref c3) = some false)
    (nk2_3 : ¬ c2 = c3)
    (sk3_3 : PySem.W.subIn K (.ref c3) (.ref c3) = some true)
    (sk4_3 : PySem.W.subIn K (.ref c4) (.ref c3) = some false)
    (nk4_3 : ¬ c4 = c3)
    (sk5_3 : PySem.W.subIn K (.ref c5) (.ref c3) = some false)
    (nk5_3 : ¬ c5 = c3)
    (sk6_3 : PySem.W.subIn K (.ref c6) (.ref c3) = some false)
    (nk6_3 : ¬ c6 = c3)
    (sk0_1 : PySem.W.subIn K (.ref c0) (.ref c1) = some false)
    (nk0_1 : ¬ c0 = c1)
    (sk1_1 : PySem.W.subIn K (.ref c1) (.ref c1) = some true)
    (sk2_1 : PySem.W.subIn K (.ref c2) (.ref c1) = some false)
    (nk2_1 : ¬ c2 = c1)
    (sk3_1 : PySem.W.subIn K (.ref c3) (.ref c1) = some false)
    (nk3_1 : ¬ c3 = c1)
    (sk4_1 : PySem.W.subIn K (.ref c4) (.ref c1) = some false)
    (nk4_1 : ¬ c4 = c1)
    (sk5_1 : PySem.W.subIn K (.ref c5) (.ref c1) = some false)
    (nk5_1 : ¬ c5 = c1)
    (sk6_1 : PySem.W.subIn K (.ref c6) (.ref c1) = some false)
    (nk6_1 : ¬ c6 = c1)
    (kv0 : PySem.W.subIn K (.ref c0) (.type "ValueError") = some true)
    (kv1 : PySem.W.subIn K (.ref c1) (.type "ValueError") = some true)
    (kv2 : PySem.W.subIn K (.ref c2) (.type "ValueError") = some true)
    (kv3 : PySem.W.subIn K (.ref c3) (.type "ValueError") = some true)
    (kv4 : PySem.W.subIn K (.ref c4) (.type "ValueError") = some true)
    (kv5 : PySem.W.subIn K (.ref c5) (.type "ValueError") = some true)
    (kv6 : PySem.W.subIn K (.ref c6) (.type "ValueError") = some true)
    (z_ValueError : PySem.W.nsIn K mainGlobals "ValueError" = some none)
    (z_int : PySem.W.nsIn K mainGlobals "int" = some none)
    (z_isinstance : PySem.W.nsIn K mainGlobals "isinstance" = some none)
    (z_len : PySem.W.nsIn K mainGlobals "len" = some none)
    (z_list : PySem.W.nsIn K mainGlobals "list" = some none)
    (z_min : PySem.W.nsIn K mainGlobals "min" = some none)
    (z_range : PySem.W.nsIn K mainGlobals "range" = some none)
    (z_set : PySem.W.nsIn K mainGlobals "set" = some none)
    (z_sorted : PySem.W.nsIn K mainGlobals "sorted" = some none)
    (z_str : PySem.W.nsIn K mainGlobals "str" = some none)
    (z_tuple : PySem.W.nsIn K mainGlobals "tuple" = some none)
    (v_SEEN : PySem.W.nsIn K mainGlobals "SEEN" = some (some (.str ("seen" : Str) t_SEEN)))
    : ∃ fd : FuncData, (∀ (s : Shared) (v : Value), BindsTo s fd ⟨[v], []⟩ [("_law_script", v)]) ∧ ∀ base : Heap, K.In base → base.Ns mainGlobals mg → FnOk l.prog w K mg base CX0 7 fa fd ["_law_script"] (sp_top K) := by
  have e := hfa.symm.trans (PySem.W.mg_of X H a26)
  cases e
  have F0 := fun_mk (st := s_Folders___init__) l0 cc0 k0
  have b0 := F0.binds (ps := ["self"]) fun _ _ _ _ _ _ us hl => match us, hl with | [_], _ => rfl
  have F1 := fun_mk (st := s_Folders_need) l1 cc1 k1
  have b1 := F1.binds (ps := ["self", "name"]) fun _ _ _ _ _ _ us hl => match us, hl with | [_, _], _ => rfl
  have F2 := fun_mk (st := s_Folders_tally) l2 cc2 k2
  have b2 := F2.binds (ps := ["self", "box", "word", "step"]) fun _ _ _ _ _ _ us hl => match us, hl with | [_, _, _, _], _ => rfl
  have F3 := fun_mk (st := s_Folders_shift) l3 cc3 k3
  have b3 := F3.binds (ps := ["self", "name", "step"]) fun _ _ _ _ _ _ us hl => match us, hl with | [_, _, _], _ => rfl
  have k4 := F4.kp
  have b4 : Binds K fd4 ["self", "name", "folder", "marks"] [] := by
    obtain ⟨ds, hv, hb⟩ := F4.binds1 (ps := ["self", "name", "folder", "marks"]) 4 2 (by simp) rfl (fun _ _ _ _ _ _ _ us its hl hi => match us, its, hl, hi with | [_, _, _, _], [_, _], _, _ => ⟨_, rfl, rfl⟩)
    cases hv; exact hb
  obtain ⟨ds4_2, bd4_2⟩ := F4.binds1 (ps := ["self", "name", "folder", "marks"]) 2 0 (by simp) rfl (fun _ _ _ _ _ _ _ us its hl hi => match us, its, hl, hi with | [_, _], [_, _], _, _ => ⟨_, rfl, rfl⟩)
  obtain ⟨ds4_3, bd4_3⟩ := F4.binds1 (ps := ["self", "name", "folder", "marks"]) 3 1 (by simp) rfl (fun _ _ _ _ _ _ _ us its hl hi => match us, its, hl, hi with | [_, _, _], [_, _], _, _ => ⟨_, rfl, rfl⟩)
  have F5 := fun_mk (st := s_Folders_take_out) l5 cc5 k5
  have b5 := F5.binds (ps := ["self", "name"]) fun _ _ _ _ _ _ us hl => match us, hl with | [_, _], _ => rfl
  have F6 := fun_mk (st := s_Folders_place) l6 cc6 k6
  have b6 := F6.binds (ps := ["self", "name", "folder"]) fun _ _ _ _ _ _ us hl => match us, hl with | [_, _, _], _ => rfl
  have F7 := fun_mk (st := s_Folders_mark) l7 cc7 k7
  have b7 := F7.binds (ps := ["self", "name", "word"]) fun _ _ _ _ _ _ us hl => match us, hl with | [_, _, _], _ => rfl
  have F8 := fun_mk (st := s_Folders_unmark) l8 cc8 k8
  have b8 := F8.binds (ps := ["self", "name", "word"]) fun _ _ _ _ _ _ us hl => match us, hl with | [_, _, _], _ => rfl
  have F9 := fun_mk (st := s_Folders_folder) l9 cc9 k9
  have b9 := F9.binds (ps := ["self", "name"]) fun _ _ _ _ _ _ us hl => match us, hl with | [_, _], _ => rfl
  have F10 := fun_mk (st := s_Folders_marks) l10 cc10 k10
  have b10 := F10.binds (ps := ["self", "name"]) fun _ _ _ _ _ _ us hl => match us, hl with | [_, _], _ => rfl
  have F11 := fun_mk (st := s_Folders_counts) l11 cc11 k11
  have b11 := F11.binds (ps := ["self", "folder"]) fun _ _ _ _ _ _ us hl => match us, hl with | [_, _], _ => rfl
  have F12 := fun_mk (st := s_Folders_marked) l12 cc12 k12
  have b12 := F12.binds (ps := ["self", "folder", "word"]) fun _ _ _ _ _ _ us hl => match us, hl with | [_, _, _], _ => rfl
  have F13 := fun_mk (st := s_Folders_names) l13 cc13 k13
  have b13 := F13.binds (ps := ["self", "folder"]) fun _ _ _ _ _ _ us hl => match us, hl with | [_, _], _ => rfl
  have F14 := fun_mk (st := s_Folders_folders) l14 cc14 k14
  have b14 := F14.binds (ps := ["self"]) fun _ _ _ _ _ _ us hl => match us, hl with | [_], _ => rfl
  have F15 := fun_mk (st := s_law_row) l15 cc15 k15
  have b15 := F15.binds (ps := ["_law_script", "_law_many"]) fun _ _ _ _ _ _ us hl => match us, hl with | [_, _], _ => rfl
  have F16 := fun_mk (st := s_law_word) l16 cc16 k16
  have b16 := F16.binds (ps := ["_law_base", "_law_turn"]) fun _ _ _ _ _ _ us hl => match us, hl with | [_, _], _ => rfl
  have F17 := fun_mk (st := s_law_done) l17 cc17 k17
  have b17 := F17.binds (ps := ["_law_own", "_law_deed_here"]) fun _ _ _ _ _ _ us hl => match us, hl with | [_, _], _ => rfl
  have F18 := fun_mk (st := s_law_does) l18 cc18 k18
  have b18 := F18.binds (ps := ["_law_folders", "_law_deed_here", "_law_defaults"]) fun _ _ _ _ _ _ us hl => match us, hl with | [_, _, _], _ => rfl
  have F19 := fun_mk (st := s_law_some) l19 cc19 k19
  have b19 := F19.binds (ps := ["_law_base"]) fun _ _ _ _ _ _ us hl => match us, hl with | [_], _ => rfl
  have F20 := fun_mk (st := s_law_of_one_class) l20 cc20 k20
  have b20 := F20.binds (ps := ["_law_e"]) fun _ _ _ _ _ _ us hl => match us, hl with | [_], _ => rfl
  have F21 := fun_mk (st := s_law_asked) l21 cc21 k21
  have b21 := F21.binds (ps := ["_law_folders", "_law_way", "_law_name", "_law_some_here", "_law_number"]) fun _ _ _ _ _ _ us hl => match us, hl with | [_, _, _, _, _], _ => rfl
  have F22 := fun_mk (st := s_law_refused) l22 cc22 k22
  have b22 := F22.binds (ps := ["_law_folders", "_law_way", "_law_name", "_law_some_here", "_law_number"]) fun _ _ _ _ _ _ us hl => match us, hl with | [_, _, _, _, _], _ => rfl
  have F23 := fun_mk (st := s_law_odd_refused) l23 cc23 k23
  have b23 := F23.binds (ps := ["_law_folders", "_law_some_here", "_law_number"]) fun _ _ _ _ _ _ us hl => match us, hl with | [_, _, _], _ => rfl
  have F24 := fun_mk (st := s_law_goes) l24 cc24 k24
  have b24 := F24.binds (ps := ["_law_folders", "_law_way", "_law_name", "_law_some_here", "_law_number"]) fun _ _ _ _ _ _ us hl => match us, hl with | [_, _, _, _, _], _ => rfl
  have F25 := fun_mk (st := s_law_seen) l25 cc25 k25
  have b25 := F25.binds (ps := ["_law_folders", "_law_own", "_law_some_here"]) fun _ _ _ _ _ _ us hl => match us, hl with | [_, _, _], _ => rfl
  have F26 := fun_mk (st := s_law) l26 cc26 k26
  have b26 := F26.binds (ps := ["_law_script"]) fun _ _ _ _ _ _ us hl => match us, hl with | [_], _ => rfl
  let G : Gx := ⟨K, fun a => none, fun i => ([c0, c1, c2, c3, c4, c5, c6, c7] : List Addr).getD i 0⟩
  have hfz7 : G.fz (G.cl 7) = none := by show (none) = none; rfl
  let T : Txt G mg := {
    a_Folders___init__ := f0,
    fd_Folders___init__ := _,
    F_Folders___init__ := F0,
    b_Folders___init__ := b0,
    kp_Folders___init__ := k0,
    k_Folders := ⟨mk7, a0_7, i0, kc7⟩,
    a_Folders_need := f1,
    fd_Folders_need := _,
    F_Folders_need := F1,
    b_Folders_need := b1,
    kp_Folders_need := k1,
    m_Folders_need := ⟨a1_7, i1, k1⟩,
    a_Folders_tally := f2,
    fd_Folders_tally := _,
    F_Folders_tally := F2,
    b_Folders_tally := b2,
    kp_Folders_tally := k2,
    m_Folders_tally := ⟨a2_7, i2, k2⟩,
    a_Folders_shift := f3,
    fd_Folders_shift := _,
    F_Folders_shift := F3,
    b_Folders_shift := b3,
    kp_Folders_shift := k3,
    m_Folders_shift := ⟨a3_7, i3, k3⟩,
    a_Folders_add := f4,
    fd_Folders_add := _,
    F_Folders_add := F4,
    b_Folders_add := b4,
    kp_Folders_add := k4,
    ds_Folders_add_2 := ds4_2,
    bd_Folders_add_2 := bd4_2,
    ds_Folders_add_3 := ds4_3,
    bd_Folders_add_3 := bd4_3,
    m_Folders_add := ⟨a4_7, i4, k4⟩,
    a_Folders_take_out := f5,
    fd_Folders_take_out := _,
    F_Folders_take_out := F5,
    b_Folders_take_out := b5,
    kp_Folders_take_out := k5,
    m_Folders_take_out := ⟨a5_7, i5, k5⟩,
    a_Folders_place := f6,
    fd_Folders_place := _,
    F_Folders_place := F6,
    b_Folders_place := b6,
    kp_Folders_place := k6,
    m_Folders_place := ⟨a6_7, i6, k6⟩,
    a_Folders_mark := f7,
    fd_Folders_mark := _,
    F_Folders_mark := F7,
    b_Folders_mark := b7,
    kp_Folders_mark := k7,
    m_Folders_mark := ⟨a7_7, i7, k7⟩,
    a_Folders_unmark := f8,
    fd_Folders_unmark := _,
    F_Folders_unmark := F8,
    b_Folders_unmark := b8,
    kp_Folders_unmark := k8,
    m_Folders_unmark := ⟨a8_7, i8, k8⟩,
    a_Folders_folder := f9,
    fd_Folders_folder := _,
    F_Folders_folder := F9,
    b_Folders_folder := b9,
    kp_Folders_folder := k9,
    m_Folders_folder := ⟨a9_7, i9, k9⟩,
    a_Folders_marks := f10,
    fd_Folders_marks := _,
    F_Folders_marks := F10,
    b_Folders_marks := b10,
    kp_Folders_marks := k10,
    m_Folders_marks := ⟨a10_7, i10, k10⟩,
    a_Folders_counts := f11,
    fd_Folders_counts := _,
    F_Folders_counts := F11,
    b_Folders_counts := b11,
    kp_Folders_counts := k11,
    m_Folders_counts := ⟨a11_7, i11, k11⟩,
    a_Folders_marked := f12,
    fd_Folders_marked := _,
    F_Folders_marked := F12,
    b_Folders_marked := b12,
    kp_Folders_marked := k12,
    m_Folders_marked := ⟨a12_7, i12, k12⟩,
    a_Folders_names := f13,
    fd_Folders_names := _,
    F_Folders_names := F13,
    b_Folders_names := b13,
    kp_Folders_names := k13,
    m_Folders_names := ⟨a13_7, i13, k13⟩,
    a_Folders_folders := f14,
    fd_Folders_folders := _,
    F_Folders_folders := F14,
    b_Folders_folders := b14,
    kp_Folders_folders := k14,
    m_Folders_folders := ⟨a14_7, i14, k14⟩,
    a_law_row := f15,
    fd_law_row := _,
    F_law_row := F15,
    b_law_row := b15,
    kp_law_row := k15,
    g_law_row := PySem.W.mg_of X H a15,
    a_law_word := f16,
    fd_law_word := _,
    F_law_word := F16,
    b_law_word := b16,
    kp_law_word := k16,
    g_law_word := PySem.W.mg_of X H a16,
    a_law_done := f17,
    fd_law_done := _,
    F_law_done := F17,
    b_law_done := b17,
    kp_law_done := k17,
    g_law_done := PySem.W.mg_of X H a17,
    a_law_does := f18,
    fd_law_does := _,
    F_law_does := F18,
    b_law_does := b18,
    kp_law_does := k18,
    g_law_does := PySem.W.mg_of X H a18,
    a_law_some := f19,
    fd_law_some := _,
    F_law_some := F19,
    b_law_some := b19,
    kp_law_some := k19,
    g_law_some := PySem.W.mg_of X H a19,
    a_law_of_one_class := f20,
    fd_law_of_one_class := _,
    F_law_of_one_class := F20,
    b_law_of_one_class := b20,
    kp_law_of_one_class := k20,
    g_law_of_one_class := PySem.W.mg_of X H a20,
    a_law_asked := f21,
    fd_law_asked := _,
    F_law_asked := F21,
    b_law_asked := b21,
    kp_law_asked := k21,
    g_law_asked := PySem.W.mg_of X H a21,
    a_law_refused := f22,
    fd_law_refused := _,
    F_law_refused := F22,
    b_law_refused := b22,
    kp_law_refused := k22,
    g_law_refused := PySem.W.mg_of X H a22,
    a_law_odd_refused := f23,
    fd_law_odd_refused := _,
    F_law_odd_refused := F23,
    b_law_odd_refused := b23,
    kp_law_odd_refused := k23,
    g_law_odd_refused := PySem.W.mg_of X H a23,
    a_law_goes := f24,
    fd_law_goes := _,
    F_law_goes := F24,
    b_law_goes := b24,
    kp_law_goes := k24,
    g_law_goes := PySem.W.mg_of X H a24,
    a_law_seen := f25,
    fd_law_seen := _,
    F_law_seen := F25,
    b_law_seen := b25,
    kp_law_seen := k25,
    g_law_seen := PySem.W.mg_of X H a25,
    a_law := fa,
    fd_law := _,
    F_law := F26,
    b_law := b26,
    kp_law := k26,
    g_law := PySem.W.mg_of X H a26,
    g_MailError := PySem.W.mg_of X H ac0,
    ex_MailError := by
          intro i hi
          have hi : i ∈ [0, 1, 2, 3, 4, 5, 6] := by simpa using hi
          simp only [List.mem_cons, List.not_mem_nil, or_false] at hi
          rcases hi with rfl | rfl | rfl | rfl | rfl | rfl | rfl
          · exact PySem.W.exm_ref bE0 hE0 tE0 s0_0
          · exact PySem.W.exm_ref bE0 hE0 tE0 s1_0
          · exact PySem.W.exm_ref bE0 hE0 tE0 s2_0
          · exact PySem.W.exm_ref bE0 hE0 tE0 s3_0
          · exact PySem.W.exm_ref bE0 hE0 tE0 s4_0
          · exact PySem.W.exm_ref bE0 hE0 tE0 s5_0
          · exact PySem.W.exm_ref bE0 hE0 tE0 s6_0,
    g_NoWord := PySem.W.mg_of X H ac1,
    g_NoLetter := PySem.W.mg_of X H ac2,
    g_NoRule := PySem.W.mg_of X H ac3,
    g_NoName := PySem.W.mg_of X H ac4,
    x_NoName := xE4,
    kp_NoName := kE4,
    r_NoName := fun {Y} hY => raises_own (by rw [hY]; exact bE4) (by rw [hY]; exact tE4),
    g_NoParcel := PySem.W.mg_of X H ac5,
    g_NoRow := PySem.W.mg_of X H ac6,
    g_Folders := PySem.W.mg_of X H ac7,
    cl_Folders := ⟨pg7, hd7, po7, sa7⟩,
    n_Folders_boxes := nf7_0,
    n_Folders_tags := nf7_1,
    n_Folders_sums := nf7_2,
    n_Folders_tallies := nf7_3,
    fz_Folders := hfz7,
    ec_ := by
      intro i hi
      have hi : i ∈ [0, 1, 2, 3, 4, 5, 6] := by simpa using hi
      simp only [List.mem_cons, List.not_mem_nil, or_false] at hi
      rcases hi with rfl | rfl | rfl | rfl | rfl | rfl | rfl
      · exact ⟨ea0, eb0, bE0, hE0, ed0, ee, ef, eh0⟩
      · exact ⟨ea1, eb1, bE1, hE1, ed1, ee, ef, eh1⟩
      · exact ⟨ea2, eb2, bE2, hE2, ed2, ee, ef, eh2⟩
      · exact ⟨ea3, eb3, bE3, hE3, ed3, ee, ef, eh3⟩
      · exact ⟨ea4, eb4, bE4, hE4, ed4, ee, ef, eh4⟩
      · exact ⟨ea5, eb5, bE5, hE5, ed5, ee, ef, eh5⟩
      · exact ⟨ea6, eb6, bE6, hE6, ed6, ee, ef, eh6⟩,
    ki_NoLetter := by
      intro i hi
      have hi : i ∈ [0, 1, 2, 3, 4, 5, 6] := by simpa using hi
      simp only [List.mem_cons, List.not_mem_nil, or_false] at hi
      rcases hi with rfl | rfl | rfl | rfl | rfl | rfl | rfl
      · exact PySem.W.kit_own hE2 tE2 sk0_2 (.inr nk0_2)
      · exact PySem.W.kit_own hE2 tE2 sk1_2 (.inr nk1_2)
      · exact PySem.W.kit_own hE2 tE2 sk2_2 (.inl rfl)
      · exact PySem.W.kit_own hE2 tE2 sk3_2 (.inr nk3_2)
      · exact PySem.W.kit_own hE2 tE2 sk4_2 (.inr nk4_2)
      · exact PySem.W.kit_own hE2 tE2 sk5_2 (.inr nk5_2)
      · exact PySem.W.kit_own hE2 tE2 sk6_2 (.inr nk6_2),
    ki_NoName := by
      intro i hi
      have hi : i ∈ [0, 1, 2, 3, 4, 5, 6] := by simpa using hi
      simp only [List.mem_cons, List.not_mem_nil, or_false] at hi
      rcases hi with rfl | rfl | rfl | rfl | rfl | rfl | rfl
      · exact PySem.W.kit_own hE4 tE4 sk0_4 (.inr nk0_4)
      · exact PySem.W.kit_own hE4 tE4 sk1_4 (.inr nk1_4)
      · exact PySem.W.kit_own hE4 tE4 sk2_4 (.inr nk2_4)
      · exact PySem.W.kit_own hE4 tE4 sk3_4 (.inr nk3_4)
      · exact PySem.W.kit_own hE4 tE4 sk4_4 (.inl rfl)
      · exact PySem.W.kit_own hE4 tE4 sk5_4 (.inr nk5_4)
      · exact PySem.W.kit_own hE4 tE4 sk6_4 (.inr nk6_4),
    ki_NoParcel := by
      intro i hi
      have hi : i ∈ [0, 1, 2, 3, 4, 5, 6] := by simpa using hi
      simp only [List.mem_cons, List.not_mem_nil, or_false] at hi
      rcases hi with rfl | rfl | rfl | rfl | rfl | rfl | rfl
      · exact PySem.W.kit_own hE5 tE5 sk0_5 (.inr nk0_5)
      · exact PySem.W.kit_own hE5 tE5 sk1_5 (.inr nk1_5)
      · exact PySem.W.kit_own hE5 tE5 sk2_5 (.inr nk2_5)
      · exact PySem.W.kit_own hE5 tE5 sk3_5 (.inr nk3_5)
      · exact PySem.W.kit_own hE5 tE5 sk4_5 (.inr nk4_5)
      · exact PySem.W.kit_own hE5 tE5 sk5_5 (.inl rfl)
      · exact PySem.W.kit_own hE5 tE5 sk6_5 (.inr nk6_5),
    ki_NoRow := by
      intro i hi
      have hi : i ∈ [0, 1, 2, 3, 4, 5, 6] := by simpa using hi
      simp only [List.mem_cons, List.not_mem_nil, or_false] at hi
      rcases hi with rfl | rfl | rfl | rfl | rfl | rfl | rfl
      · exact PySem.W.kit_own hE6 tE6 sk0_6 (.inr nk0_6)
      · exact PySem.W.kit_own hE6 tE6 sk1_6 (.inr nk1_6)
      · exact PySem.W.kit_own hE6 tE6 sk2_6 (.inr nk2_6)
      · exact PySem.W.kit_own hE6 tE6 sk3_6 (.inr nk3_6)
      · exact PySem.W.kit_own hE6 tE6 sk4_6 (.inr nk4_6)
      · exact PySem.W.kit_own hE6 tE6 sk5_6 (.inr nk5_6)
      · exact PySem.W.kit_own hE6 tE6 sk6_6 (.inl rfl),
    ki_NoRule := by
      intro i hi
      have hi : i ∈ [0, 1, 2, 3, 4, 5, 6] := by simpa using hi
      simp only [List.mem_cons, List.not_mem_nil, or_false] at hi
      rcases hi with rfl | rfl | rfl | rfl | rfl | rfl | rfl
      · exact PySem.W.kit_own hE3 tE3 sk0_3 (.inr nk0_3)
      · exact PySem.W.kit_own hE3 tE3 sk1_3 (.inr nk1_3)
      · exact PySem.W.kit_own hE3 tE3 sk2_3 (.inr nk2_3)
      · exact PySem.W.kit_own hE3 tE3 sk3_3 (.inl rfl)
      · exact PySem.W.kit_own hE3 tE3 sk4_3 (.inr nk4_3)
      · exact PySem.W.kit_own hE3 tE3 sk5_3 (.inr nk5_3)
      · exact PySem.W.kit_own hE3 tE3 sk6_3 (.inr nk6_3),
    ki_NoWord := by
      intro i hi
      have hi : i ∈ [0, 1, 2, 3, 4, 5, 6] := by simpa using hi
      simp only [List.mem_cons, List.not_mem_nil, or_false] at hi
      rcases hi with rfl | rfl | rfl | rfl | rfl | rfl | rfl
      · exact PySem.W.kit_own hE1 tE1 sk0_1 (.inr nk0_1)
      · exact PySem.W.kit_own hE1 tE1 sk1_1 (.inl rfl)
      · exact PySem.W.kit_own hE1 tE1 sk2_1 (.inr nk2_1)
      · exact PySem.W.kit_own hE1 tE1 sk3_1 (.inr nk3_1)
      · exact PySem.W.kit_own hE1 tE1 sk4_1 (.inr nk4_1)
      · exact PySem.W.kit_own hE1 tE1 sk5_1 (.inr nk5_1)
      · exact PySem.W.kit_own hE1 tE1 sk6_1 (.inr nk6_1),
    ki_ValueError := by
      intro i hi
      have hi : i ∈ [0, 1, 2, 3, 4, 5, 6] := by simpa using hi
      simp only [List.mem_cons, List.not_mem_nil, or_false] at hi
      rcases hi with rfl | rfl | rfl | rfl | rfl | rfl | rfl
      · exact PySem.W.kit_val kv0
      · exact PySem.W.kit_val kv1
      · exact PySem.W.kit_val kv2
      · exact PySem.W.kit_val kv3
      · exact PySem.W.kit_val kv4
      · exact PySem.W.kit_val kv5
      · exact PySem.W.kit_val kv6,
    z_ValueError := PySem.W.mg_none_of X H z_ValueError,
    z_int := PySem.W.mg_none_of X H z_int,
    z_isinstance := PySem.W.mg_none_of X H z_isinstance,
    z_len := PySem.W.mg_none_of X H z_len,
    z_list := PySem.W.mg_none_of X H z_list,
    z_min := PySem.W.mg_none_of X H z_min,
    z_range := PySem.W.mg_none_of X H z_range,
    z_set := PySem.W.mg_none_of X H z_set,
    z_sorted := PySem.W.mg_none_of X H z_sorted,
    z_str := PySem.W.mg_none_of X H z_str,
    z_tuple := PySem.W.mg_none_of X H z_tuple,
    t_SEEN := t_SEEN,
    c_SEEN := PySem.W.mg_of X H v_SEEN }
  refine ⟨T.fd_law, fun s v => .of_eq rfl, fun base _ _ => ((ok_law T : FnOk l.prog w K mg base CX0 7 fa T.fd_law ["_law_script"] (sp_law G)).imp fun vs H Q E hh => ?_)⟩
  obtain ⟨a, ns, rfl, hs, ho, hl, hq⟩ := hh
  exact ⟨.ref a, ⟨ns⟩, star [], rfl, im_of_only (G := G) ho hs, Sep.unstar (M := []) (Sep.nil H), R.wp_of (law_ok ⟨ns⟩ hl) fun H' _ => hq H'⟩
theorem says_mk {l : PySem.W.OpenLaw} {w : World} {K : PySem.W.Frag} {h : Heap} {mg : Str → Option Value} {fa : Addr} (X : K.In h) (H : h.Ns mainGlobals mg) (hfa : mg "law" = some (.ref fa)) (c : obsK K = valK)
    : ∃ fd : FuncData, (∀ (s : Shared) (v : Value), BindsTo s fd ⟨[v], []⟩ [("_law_script", v)]) ∧ ∀ base : Heap, K.In base → base.Ns mainGlobals mg → FnOk l.prog w K mg base CX0 7 fa fd ["_law_script"] (sp_top K) := by
  have hb : ((fb0 K).all id && (fb1 K).all id && (fb2 K).all id && (fb3 K).all id && (fb4 K).all id && (fb5 K).all id) = true := congrArg (fun z : ObT => z.1) c
  simp only [Bool.and_eq_true] at hb
  obtain ⟨⟨⟨⟨⟨g0, g1⟩, g2⟩, g3⟩, g4⟩, g5⟩ := hb
  have cD0 : obsD dfns0 K = valD dfns0 := congrArg (fun z : ObT => z.2) c
  have ac0 : PySem.W.nsIn K mainGlobals "MailError" = some (some (.ref 24)) := of_decide_eq_true (fxM g0 0 rfl)
  have ac1 : PySem.W.nsIn K mainGlobals "NoWord" = some (some (.ref 37)) := of_decide_eq_true (fxM g0 1 rfl)
  have ac2 : PySem.W.nsIn K mainGlobals "NoLetter" = some (some (.ref 49)) := of_decide_eq_true (fxM g0 2 rfl)
  have ac3 : PySem.W.nsIn K mainGlobals "NoRule" = some (some (.ref 69)) := of_decide_eq_true (fxM g0 3 rfl)
  have ac4 : PySem.W.nsIn K mainGlobals "NoName" = some (some (.ref 81)) := of_decide_eq_true (fxM g0 4 rfl)
  have ac5 : PySem.W.nsIn K mainGlobals "NoParcel" = some (some (.ref 93)) := of_decide_eq_true (fxM g0 5 rfl)
  have ac6 : PySem.W.nsIn K mainGlobals "NoRow" = some (some (.ref 105)) := of_decide_eq_true (fxM g0 6 rfl)
  have ac7 : PySem.W.nsIn K mainGlobals "Folders" = some (some (.ref 219)) := of_decide_eq_true (fxM g0 7 rfl)
  have a0_7 : PySem.W.findIn K (.ref 219) "__init__" = some (some (.ref 121)) := of_decide_eq_true (fxM g0 8 rfl)
  have i0 : PySem.W.isFn K (.ref 121) = true := of_decide_eq_true (fxM g0 9 rfl)
  have mk7 : PySem.W.makesIn K 219 = true := of_decide_eq_true (fxM g0 10 rfl)
  have kc7 : PySem.W.keepIn K (.ref 219) = true := of_decide_eq_true (fxM g0 11 rfl)
  have a1_7 : PySem.W.findIn K (.ref 219) "need" = some (some (.ref 128)) := of_decide_eq_true (fxM g0 12 rfl)
  have i1 : PySem.W.isFn K (.ref 128) = true := of_decide_eq_true (fxM g0 13 rfl)
  have a2_7 : PySem.W.findIn K (.ref 219) "tally" = some (some (.ref 135)) := of_decide_eq_true (fxM g0 14 rfl)
  have i2 : PySem.W.isFn K (.ref 135) = true := of_decide_eq_true (fxM g0 15 rfl)
  have a3_7 : PySem.W.findIn K (.ref 219) "shift" = some (some (.ref 142)) := of_decide_eq_true (fxM g0 16 rfl)
  have i3 : PySem.W.isFn K (.ref 142) = true := of_decide_eq_true (fxM g0 17 rfl)
  have a4_7 : PySem.W.findIn K (.ref 219) "add" = some (some (.ref 150)) := of_decide_eq_true (fxM g0 18 rfl)
  have i4 : PySem.W.isFn K (.ref 150) = true := of_decide_eq_true (fxM g0 19 rfl)
  have a5_7 : PySem.W.findIn K (.ref 219) "take_out" = some (some (.ref 157)) := of_decide_eq_true (fxM g0 20 rfl)
  have i5 : PySem.W.isFn K (.ref 157) = true := of_decide_eq_true (fxM g0 21 rfl)
  have a6_7 : PySem.W.findIn K (.ref 219) "place" = some (some (.ref 164)) := of_decide_eq_true (fxM g0 22 rfl)
  have i6 : PySem.W.isFn K (.ref 164) = true := of_decide_eq_true (fxM g0 23 rfl)
  have a7_7 : PySem.W.findIn K (.ref 219) "mark" = some (some (.ref 171)) := of_decide_eq_true (fxM g0 24 rfl)
  have i7 : PySem.W.isFn K (.ref 171) = true := of_decide_eq_true (fxM g0 25 rfl)
  have a8_7 : PySem.W.findIn K (.ref 219) "unmark" = some (some (.ref 178)) := of_decide_eq_true (fxM g0 26 rfl)
  have i8 : PySem.W.isFn K (.ref 178) = true := of_decide_eq_true (fxM g0 27 rfl)
  have a9_7 : PySem.W.findIn K (.ref 219) "folder" = some (some (.ref 185)) := of_decide_eq_true (fxM g0 28 rfl)
  have i9 : PySem.W.isFn K (.ref 185) = true := of_decide_eq_true (fxM g0 29 rfl)
  have a10_7 : PySem.W.findIn K (.ref 219) "marks" = some (some (.ref 192)) := of_decide_eq_true (fxM g0 30 rfl)
  have i10 : PySem.W.isFn K (.ref 192) = true := of_decide_eq_true (fxM g0 31 rfl)
  have a11_7 : PySem.W.findIn K (.ref 219) "counts" = some (some (.ref 199)) := of_decide_eq_true (fxM g0 32 rfl)
  have i11 : PySem.W.isFn K (.ref 199) = true := of_decide_eq_true (fxM g0 33 rfl)
  have a12_7 : PySem.W.findIn K (.ref 219) "marked" = some (some (.ref 206)) := of_decide_eq_true (fxM g0 34 rfl)
  have i12 : PySem.W.isFn K (.ref 206) = true := of_decide_eq_true (fxM g0 35 rfl)
  have a13_7 : PySem.W.findIn K (.ref 219) "names" = some (some (.ref 211)) := of_decide_eq_true (fxM g0 36 rfl)
  have i13 : PySem.W.isFn K (.ref 211) = true := of_decide_eq_true (fxM g0 37 rfl)
  have a14_7 : PySem.W.findIn K (.ref 219) "folders" = some (some (.ref 216)) := of_decide_eq_true (fxM g0 38 rfl)
  have i14 : PySem.W.isFn K (.ref 216) = true := of_decide_eq_true (fxM g0 39 rfl)
  have a15 : PySem.W.nsIn K mainGlobals "_law_row" = some (some (.ref 230)) := of_decide_eq_true (fxM g1 0 rfl)
  have a16 : PySem.W.nsIn K mainGlobals "_law_word" = some (some (.ref 235)) := of_decide_eq_true (fxM g1 1 rfl)
  have a17 : PySem.W.nsIn K mainGlobals "_law_done" = some (some (.ref 245)) := of_decide_eq_true (fxM g1 2 rfl)
  have a18 : PySem.W.nsIn K mainGlobals "_law_does" = some (some (.ref 252)) := of_decide_eq_true (fxM g1 3 rfl)
  have a19 : PySem.W.nsIn K mainGlobals "_law_some" = some (some (.ref 264)) := of_decide_eq_true (fxM g1 4 rfl)
  have a20 : PySem.W.nsIn K mainGlobals "_law_of_one_class" = some (some (.ref 271)) := of_decide_eq_true (fxM g1 5 rfl)
  have a21 : PySem.W.nsIn K mainGlobals "_law_asked" = some (some (.ref 278)) := of_decide_eq_true (fxM g1 6 rfl)
  have a22 : PySem.W.nsIn K mainGlobals "_law_refused" = some (some (.ref 285)) := of_decide_eq_true (fxM g1 7 rfl)
  have a23 : PySem.W.nsIn K mainGlobals "_law_odd_refused" = some (some (.ref 290)) := of_decide_eq_true (fxM g1 8 rfl)
  have a24 : PySem.W.nsIn K mainGlobals "_law_goes" = some (some (.ref 297)) := of_decide_eq_true (fxM g1 9 rfl)
  have a25 : PySem.W.nsIn K mainGlobals "_law_seen" = some (some (.ref 302)) := of_decide_eq_true (fxM g1 10 rfl)
  have a26 : PySem.W.nsIn K mainGlobals "law" = some (some (.ref 309)) := of_decide_eq_true (fxM g1 11 rfl)
  have bE0 : PySem.W.subIn K (.ref 24) (.type "BaseException") = some true := of_decide_eq_true (fxM g1 12 rfl)
  have tE0 : PySem.W.typeIn K (.ref 24) = some (.type "type") := of_decide_eq_true (fxM g1 13 rfl)
  have hE0 : PySem.W.hasDictIn K 24 = true := of_decide_eq_true (fxM g1 14 rfl)
  have s0_0 : PySem.W.subIn K (.ref 24) (.ref 24) = some true := of_decide_eq_true (fxM g1 15 rfl)
  have s1_0 : PySem.W.subIn K (.ref 37) (.ref 24) = some true := of_decide_eq_true (fxM g1 16 rfl)
  have s2_0 : PySem.W.subIn K (.ref 49) (.ref 24) = some true := of_decide_eq_true (fxM g1 17 rfl)
  have s3_0 : PySem.W.subIn K (.ref 69) (.ref 24) = some true := of_decide_eq_true (fxM g1 18 rfl)
  have s4_0 : PySem.W.subIn K (.ref 81) (.ref 24) = some true := of_decide_eq_true (fxM g1 19 rfl)
  have s5_0 : PySem.W.subIn K (.ref 93) (.ref 24) = some true := of_decide_eq_true (fxM g1 20 rfl)
  have s6_0 : PySem.W.subIn K (.ref 105) (.ref 24) = some true := of_decide_eq_true (fxM g1 21 rfl)
  have xE4 : PySem.W.excIn K 81 [.type "ValueError", .type "Exception", .type "BaseException", .type "object"] "ValueError.__new__" = true := of_decide_eq_true (fxM g1 22 rfl)
  have kE4 : PySem.W.keepIn K (.ref 81) = true := of_decide_eq_true (fxM g1 23 rfl)
  have bE4 : PySem.W.subIn K (.ref 81) (.type "BaseException") = some true := of_decide_eq_true (fxM g1 24 rfl)
  have tE4 : PySem.W.typeIn K (.ref 81) = some (.type "type") := of_decide_eq_true (fxM g1 25 rfl)
  have pg7 : PySem.W.plainGet K 219 Str.empty = true := of_decide_eq_true (fxM g1 26 rfl)
  have hd7 : PySem.W.hasDictIn K 219 = true := of_decide_eq_true (fxM g1 27 rfl)
  have po7 : PySem.W.plainOver K 219 = true := of_decide_eq_true (fxM g1 28 rfl)
  have sa7 : PySem.W.findIn K (.ref 219) "__setattr__" = some (some (.builtin "object.__setattr__")) := of_decide_eq_true (fxM g1 29 rfl)
  have nf7_0 : PySem.W.findIn K (.ref 219) "boxes" = some none := of_decide_eq_true (fxM g1 30 rfl)
  have nf7_1 : PySem.W.findIn K (.ref 219) "tags" = some none := of_decide_eq_true (fxM g1 31 rfl)
  have nf7_2 : PySem.W.findIn K (.ref 219) "sums" = some none := of_decide_eq_true (fxM g1 32 rfl)
  have nf7_3 : PySem.W.findIn K (.ref 219) "tallies" = some none := of_decide_eq_true (fxM g1 33 rfl)
  have ea0 : PySem.W.findIn K (.ref 24) "__getattribute__" = some (some (.builtin "BaseException.__getattribute__")) := of_decide_eq_true (fxM g1 34 rfl)
  have eb0 : PySem.W.findIn K (.ref 24) "__getattr__" = some none := of_decide_eq_true (fxM g1 35 rfl)
  have ed0 : PySem.W.findIn K (.ref 24) "__class__" = some (some (.builtin "object.__class__")) := of_decide_eq_true (fxM g1 36 rfl)
  have eh0 : PySem.W.mroIn K 24 (.type "object") = some true := of_decide_eq_true (fxM g1 37 rfl)
  have ea1 : PySem.W.findIn K (.ref 37) "__getattribute__" = some (some (.builtin "BaseException.__getattribute__")) := of_decide_eq_true (fxM g1 38 rfl)
  have eb1 : PySem.W.findIn K (.ref 37) "__getattr__" = some none := of_decide_eq_true (fxM g1 39 rfl)
  have bE1 : PySem.W.subIn K (.ref 37) (.type "BaseException") = some true := of_decide_eq_true (fxM g2 0 rfl)
  have tE1 : PySem.W.typeIn K (.ref 37) = some (.type "type") := of_decide_eq_true (fxM g2 1 rfl)
  have hE1 : PySem.W.hasDictIn K 37 = true := of_decide_eq_true (fxM g2 2 rfl)
  have ed1 : PySem.W.findIn K (.ref 37) "__class__" = some (some (.builtin "object.__class__")) := of_decide_eq_true (fxM g2 3 rfl)
  have eh1 : PySem.W.mroIn K 37 (.type "object") = some true := of_decide_eq_true (fxM g2 4 rfl)
  have ea2 : PySem.W.findIn K (.ref 49) "__getattribute__" = some (some (.builtin "BaseException.__getattribute__")) := of_decide_eq_true (fxM g2 5 rfl)
  have eb2 : PySem.W.findIn K (.ref 49) "__getattr__" = some none := of_decide_eq_true (fxM g2 6 rfl)
  have bE2 : PySem.W.subIn K (.ref 49) (.type "BaseException") = some true := of_decide_eq_true (fxM g2 7 rfl)
  have tE2 : PySem.W.typeIn K (.ref 49) = some (.type "type") := of_decide_eq_true (fxM g2 8 rfl)
  have hE2 : PySem.W.hasDictIn K 49 = true := of_decide_eq_true (fxM g2 9 rfl)
  have ed2 : PySem.W.findIn K (.ref 49) "__class__" = some (some (.builtin "object.__class__")) := of_decide_eq_true (fxM g2 10 rfl)
  have eh2 : PySem.W.mroIn K 49 (.type "object") = some true := of_decide_eq_true (fxM g2 11 rfl)
  have ea3 : PySem.W.findIn K (.ref 69) "__getattribute__" = some (some (.builtin "BaseException.__getattribute__")) := of_decide_eq_true (fxM g2 12 rfl)
  have eb3 : PySem.W.findIn K (.ref 69) "__getattr__" = some none := of_decide_eq_true (fxM g2 13 rfl)
  have bE3 : PySem.W.subIn K (.ref 69) (.type "BaseException") = some true := of_decide_eq_true (fxM g2 14 rfl)
  have tE3 : PySem.W.typeIn K (.ref 69) = some (.type "type") := of_decide_eq_true (fxM g2 15 rfl)
  have hE3 : PySem.W.hasDictIn K 69 = true := of_decide_eq_true (fxM g2 16 rfl)
  have ed3 : PySem.W.findIn K (.ref 69) "__class__" = some (some (.builtin "object.__class__")) := of_decide_eq_true (fxM g2 17 rfl)
  have eh3 : PySem.W.mroIn K 69 (.type "object") = some true := of_decide_eq_true (fxM g2 18 rfl)
  have ea4 : PySem.W.findIn K (.ref 81) "__getattribute__" = some (some (.builtin "BaseException.__getattribute__")) := of_decide_eq_true (fxM g2 19 rfl)
  have eb4 : PySem.W.findIn K (.ref 81) "__getattr__" = some none := of_decide_eq_true (fxM g2 20 rfl)
  have hE4 : PySem.W.hasDictIn K 81 = true := of_decide_eq_true (fxM g2 21 rfl)
  have ed4 : PySem.W.findIn K (.ref 81) "__class__" = some (some (.builtin "object.__class__")) := of_decide_eq_true (fxM g2 22 rfl)
  have eh4 : PySem.W.mroIn K 81 (.type "object") = some true := of_decide_eq_true (fxM g2 23 rfl)
  have ea5 : PySem.W.findIn K (.ref 93) "__getattribute__" = some (some (.builtin "BaseException.__getattribute__")) := of_decide_eq_true (fxM g2 24 rfl)
  have eb5 : PySem.W.findIn K (.ref 93) "__getattr__" = some none := of_decide_eq_true (fxM g2 25 rfl)
  have bE5 : PySem.W.subIn K (.ref 93) (.type "BaseException") = some true := of_decide_eq_true (fxM g2 26 rfl)
  have tE5 : PySem.W.typeIn K (.ref 93) = some (.type "type") := of_decide_eq_true (fxM g2 27 rfl)
  have hE5 : PySem.W.hasDictIn K 93 = true := of_decide_eq_true (fxM g2 28 rfl)
  have ed5 : PySem.W.findIn K (.ref 93) "__class__" = some (some (.builtin "object.__class__")) := of_decide_eq_true (fxM g2 29 rfl)
  have eh5 : PySem.W.mroIn K 93 (.type "object") = some true := of_decide_eq_true (fxM g2 30 rfl)
  have ea6 : PySem.W.findIn K (.ref 105) "__getattribute__" = some (some (.builtin "BaseException.__getattribute__")) := of_decide_eq_true (fxM g2 31 rfl)
  have eb6 : PySem.W.findIn K (.ref 105) "__getattr__" = some none := of_decide_eq_true (fxM g2 32 rfl)
  have bE6 : PySem.W.subIn K (.ref 105) (.type "BaseException") = some true := of_decide_eq_true (fxM g2 33 rfl)
  have tE6 : PySem.W.typeIn K (.ref 105) = some (.type "type") := of_decide_eq_true (fxM g2 34 rfl)
  have hE6 : PySem.W.hasDictIn K 105 = true := of_decide_eq_true (fxM g2 35 rfl)
  have ed6 : PySem.W.findIn K (.ref 105) "__class__" = some (some (.builtin "object.__class__")) := of_decide_eq_true (fxM g2 36 rfl)
  have eh6 : PySem.W.mroIn K 105 (.type "object") = some true := of_decide_eq_true (fxM g2 37 rfl)
  have ee : PySem.W.specialIn K (.builtin "object.__class__") "__get__" = some (some (.builtin "getset_descriptor.__get__")) := of_decide_eq_true (fxM g2 38 rfl)
  have ef : PySem.W.takesIn K (.builtin "object.__class__") = some true := of_decide_eq_true (fxM g2 39 rfl)
  have sk0_2 : PySem.W.subIn K (.ref 24) (.ref 49) = some false := of_decide_eq_true (fxM g3 0 rfl)
  have nk0_2 : ¬ 24 = 49 := of_decide_eq_true (fxM g3 1 rfl)
  have sk1_2 : PySem.W.subIn K (.ref 37) (.ref 49) = some false := of_decide_eq_true (fxM g3 2 rfl)
  have nk1_2 : ¬ 37 = 49 := of_decide_eq_true (fxM g3 3 rfl)
  have sk2_2 : PySem.W.subIn K (.ref 49) (.ref 49) = some true := of_decide_eq_true (fxM g3 4 rfl)
  have sk3_2 : PySem.W.subIn K (.ref 69) (.ref 49) = some false := of_decide_eq_true (fxM g3 5 rfl)
  have nk3_2 : ¬ 69 = 49 := of_decide_eq_true (fxM g3 6 rfl)
  have sk4_2 : PySem.W.subIn K (.ref 81) (.ref 49) = some false := of_decide_eq_true (fxM g3 7 rfl)
  have nk4_2 : ¬ 81 = 49 := of_decide_eq_true (fxM g3 8 rfl)
  have sk5_2 : PySem.W.subIn K (.ref 93) (.ref 49) = some false := of_decide_eq_true (fxM g3 9 rfl)
  have nk5_2 : ¬ 93 = 49 := of_decide_eq_true (fxM g3 10 rfl)
  have sk6_2 : PySem.W.subIn K (.ref 105) (.ref 49) = some false := of_decide_eq_true (fxM g3 11 rfl)
  have nk6_2 : ¬ 105 = 49 := of_decide_eq_true (fxM g3 12 rfl)
  have sk0_4 : PySem.W.subIn K (.ref 24) (.ref 81) = some false := of_decide_eq_true (fxM g3 13 rfl)
  have nk0_4 : ¬ 24 = 81 := of_decide_eq_true (fxM g3 14 rfl)
  have sk1_4 : PySem.W.subIn K (.ref 37) (.ref 81) = some false := of_decide_eq_true (fxM g3 15 rfl)
  have nk1_4 : ¬ 37 = 81 := of_decide_eq_true (fxM g3 16 rfl)
  have sk2_4 : PySem.W.subIn K (.ref 49) (.ref 81) = some false := of_decide_eq_true (fxM g3 17 rfl)
  have nk2_4 : ¬ 49 = 81 := of_decide_eq_true (fxM g3 18 rfl)
  have sk3_4 : PySem.W.subIn K (.ref 69) (.ref 81) = some false := of_decide_eq_true (fxM g3 19 rfl)
  have nk3_4 : ¬ 69 = 81 := of_decide_eq_true (fxM g3 20 rfl)
  have sk4_4 : PySem.W.subIn K (.ref 81) (.ref 81) = some true := of_decide_eq_true (fxM g3 21 rfl)
  have sk5_4 : PySem.W.subIn K (.ref 93) (.ref 81) = some false := of_decide_eq_true (fxM g3 22 rfl)
  have nk5_4 : ¬ 93 = 81 := of_decide_eq_true (fxM g3 23 rfl)
  have sk6_4 : PySem.W.subIn K (.ref 105) (.ref 81) = some false := of_decide_eq_true (fxM g3 24 rfl)
  have nk6_4 : ¬ 105 = 81 := of_decide_eq_true (fxM g3 25 rfl)
  have sk0_5 : PySem.W.subIn K (.ref 24) (.ref 93) = some false := of_decide_eq_true (fxM g3 26 rfl)
  have nk0_5 : ¬ 24 = 93 := of_decide_eq_true (fxM g3 27 rfl)
  have sk1_5 : PySem.W.subIn K (.ref 37) (.ref 93) = some false := of_decide_eq_true (fxM g3 28 rfl)
  have nk1_5 : ¬ 37 = 93 := of_decide_eq_true (fxM g3 29 rfl)
  have sk2_5 : PySem.W.subIn K (.ref 49) (.ref 93) = some false := of_decide_eq_true (fxM g3 30 rfl)
  have nk2_5 : ¬ 49 = 93 := of_decide_eq_true (fxM g3 31 rfl)
  have sk3_5 : PySem.W.subIn K (.ref 69) (.ref 93) = some false := of_decide_eq_true (fxM g3 32 rfl)
  have nk3_5 : ¬ 69 = 93 := of_decide_eq_true (fxM g3 33 rfl)
  have sk4_5 : PySem.W.subIn K (.ref 81) (.ref 93) = some false := of_decide_eq_true (fxM g3 34 rfl)
  have nk4_5 : ¬ 81 = 93 := of_decide_eq_true (fxM g3 35 rfl)
  have sk5_5 : PySem.W.subIn K (.ref 93) (.ref 93) = some true := of_decide_eq_true (fxM g3 36 rfl)
  have sk6_5 : PySem.W.subIn K (.ref 105) (.ref 93) = some false := of_decide_eq_true (fxM g3 37 rfl)
  have nk6_5 : ¬ 105 = 93 := of_decide_eq_true (fxM g3 38 rfl)
  have sk0_6 : PySem.W.subIn K (.ref 24) (.ref 105) = some false := of_decide_eq_true (fxM g3 39 rfl)
  have nk0_6 : ¬ 24 = 105 := of_decide_eq_true (fxM g4 0 rfl)
  have sk1_6 : PySem.W.subIn K (.ref 37) (.ref 105) = some false := of_decide_eq_true (fxM g4 1 rfl)
  have nk1_6 : ¬ 37 = 105 := of_decide_eq_true (fxM g4 2 rfl)
  have sk2_6 : PySem.W.subIn K (.ref 49) (.ref 105) = some false := of_decide_eq_true (fxM g4 3 rfl)
  have nk2_6 : ¬ 49 = 105 := of_decide_eq_true (fxM g4 4 rfl)
  have sk3_6 : PySem.W.subIn K (.ref 69) (.ref 105) = some false := of_decide_eq_true (fxM g4 5 rfl)
  have nk3_6 : ¬ 69 = 105 := of_decide_eq_true (fxM g4 6 rfl)
  have sk4_6 : PySem.W.subIn K (.ref 81) (.ref 105) = some false := of_decide_eq_true (fxM g4 7 rfl)
  have nk4_6 : ¬ 81 = 105 := of_decide_eq_true (fxM g4 8 rfl)
  have sk5_6 : PySem.W.subIn K (.ref 93) (.ref 105) = some false := of_decide_eq_true (fxM g4 9 rfl)
  have nk5_6 : ¬ 93 = 105 := of_decide_eq_true (fxM g4 10 rfl)
  have sk6_6 : PySem.W.subIn K (.ref 105) (.ref 105) = some true := of_decide_eq_true (fxM g4 11 rfl)
  have sk0_3 : PySem.W.subIn K (.ref 24) (.ref 69) = some false := of_decide_eq_true (fxM g4 12 rfl)
  have nk0_3 : ¬ 24 = 69 := of_decide_eq_true (fxM g4 13 rfl)
  have sk1_3 : PySem.W.subIn K (.ref 37) (.ref 69) = some false := of_decide_eq_true (fxM g4 14 rfl)
  have nk1_3 : ¬ 37 = 69 := of_decide_eq_true (fxM g4 15 rfl)
  have sk2_3 : PySem.W.subIn K (.ref 49) (.ref 69) = some false := of_decide_eq_true (fxM g4 16 rfl)
  have nk2_3 : ¬ 49 = 69 := of_decide_eq_true (fxM g4 17 rfl)
  have sk3_3 : PySem.W.subIn K (.ref 69) (.ref 69) = some true := of_decide_eq_true (fxM g4 18 rfl)
  have sk4_3 : PySem.W.subIn K (.ref 81) (.ref 69) = some false := of_decide_eq_true (fxM g4 19 rfl)
  have nk4_3 : ¬ 81 = 69 := of_decide_eq_true (fxM g4 20 rfl)
  have sk5_3 : PySem.W.subIn K (.ref 93) (.ref 69) = some false := of_decide_eq_true (fxM g4 21 rfl)
  have nk5_3 : ¬ 93 = 69 := of_decide_eq_true (fxM g4 22 rfl)
  have sk6_3 : PySem.W.subIn K (.ref 105) (.ref 69) = some false := of_decide_eq_true (fxM g4 23 rfl)
  have nk6_3 : ¬ 105 = 69 := of_decide_eq_true (fxM g4 24 rfl)
  have sk0_1 : PySem.W.subIn K (.ref 24) (.ref 37) = some false := of_decide_eq_true (fxM g4 25 rfl)
  have nk0_1 : ¬ 24 = 37 := of_decide_eq_true (fxM g4 26 rfl)
  have sk1_1 : PySem.W.subIn K (.ref 37) (.ref 37) = some true := of_decide_eq_true (fxM g4 27 rfl)
  have sk2_1 : PySem.W.subIn K (.ref 49) (.ref 37) = some false := of_decide_eq_true (fxM g4 28 rfl)
  have nk2_1 : ¬ 49 = 37 := of_decide_eq_true (fxM g4 29 rfl)
  have sk3_1 : PySem.W.subIn K (.ref 69) (.ref 37) = some false := of_decide_eq_true (fxM g4 30 rfl)
  have nk3_1 : ¬ 69 = 37 := of_decide_eq_true (fxM g4 31 rfl)
  have sk4_1 : PySem.W.subIn K (.ref 81) (.ref 37) = some false := of_decide_eq_true (fxM g4 32 rfl)
  have nk4_1 : ¬ 81 = 37 := of_decide_eq_true (fxM g4 33 rfl)
  have sk5_1 : PySem.W.subIn K (.ref 93) (.ref 37) = some false := of_decide_eq_true (fxM g4 34 rfl)
  have nk5_1 : ¬ 93 = 37 := of_decide_eq_true (fxM g4 35 rfl)
  have sk6_1 : PySem.W.subIn K (.ref 105) (.ref 37) = some false := of_decide_eq_true (fxM g4 36 rfl)
  have nk6_1 : ¬ 105 = 37 := of_decide_eq_true (fxM g4 37 rfl)
  have kv0 : PySem.W.subIn K (.ref 24) (.type "ValueError") = some true := of_decide_eq_true (fxM g4 38 rfl)
  have kv1 : PySem.W.subIn K (.ref 37) (.type "ValueError") = some true := of_decide_eq_true (fxM g4 39 rfl)
  have kv2 : PySem.W.subIn K (.ref 49) (.type "ValueError") = some true := of_decide_eq_true (fxM g5 0 rfl)
  have kv3 : PySem.W.subIn K (.ref 69) (.type "ValueError") = some true := of_decide_eq_true (fxM g5 1 rfl)
  have kv4 : PySem.W.subIn K (.ref 81) (.type "ValueError") = some true := of_decide_eq_true (fxM g5 2 rfl)
  have kv5 : PySem.W.subIn K (.ref 93) (.type "ValueError") = some true := of_decide_eq_true (fxM g5 3 rfl)
  have kv6 : PySem.W.subIn K (.ref 105) (.type "ValueError") = some true := of_decide_eq_true (fxM g5 4 rfl)
  have z_ValueError : PySem.W.nsIn K mainGlobals "ValueError" = some none := of_decide_eq_true (fxM g5 5 rfl)
  have z_int : PySem.W.nsIn K mainGlobals "int" = some none := of_decide_eq_true (fxM g5 6 rfl)
  have z_isinstance : PySem.W.nsIn K mainGlobals "isinstance" = some none := of_decide_eq_true (fxM g5 7 rfl)
  have z_len : PySem.W.nsIn K mainGlobals "len" = some none := of_decide_eq_true (fxM g5 8 rfl)
  have z_list : PySem.W.nsIn K mainGlobals "list" = some none := of_decide_eq_true (fxM g5 9 rfl)
  have z_min : PySem.W.nsIn K mainGlobals "min" = some none := of_decide_eq_true (fxM g5 10 rfl)
  have z_range : PySem.W.nsIn K mainGlobals "range" = some none := of_decide_eq_true (fxM g5 11 rfl)
  have z_set : PySem.W.nsIn K mainGlobals "set" = some none := of_decide_eq_true (fxM g5 12 rfl)
  have z_sorted : PySem.W.nsIn K mainGlobals "sorted" = some none := of_decide_eq_true (fxM g5 13 rfl)
  have z_str : PySem.W.nsIn K mainGlobals "str" = some none := of_decide_eq_true (fxM g5 14 rfl)
  have z_tuple : PySem.W.nsIn K mainGlobals "tuple" = some none := of_decide_eq_true (fxM g5 15 rfl)
  obtain ⟨tv_SEEN, v_SEEN⟩ := conS_ok (fxM g5 16 rfl)
  obtain ⟨fd0, F0⟩ : ∃ fd, FunD K "__init__" "Folders.__init__" (defArgs s_Folders___init__) (defBody s_Folders___init__) (defScope s_Folders___init__) [] [] 121 fd := defM cD0 0 (d := dfn0) rfl
  obtain ⟨⟨oc0, od0, kV0, dc0, pm0, an0, cd0, ct0, sl0, rfl, l0, cc0⟩, k0⟩ := He5.fun_of F0
  obtain ⟨fd1, F1⟩ : ∃ fd, FunD K "need" "Folders.need" (defArgs s_Folders_need) (defBody s_Folders_need) (defScope s_Folders_need) [] [] 128 fd := defM cD0 1 (d := dfn1) rfl
  obtain ⟨⟨oc1, od1, kV1, dc1, pm1, an1, cd1, ct1, sl1, rfl, l1, cc1⟩, k1⟩ := He5.fun_of F1
  obtain ⟨fd2, F2⟩ : ∃ fd, FunD K "tally" "Folders.tally" (defArgs s_Folders_tally) (defBody s_Folders_tally) (defScope s_Folders_tally) [] [] 135 fd := defM cD0 2 (d := dfn2) rfl
  obtain ⟨⟨oc2, od2, kV2, dc2, pm2, an2, cd2, ct2, sl2, rfl, l2, cc2⟩, k2⟩ := He5.fun_of F2
  obtain ⟨fd3, F3⟩ : ∃ fd, FunD K "shift" "Folders.shift" (defArgs s_Folders_shift) (defBody s_Folders_shift) (defScope s_Folders_shift) [] [] 142 fd := defM cD0 3 (d := dfn3) rfl
  obtain ⟨⟨oc3, od3, kV3, dc3, pm3, an3, cd3, ct3, sl3, rfl, l3, cc3⟩, k3⟩ := He5.fun_of F3
  obtain ⟨fd4, F4⟩ : ∃ fd, FunD K "add" "Folders.add" (defArgs s_Folders_add) (defBody s_Folders_add) (defScope s_Folders_add) [.str ("inbox" : Str), .non] [] 150 fd := defM cD0 4 (d := dfn4) rfl
  obtain ⟨fd5, F5⟩ : ∃ fd, FunD K "take_out" "Folders.take_out" (defArgs s_Folders_take_out) (defBody s_Folders_take_out) (defScope s_Folders_take_out) [] [] 157 fd := defM cD0 5 (d := dfn5) rfl
  obtain ⟨⟨oc5, od5, kV5, dc5, pm5, an5, cd5, ct5, sl5, rfl, l5, cc5⟩, k5⟩ := He5.fun_of F5
  obtain ⟨fd6, F6⟩ : ∃ fd, FunD K "place" "Folders.place" (defArgs s_Folders_place) (defBody s_Folders_place) (defScope s_Folders_place) [] [] 164 fd := defM cD0 6 (d := dfn6) rfl
  obtain ⟨⟨oc6, od6, kV6, dc6, pm6, an6, cd6, ct6, sl6, rfl, l6, cc6⟩, k6⟩ := He5.fun_of F6
  obtain ⟨fd7, F7⟩ : ∃ fd, FunD K "mark" "Folders.mark" (defArgs s_Folders_mark) (defBody s_Folders_mark) (defScope s_Folders_mark) [] [] 171 fd := defM cD0 7 (d := dfn7) rfl
  obtain ⟨⟨oc7, od7, kV7, dc7, pm7, an7, cd7, ct7, sl7, rfl, l7, cc7⟩, k7⟩ := He5.fun_of F7
  obtain ⟨fd8, F8⟩ : ∃ fd, FunD K "unmark" "Folders.unmark" (defArgs s_Folders_unmark) (defBody s_Folders_unmark) (defScope s_Folders_unmark) [] [] 178 fd := defM cD0 8 (d := dfn8) rfl
  obtain ⟨⟨oc8, od8, kV8, dc8, pm8, an8, cd8, ct8, sl8, rfl, l8, cc8⟩, k8⟩ := He5.fun_of F8
  obtain ⟨fd9, F9⟩ : ∃ fd, FunD K "folder" "Folders.folder" (defArgs s_Folders_folder) (defBody s_Folders_folder) (defScope s_Folders_folder) [] [] 185 fd := defM cD0 9 (d := dfn9) rfl
  obtain ⟨⟨oc9, od9, kV9, dc9, pm9, an9, cd9, ct9, sl9, rfl, l9, cc9⟩, k9⟩ := He5.fun_of F9
  obtain ⟨fd10, F10⟩ : ∃ fd, FunD K "marks" "Folders.marks" (defArgs s_Folders_marks) (defBody s_Folders_marks) (defScope s_Folders_marks) [] [] 192 fd := defM cD0 10 (d := dfn10) rfl
  obtain ⟨⟨oc10, od10, kV10, dc10, pm10, an10, cd10, ct10, sl10, rfl, l10, cc10⟩, k10⟩ := He5.fun_of F10
  obtain ⟨fd11, F11⟩ : ∃ fd, FunD K "counts" "Folders.counts" (defArgs s_Folders_counts) (defBody s_Folders_counts) (defScope s_Folders_counts) [] [] 199 fd := defM cD0 11 (d := dfn11) rfl
  obtain ⟨⟨oc11, od11, kV11, dc11, pm11, an11, cd11, ct11, sl11, rfl, l11, cc11⟩, k11⟩ := He5.fun_of F11
  obtain ⟨fd12, F12⟩ : ∃ fd, FunD K "marked" "Folders.marked" (defArgs s_Folders_marked) (defBody s_Folders_marked) (defScope s_Folders_marked) [] [] 206 fd := defM cD0 12 (d := dfn12) rfl
  obtain ⟨⟨oc12, od12, kV12, dc12, pm12, an12, cd12, ct12, sl12, rfl, l12, cc12⟩, k12⟩ := He5.fun_of F12
  obtain ⟨fd13, F13⟩ : ∃ fd, FunD K "names" "Folders.names" (defArgs s_Folders_names) (defBody s_Folders_names) (defScope s_Folders_names) [] [] 211 fd := defM cD0 13 (d := dfn13) rfl
  obtain ⟨⟨oc13, od13, kV13, dc13, pm13, an13, cd13, ct13, sl13, rfl, l13, cc13⟩, k13⟩ := He5.fun_of F13
  obtain ⟨fd14, F14⟩ : ∃ fd, FunD K "folders" "Folders.folders" (defArgs s_Folders_folders) (defBody s_Folders_folders) (defScope s_Folders_folders) [] [] 216 fd := defM cD0 14 (d := dfn14) rfl
  obtain ⟨⟨oc14, od14, kV14, dc14, pm14, an14, cd14, ct14, sl14, rfl, l14, cc14⟩, k14⟩ := He5.fun_of F14
  obtain ⟨fd15, F15⟩ : ∃ fd, FunD K "_law_row" "_law_row" (defArgs s_law_row) (defBody s_law_row) (defScope s_law_row) [] [] 230 fd := defM cD0 15 (d := dfn15) rfl
  obtain ⟨⟨oc15, od15, kV15, dc15, pm15, an15, cd15, ct15, sl15, rfl, l15, cc15⟩, k15⟩ := He5.fun_of F15
  obtain ⟨fd16, F16⟩ : ∃ fd, FunD K "_law_word" "_law_word" (defArgs s_law_word) (defBody s_law_word) (defScope s_law_word) [] [] 235 fd := defM cD0 16 (d := dfn16) rfl
  obtain ⟨⟨oc16, od16, kV16, dc16, pm16, an16, cd16, ct16, sl16, rfl, l16, cc16⟩, k16⟩ := He5.fun_of F16
  obtain ⟨fd17, F17⟩ : ∃ fd, FunD K "_law_done" "_law_done" (defArgs s_law_done) (defBody s_law_done) (defScope s_law_done) [] [] 245 fd := defM cD0 17 (d := dfn17) rfl
  obtain ⟨⟨oc17, od17, kV17, dc17, pm17, an17, cd17, ct17, sl17, rfl, l17, cc17⟩, k17⟩ := He5.fun_of F17
  obtain ⟨fd18, F18⟩ : ∃ fd, FunD K "_law_does" "_law_does" (defArgs s_law_does) (defBody s_law_does) (defScope s_law_does) [] [] 252 fd := defM cD0 18 (d := dfn18) rfl
  obtain ⟨⟨oc18, od18, kV18, dc18, pm18, an18, cd18, ct18, sl18, rfl, l18, cc18⟩, k18⟩ := He5.fun_of F18
  obtain ⟨fd19, F19⟩ : ∃ fd, FunD K "_law_some" "_law_some" (defArgs s_law_some) (defBody s_law_some) (defScope s_law_some) [] [] 264 fd := defM cD0 19 (d := dfn19) rfl
  obtain ⟨⟨oc19, od19, kV19, dc19, pm19, an19, cd19, ct19, sl19, rfl, l19, cc19⟩, k19⟩ := He5.fun_of F19
  obtain ⟨fd20, F20⟩ : ∃ fd, FunD K "_law_of_one_class" "_law_of_one_class" (defArgs s_law_of_one_class) (defBody s_law_of_one_class) (defScope s_law_of_one_class) [] [] 271 fd := defM cD0 20 (d := dfn20) rfl
  obtain ⟨⟨oc20, od20, kV20, dc20, pm20, an20, cd20, ct20, sl20, rfl, l20, cc20⟩, k20⟩ := He5.fun_of F20
  obtain ⟨fd21, F21⟩ : ∃ fd, FunD K "_law_asked" "_law_asked" (defArgs s_law_asked) (defBody s_law_asked) (defScope s_law_asked) [] [] 278 fd := defM cD0 21 (d := dfn21) rfl
  obtain ⟨⟨oc21, od21, kV21, dc21, pm21, an21, cd21, ct21, sl21, rfl, l21, cc21⟩, k21⟩ := He5.fun_of F21
  obtain ⟨fd22, F22⟩ : ∃ fd, FunD K "_law_refused" "_law_refused" (defArgs s_law_refused) (defBody s_law_refused) (defScope s_law_refused) [] [] 285 fd := defM cD0 22 (d := dfn22) rfl
  obtain ⟨⟨oc22, od22, kV22, dc22, pm22, an22, cd22, ct22, sl22, rfl, l22, cc22⟩, k22⟩ := He5.fun_of F22
  obtain ⟨fd23, F23⟩ : ∃ fd, FunD K "_law_odd_refused" "_law_odd_refused" (defArgs s_law_odd_refused) (defBody s_law_odd_refused) (defScope s_law_odd_refused) [] [] 290 fd := defM cD0 23 (d := dfn23) rfl
  obtain ⟨⟨oc23, od23, kV23, dc23, pm23, an23, cd23, ct23, sl23, rfl, l23, cc23⟩, k23⟩ := He5.fun_of F23
  obtain ⟨fd24, F24⟩ : ∃ fd, FunD K "_law_goes" "_law_goes" (defArgs s_law_goes) (defBody s_law_goes) (defScope s_law_goes) [] [] 297 fd := defM cD0 24 (d := dfn24) rfl
  obtain ⟨⟨oc24, od24, kV24, dc24, pm24, an24, cd24, ct24, sl24, rfl, l24, cc24⟩, k24⟩ := He5.fun_of F24
  obtain ⟨fd25, F25⟩ : ∃ fd, FunD K "_law_seen" "_law_seen" (defArgs s_law_seen) (defBody s_law_seen) (defScope s_law_seen) [] [] 302 fd := defM cD0 25 (d := dfn25) rfl
  obtain ⟨⟨oc25, od25, kV25, dc25, pm25, an25, cd25, ct25, sl25, rfl, l25, cc25⟩, k25⟩ := He5.fun_of F25
  obtain ⟨fd26, F26⟩ : ∃ fd, FunD K "law" "law" (defArgs s_law) (defBody s_law) (defScope s_law) [] [] 309 fd := defM cD0 26 (d := dfn26) rfl
  obtain ⟨⟨oc26, od26, kV26, dc26, pm26, an26, cd26, ct26, sl26, rfl, l26, cc26⟩, k26⟩ := He5.fun_of F26
  exact all_mk X H hfa ac0 ac1 ac2 ac3 ac4 ac5 ac6 ac7 a0_7 i0 l0 cc0 k0 mk7 kc7 a1_7 i1 l1 cc1 k1 a2_7 i2 l2 cc2 k2 a3_7 i3 l3 cc3 k3 a4_7 i4 F4 a5_7 i5 l5 cc5 k5 a6_7 i6 l6 cc6 k6 a7_7 i7 l7 cc7 k7 a8_7 i8 l8 cc8 k8 a9_7 i9 l9 cc9 k9 a10_7 i10 l10 cc10 k10 a11_7 i11 l11 cc11 k11 a12_7 i12 l12 cc12 k12 a13_7 i13 l13 cc13 k13 a14_7 i14 l14 cc14 k14 a15 l15 cc15 k15 a16 l16 cc16 k16 a17 l17 cc17 k17 a18 l18 cc18 k18 a19 l19 cc19 k19 a20 l20 cc20 k20 a21 l21 cc21 k21 a22 l22 cc22 k22 a23 l23 cc23 k23 a24 l24 cc24 k24 a25 l25 cc25 k25 a26 l26 cc26 k26 bE0 tE0 hE0 s0_0 s1_0 s2_0 s3_0 s4_0 s5_0 s6_0 xE4 kE4 bE4 tE4 pg7 hd7 po7 sa7 nf7_0 nf7_1 nf7_2 nf7_3 ea0 eb0 ed0 eh0 ea1 eb1 bE1 tE1 hE1 ed1 eh1 ea2 eb2 bE2 tE2 hE2 ed2 eh2 ea3 eb3 bE3 tE3 hE3 ed3 eh3 ea4 eb4 hE4 ed4 eh4 ea5 eb5 bE5 tE5 hE5 ed5 eh5 ea6 eb6 bE6 tE6 hE6 ed6 eh6 ee ef sk0_2 nk0_2 sk1_2 nk1_2 sk2_2 sk3_2 nk3_2 sk4_2 nk4_2 sk5_2 nk5_2 sk6_2 nk6_2 sk0_4 nk0_4 sk1_4 nk1_4 sk2_4 nk2_4 sk3_4 nk3_4 sk4_4 sk5_4 nk5_4 sk6_4 nk6_4 sk0_5 nk0_5 sk1_5 nk1_5 sk2_5 nk2_5 sk3_5 nk3_5 sk4_5 nk4_5 sk5_5 sk6_5 nk6_5 sk0_6 nk0_6 sk1_6 nk1_6 sk2_6 nk2_6 sk3_6 nk3_6 sk4_6 nk4_6 sk5_6 nk5_6 sk6_6 sk0_3 nk0_3 sk1_3 nk1_3 sk2_3 nk2_3 sk3_3 sk4_3 nk4_3 sk5_3 nk5_3 sk6_3 nk6_3 sk0_1 nk0_1 sk1_1 sk2_1 nk2_1 sk3_1 nk3_1 sk4_1 nk4_1 sk5_1 nk5_1 sk6_1 nk6_1 kv0 kv1 kv2 kv3 kv4 kv5 kv6 z_ValueError z_int z_isinstance z_len z_list z_min z_range z_set z_sorted z_str z_tuple v_SEEN
end Lw
open PySem PySem.W PyProof.Rows
set_option maxRecDepth 100000 in
set_option maxHeartbeats 0 in
theorem PySem.Challenge.cw_mailroom_k32_folders_refused_holds : PySem.Challenge.rw_mailroom_k32_folders_refused.Holds := by
  w_on; o_law
  refine HandSHeadRun.head_any (r := OpenLaw.row PySem.Challenge.rw_mailroom_k32_folders_refused) (q := view (OpenLaw.row PySem.Challenge.rw_mailroom_k32_folders_refused).prog [25]) (H := Lw.hookM) (ob := Lw.obM) (M := 40000) (loose := Lw.namesM) (d := HandSHeadRun.topDef (OpenLaw.row PySem.Challenge.rw_mailroom_k32_folders_refused).prog 25) (kwd := []) Lw.obM_eq
    (by kernel_rfl) (fun s => by kernel_rfl) Lw.runM (by kernel_rfl) (by kernel_rfl) (by kernel_rfl) (by rfl) (by first | assumption | decide +kernel) (by decide +kernel) ⟨rfl, rfl, rfl, rfl, rfl, by decide +kernel⟩ ?hw ?hc
  case hw => w_witness2
  case hc =>
    refine L2.walk_ofE (l := PySem.Challenge.rw_mailroom_k32_folders_refused) (n := 63) (k := 7) (x := "_law_script") (CX := L2.CX0) rfl (by decide) (by kernel_rfl) ⟨rfl, by decide, by decide⟩ ?F (fun _ _ _ _ z => z)
    intro w mg fa h Y G hmg0
    obtain ⟨K, KX, c⟩ := Y
    have hmg : mg ("law" : PySem.Str) = some (.ref fa) := by
      have e : (HandSHeadRun.topDef (OpenLaw.row PySem.Challenge.rw_mailroom_k32_folders_refused).prog 25).name = ("law" : PySem.Str) := by kernel_rfl
      rw [← e]
      exact hmg0
    obtain ⟨fd, hb, hF⟩ := Lw.says_mk (l := PySem.Challenge.rw_mailroom_k32_folders_refused) (w := w) KX G hmg c
    exact ⟨K, fd, Lw.sp_top K, KX, hb, fun H a ns hl hO hS => ⟨a, ns, rfl, hS, hO, hl, fun _ => rfl⟩, hF⟩
