import PyProof.Rows.All
import Wide.All
import OpenK.AllK
import Wide.FinOn
import HandS.ForMost
import HandS.ForExc
import HandS.SetKeys
import HandS.IsInst
import HandS.Flow
import HandS.Style
import HandS.CallSlots
import HandS.TryMany
import HandS.StrMore
import HandS.Strs
import HandS.TupLe
import HandS.TupAny
import HandS.More
import HandS.Conv
import HandS.Replace
import HandS.FStr
import HandS.ExcIs
import HandS.RaiseMore
import HandS.Defaults
import HandS.DictTup
import HandS.TupSets
import HandS.SortOrd
import HandS.SortKw
import HandS.Lambda
import PyProof.Rows.StrCase
import HandS.TryOnly
import KE.DataFind
import HandS.HotCalls
import HandS.Small
import HandS.WordsDict
import KE.KEqDict
import PyProof.NeKinds
import PyProof.FactsAll.dict_1
import PyProof.FactsAll.dict_2
import PyProof.FactsAll.str
import PyProof.FactsAll.int
import PyProof.FactsAll.subtypes
import HandS.SetTxt0
import HandS.SetFor
import KE.SortData
import KE.DataCmp
import HandS.Iter
import KE.DataMinMax
import HandS.ExcInit
import HandS.ClsMeth
import HandS.ExcField
import KE.KExcIs
import HandS.ExcInitHot
import HandS.SuiteRaise
import KE.GoesEnumKw
import HandS.Head0
import HandS.Head1
import HandS.Head2
import HandS.HeadEnd
import HandS.HeadHook1
import HandS.HeadHook2
import HandS.HeadNt
import PySem.Challenge.RW_mailroom_k33_whole_by_any_road
set_option Elab.async false
set_option linter.all false
set_option maxRecDepth 100000
set_option maxHeartbeats 4000000
namespace Ml
open PySem L2
structure Gx where
  K : PySem.W.Frag
  fz : Addr → Option Nat
  cl : Nat → Addr
/-- what never changes once it stands -/
def per (G : Gx) : HO → Bool
  | .tup _ => true
  | .frz _ (.lst _) => true
  | .ins C _ fs => decide (G.fz C = some fs.length)
  | _ => false
/-- what sort of thing it is -/
def kindOf : HO → Nat
  | .lst _ => 0
  | .frz _ (.lst _) => 0
  | .dK _ => 1
  | .frz _ (.dK _) => 1
  | .dT _ => 6
  | .frz _ (.dT _) => 6
  | .tup _ => 2
  | .set _ _ => 3
  | .ins _ _ _ => 4
  | _ => 5
/-- all that never changes stands on, and nothing becomes another sort of thing -/
def Stab (G : Gx) (H H' : Hp) : Prop := (∀ a o, H a = some o → per G o = true → H' a = some o) ∧ ∀ a o, H a = some o → ∃ o', H' a = some o' ∧ kindOf o' = kindOf o
theorem Stab.refl {G : Gx} (H : Hp) : Stab G H H := ⟨fun _ _ h _ => h, fun _ o h => ⟨o, h, rfl⟩⟩
theorem Stab.trans {G : Gx} {H H1 H2 : Hp} (a : Stab G H H1) (b : Stab G H1 H2) : Stab G H H2 := ⟨fun x o h p => b.1 x o (a.1 x o h p) p, fun x o h => by
  obtain ⟨o1, h1, k1⟩ := a.2 x o h
  obtain ⟨o2, h2, k2⟩ := b.2 x o1 h1
  exact ⟨o2, h2, k2.trans k1⟩⟩
theorem Stab.of_same {G : Gx} {H H' : Hp} (s : Same H H') : Stab G H H' := ⟨fun a o h _ => s a o h, fun a o h => ⟨o, s a o h, rfl⟩⟩
theorem stab_put {G : Gx} {H : Hp} {a : Addr} {o o' : HO} (e : H a = some o) (n : per G o = false) (kd : kindOf o' = kindOf o) : Stab G H (upd H a o') := ⟨fun b x hb pb => by
  by_cases z : b = a
  · subst z; rw [e] at hb; cases hb; rw [n] at pb; cases pb
  · rw [upd_ne z]; exact hb, fun b x hb => by
  by_cases z : b = a
  · subst z; rw [e] at hb; cases hb; exact ⟨o', upd_same, kd⟩
  · exact ⟨x, by rw [upd_ne z]; exact hb, rfl⟩⟩
structure Asn (G : Gx) where
  sat : Hp → List Addr → Prop
  loc : ∀ H H' fp, sat H fp → (∀ a, a ∈ fp → H' a = H a) → Stab G H H' → sat H' fp
variable {G : Gx}
def satL (H : Hp) : List (Asn G) → List Addr → Prop
  | [], fp => fp = []
  | A :: L, fp => ∃ f1 f2, fp = f1 ++ f2 ∧ A.sat H f1 ∧ satL H L f2
theorem satL.loc {H H' : Hp} : ∀ {L : List (Asn G)} {fp : List Addr}, satL H L fp → (∀ a, a ∈ fp → H' a = H a) → Stab G H H' → satL H' L fp
  | [], fp, h, _, _ => h
  | A :: L, fp, ⟨f1, f2, e, h1, h2⟩, k, s => ⟨f1, f2, e, A.loc H H' f1 h1 (fun a m => k a (by rw [e]; exact List.mem_append_left _ m)) s,
      satL.loc h2 (fun a m => k a (by rw [e]; exact List.mem_append_right _ m)) s⟩
theorem satL.perm {H : Hp} {L L' : List (Asn G)} (p : L.Perm L') : ∀ {fp : List Addr}, satL H L fp → ∃ fp', fp'.Perm fp ∧ satL H L' fp' := by
  induction p with
  | nil => intro fp h; exact ⟨fp, .refl _, h⟩
  | cons x _ ih =>
    rintro fp ⟨f1, f2, e, h1, h2⟩
    obtain ⟨g, pg, hg⟩ := ih h2
    exact ⟨f1 ++ g, by rw [e]; exact List.Perm.append_left f1 pg, f1, g, rfl, h1, hg⟩
  | swap x y l =>
    rintro fp ⟨f1, f2, e, h1, g1, g2, e2, k1, k2⟩
    refine ⟨g1 ++ (f1 ++ g2), ?_, g1, f1 ++ g2, rfl, k1, f1, g2, rfl, h1, k2⟩
    rw [e, e2, ← List.append_assoc, ← List.append_assoc]
    exact List.Perm.append_right g2 List.perm_append_comm
  | trans _ _ ih1 ih2 =>
    intro fp h
    obtain ⟨g, pg, hg⟩ := ih1 h
    obtain ⟨k, pk, hk⟩ := ih2 hg
    exact ⟨k, pk.trans pg, hk⟩
theorem satL.append {H : Hp} : ∀ {L L' : List (Asn G)} {fp : List Addr}, satL H (L ++ L') fp ↔ ∃ f1 f2, fp = f1 ++ f2 ∧ satL H L f1 ∧ satL H L' f2
  | [], L', fp => ⟨fun h => ⟨[], fp, rfl, rfl, h⟩, fun ⟨f1, f2, e, h1, h2⟩ => by
      have h1' : f1 = [] := h1
      subst h1'; subst e; exact h2⟩
  | A :: L, L', fp => by
    constructor
    · rintro ⟨f1, f2, e, h1, h2⟩
      obtain ⟨g1, g2, e2, k1, k2⟩ := satL.append.mp h2
      exact ⟨f1 ++ g1, g2, by rw [e, e2, List.append_assoc], ⟨f1, g1, rfl, h1, k1⟩, k2⟩
    · rintro ⟨f1, f2, e, ⟨g1, g2, e2, h1, h2⟩, h3⟩
      exact ⟨g1, g2 ++ f2, by rw [e, e2, List.append_assoc], h1, satL.append.mpr ⟨g2, f2, rfl, h2, h3⟩⟩
/-- the assertions hold, each of its own part of the heap -/
def Sep (H : Hp) (L : List (Asn G)) : Prop := ∃ fp, satL H L fp ∧ fp.Nodup ∧ ∀ a, a ∈ fp → ∃ o, H a = some o ∧ per G o = false
theorem Sep.perm {H : Hp} {L L' : List (Asn G)} (h : Sep H L) (p : L.Perm L') : Sep H L' := by
  obtain ⟨fp, h1, h2, h3⟩ := h
  obtain ⟨g, pg, hg⟩ := satL.perm p h1
  exact ⟨g, hg, pg.nodup_iff.mpr h2, fun a m => h3 a (pg.mem_iff.mp m)⟩
theorem Sep.nil (H : Hp) : Sep H ([] : List (Asn G)) := ⟨[], rfl, List.nodup_nil, fun a m => absurd m (by simp)⟩
theorem Sep.left {H : Hp} {L L' : List (Asn G)} (h : Sep H (L ++ L')) : Sep H L := by
  obtain ⟨fp, h1, h2, h3⟩ := h
  obtain ⟨f1, f2, e, k1, k2⟩ := satL.append.mp h1
  subst e
  exact ⟨f1, k1, (List.nodup_append.mp h2).1, fun a m => h3 a (List.mem_append_left _ m)⟩
theorem Sep.tail {H : Hp} {A : Asn G} {L : List (Asn G)} (h : Sep H (A :: L)) : Sep H L := by
  have p : (A :: L).Perm (L ++ [A]) := (List.perm_append_singleton A L).symm
  exact (h.perm p).left
/-- old things stand, new ones may come -/
theorem Sep.more {H H' : Hp} {L : List (Asn G)} (h : Sep H L) (s : Same H H') : Sep H' L := by
  obtain ⟨fp, h1, h2, h3⟩ := h
  exact ⟨fp, h1.loc (fun a m => by obtain ⟨o, e, _⟩ := h3 a m; rw [e]; exact s a o e) (.of_same s), h2, fun a m => by
    obtain ⟨o, e, n⟩ := h3 a m; exact ⟨o, s a o e, n⟩⟩
theorem satL.at {H : Hp} {A : Asn G} : ∀ {L : List (Asn G)} {fp : List Addr} {i : Nat}, satL H L fp → L[i]? = some A → ∃ fp, A.sat H fp
  | [], _, _, _, e => by simp at e
  | B :: L, _, 0, ⟨f1, _, _, k1, _⟩, e => ⟨f1, by
      have : B = A := Option.some.inj e
      subst this; exact k1⟩
  | B :: L, _, i + 1, ⟨_, f2, _, _, k2⟩, e => satL.at (L := L) (i := i) k2 (by simpa using e)
theorem Sep.at {H : Hp} {L : List (Asn G)} (h : Sep H L) {i : Nat} {A : Asn G} (e : L[i]? = some A) : ∃ fp, A.sat H fp := by
  obtain ⟨fp, h1, _, _⟩ := h
  exact satL.at h1 e
/-- the i-th one ahead -/
theorem pull_perm {α : Type} : ∀ {L : List α} {i : Nat} {A : α}, L[i]? = some A → L.Perm (A :: L.eraseIdx i)
  | [], _, _, e => by simp at e
  | B :: L, 0, A, e => by
    have : B = A := Option.some.inj e
    subst this
    exact .refl _
  | B :: L, i + 1, A, e => by
    have ih := pull_perm (L := L) (i := i) (A := A) (by simpa using e)
    exact (List.Perm.cons B ih).trans (List.Perm.swap A B _)
theorem set_perm {α : Type} : ∀ {L : List α} {i : Nat} {A B : α}, L[i]? = some A → (B :: L.eraseIdx i).Perm (L.set i B)
  | [], _, _, _, e => by simp at e
  | C :: L, 0, A, B, e => .refl _
  | C :: L, i + 1, A, B, e => by
    have ih := set_perm (L := L) (i := i) (A := A) (B := B) (by simpa using e)
    exact (List.Perm.swap C B _).trans (List.Perm.cons C ih)
/-- chosen ones, in a chosen order -/
def pick {α : Type} (L : List α) (is : List Nat) : List α := is.filterMap fun i => L[i]?
theorem pick_perm {α : Type} : ∀ (is : List Nat) (L : List α), is.Nodup → ∃ R, L.Perm (pick L is ++ R)
  | [], L, _ => ⟨L, .refl _⟩
  | i :: is, L, nd => by
    obtain ⟨n1, n2⟩ := List.nodup_cons.mp nd
    cases e : L[i]? with
    | none =>
      obtain ⟨R, p⟩ := pick_perm is L n2
      refine ⟨R, ?_⟩
      have : pick L (i :: is) = pick L is := by unfold pick; rw [List.filterMap_cons, e]
      rw [this]; exact p
    | some A =>
      -- the others by their places without i
      have key : ∀ (js : List Nat), i ∉ js → pick L js = pick (L.eraseIdx i) (js.map fun j => if j < i then j else j - 1) := by
        intro js hj
        unfold pick
        rw [List.filterMap_map]
        have gen : ∀ js : List Nat, i ∉ js → js.filterMap (fun i => L[i]?) = js.filterMap ((fun j => (L.eraseIdx i)[j]?) ∘ fun j => if j < i then j else j - 1) := by
          intro js
          induction js with
          | nil => intro _; rfl
          | cons j js ih =>
            intro hm
            have hji : j ≠ i := fun z => hm (by rw [z]; exact List.mem_cons_self)
            have ih' := ih fun z => hm (List.mem_cons_of_mem _ z)
            have ej : L[j]? = ((fun j => (L.eraseIdx i)[j]?) ∘ fun j => if j < i then j else j - 1) j := by
              show L[j]? = (L.eraseIdx i)[if j < i then j else j - 1]?
              rw [List.getElem?_eraseIdx]
              by_cases c : j < i
              · rw [if_pos c, if_pos c]
              · rw [if_neg c, if_neg (by omega)]
                congr 1; omega
            rw [List.filterMap_cons, List.filterMap_cons, ih', ej]
        exact gen js hj
      have nd2 : (is.map fun j => if j < i then j else j - 1).Nodup := by
        refine List.pairwise_map.mpr (List.Pairwise.imp_of_mem ?_ n2)
        intro a b ha hb hab z
        have ha' : a ≠ i := fun q => n1 (q ▸ ha)
        have hb' : b ≠ i := fun q => n1 (q ▸ hb)
        split at z <;> split at z <;> omega
      obtain ⟨R, p⟩ := pick_perm (is.map fun j => if j < i then j else j - 1) (L.eraseIdx i) nd2
      refine ⟨R, ?_⟩
      have e2 : pick L (i :: is) = A :: pick L is := by unfold pick; rw [List.filterMap_cons, e]
      rw [e2, key is n1]
      exact (pull_perm e).trans (List.Perm.cons A p)
termination_by is => is.length
theorem Sep.sel {H : Hp} {L L' : List (Asn G)} (h : Sep H L) (is : List Nat) (nd : is.Nodup) (e : pick L is = L') : Sep H L' := by
  obtain ⟨R, p⟩ := pick_perm is L nd
  rw [e] at p
  exact (h.perm p).left
/-- at a stands o, owned -/
def cell (a : Addr) (o : HO) : Asn G := ⟨fun H fp => fp = [a] ∧ H a = some o, fun H H' fp h k _ => ⟨h.1, by rw [k a (by rw [h.1]; simp)]; exact h.2⟩⟩
/-- a fact that stays -/
def fact (p : Hp → Prop) (st : ∀ H H', p H → Stab G H H' → p H') : Asn G := ⟨fun H fp => fp = [] ∧ p H, fun H H' fp h _ s => ⟨h.1, st H H' h.2 s⟩⟩
/-- several as one -/
def star (L : List (Asn G)) : Asn G := ⟨fun H fp => satL H L fp, fun H H' fp h k s => h.loc k s⟩
/-- some one of them -/
def exA {α : Type} (f : α → Asn G) : Asn G := ⟨fun H fp => ∃ x, (f x).sat H fp, fun H H' fp ⟨x, h⟩ k s => ⟨x, (f x).loc H H' fp h k s⟩⟩
/-- and a plain truth -/
def andA (p : Prop) (A : Asn G) : Asn G := ⟨fun H fp => p ∧ A.sat H fp, fun H H' fp ⟨x, h⟩ k s => ⟨x, A.loc H H' fp h k s⟩⟩
theorem Sep.star {H : Hp} {L M : List (Asn G)} (h : Sep H (M ++ [Ml.star L])) : Sep H (M ++ L) := by
  obtain ⟨fp, h1, h2, h3⟩ := h
  obtain ⟨f1, f2, e, k1, g1, g2, e2, k2, k3⟩ := satL.append.mp h1
  have k3' : g2 = [] := k3
  subst k3'
  rw [List.append_nil] at e2
  subst e2
  exact ⟨fp, satL.append.mpr ⟨f1, f2, e, k1, k2⟩, h2, h3⟩
theorem Sep.unstar {H : Hp} {L M : List (Asn G)} (h : Sep H (M ++ L)) : Sep H (M ++ [Ml.star L]) := by
  obtain ⟨fp, h1, h2, h3⟩ := h
  obtain ⟨f1, f2, e, k1, k2⟩ := satL.append.mp h1
  exact ⟨fp, satL.append.mpr ⟨f1, f2, e, k1, f2, [], by simp, k2, rfl⟩, h2, h3⟩
theorem Sep.star1 {H : Hp} {L M : List (Asn G)} (h : Sep H (Ml.star L :: M)) : Sep H (L ++ M) := by
  obtain ⟨fp, ⟨f1, f2, e, h1, k⟩, h2, h3⟩ := h
  exact ⟨fp, satL.append.mpr ⟨f1, f2, e, h1, k⟩, h2, h3⟩
theorem Sep.unstar1 {H : Hp} {L M : List (Asn G)} (h : Sep H (L ++ M)) : Sep H (Ml.star L :: M) := by
  obtain ⟨fp, h1, h2, h3⟩ := h
  obtain ⟨f1, f2, e, k1, k2⟩ := satL.append.mp h1
  exact ⟨fp, ⟨f1, f2, e, k1, k2⟩, h2, h3⟩
theorem Sep.ex {α : Type} {f : α → Asn G} {H : Hp} {M : List (Asn G)} (h : Sep H (exA f :: M)) : ∃ x, Sep H (f x :: M) := by
  obtain ⟨fp, ⟨f1, f2, e, ⟨x, h1⟩, k⟩, h2, h3⟩ := h
  exact ⟨x, fp, ⟨f1, f2, e, h1, k⟩, h2, h3⟩
theorem Sep.exI {α : Type} {f : α → Asn G} {H : Hp} {M : List (Asn G)} (x : α) (h : Sep H (f x :: M)) : Sep H (exA f :: M) := by
  obtain ⟨fp, ⟨f1, f2, e, h1, k⟩, h2, h3⟩ := h
  exact ⟨fp, ⟨f1, f2, e, ⟨x, h1⟩, k⟩, h2, h3⟩
theorem Sep.and {p : Prop} {A : Asn G} {H : Hp} {M : List (Asn G)} (h : Sep H (andA p A :: M)) : p ∧ Sep H (A :: M) := by
  obtain ⟨fp, ⟨f1, f2, e, ⟨x, h1⟩, k⟩, h2, h3⟩ := h
  exact ⟨x, fp, ⟨f1, f2, e, h1, k⟩, h2, h3⟩
theorem Sep.andI {p : Prop} {A : Asn G} {H : Hp} {M : List (Asn G)} (x : p) (h : Sep H (A :: M)) : Sep H (andA p A :: M) := by
  obtain ⟨fp, ⟨f1, f2, e, h1, k⟩, h2, h3⟩ := h
  exact ⟨fp, ⟨f1, f2, e, ⟨x, h1⟩, k⟩, h2, h3⟩
/-- another view of the first one, over the same part -/
theorem Sep.view {A B : Asn G} {H : Hp} {M : List (Asn G)} (h : Sep H (A :: M)) (v : ∀ fp, A.sat H fp → B.sat H fp) : Sep H (B :: M) := by
  obtain ⟨fp, ⟨f1, f2, e, h1, k⟩, h2, h3⟩ := h
  exact ⟨fp, ⟨f1, f2, e, v f1 h1, k⟩, h2, h3⟩
theorem Sep.addFact {p : Hp → Prop} {st : ∀ H H', p H → Stab G H H' → p H'} {H : Hp} {M : List (Asn G)} (h : Sep H M) (x : p H) : Sep H (fact p st :: M) := by
  obtain ⟨fp, h1, h2, h3⟩ := h
  exact ⟨fp, ⟨[], fp, rfl, ⟨rfl, x⟩, h1⟩, h2, h3⟩
theorem Sep.getFact {p : Hp → Prop} {st : ∀ H H', p H → Stab G H H' → p H'} {H : Hp} {M : List (Asn G)} (h : Sep H M) {i : Nat} (e : M[i]? = some (fact p st)) : p H := by
  obtain ⟨fp, _, x⟩ := h.at e
  exact x
theorem Sep.getCell {H : Hp} {M : List (Asn G)} (h : Sep H M) {i : Nat} {a : Addr} {o : HO} (e : M[i]? = some (cell a o)) : H a = some o := by
  obtain ⟨fp, _, x⟩ := h.at e
  exact x
theorem same_new {H : Hp} {p : Addr} {o : HO} (h : H p = none) : Same H (upd H p o) := fun b u e => by
  rw [upd_ne (ne_of_none e h)]; exact e
/-- a new thing -/
theorem Sep.new {H : Hp} {M : List (Asn G)} (h : Sep H M) {p : Addr} {o : HO} (hp : H p = none) (n : per G o = false) : Sep (upd H p o) (cell p o :: M) := by
  have h' := h.more (same_new (o := o) hp)
  obtain ⟨fp, h1, h2, h3⟩ := h
  obtain ⟨_, k1, _, _⟩ := (⟨fp, h1, h2, h3⟩ : Sep H M)
  have q : satL (upd H p o) M fp := h1.loc (fun a m => by obtain ⟨u, e, _⟩ := h3 a m; exact upd_ne (ne_of_none e hp)) (.of_same (same_new hp))
  refine ⟨p :: fp, ⟨[p], fp, rfl, ⟨rfl, upd_same⟩, q⟩, List.nodup_cons.mpr ⟨fun m => ?_, h2⟩, fun a m => ?_⟩
  · obtain ⟨u, e, _⟩ := h3 p m
    rw [hp] at e; cases e
  · rcases List.mem_cons.mp m with rfl | m
    · exact ⟨o, upd_same, n⟩
    · obtain ⟨u, e, z⟩ := h3 a m
      exact ⟨u, by rw [upd_ne (ne_of_none e hp)]; exact e, z⟩
/-- a store at the first one's place -/
theorem Sep.put1 {H : Hp} {M : List (Asn G)} {a : Addr} {o o' : HO} (h : Sep H (cell a o :: M)) (n : per G o' = false) (kd : kindOf o' = kindOf o) : Sep (upd H a o') (cell a o' :: M) := by
  obtain ⟨fp, ⟨f1, f2, e, ⟨e1, ho⟩, k⟩, h2, h3⟩ := h
  subst e1; subst e
  have nd : ¬ a ∈ f2 := (List.nodup_cons.mp h2).1
  obtain ⟨u, hu, nu⟩ := h3 a (by simp)
  have st : Stab G H (upd H a o') := stab_put ho (by rw [hu] at ho; cases ho; exact nu) kd
  refine ⟨a :: f2, ⟨[a], f2, rfl, ⟨rfl, upd_same⟩, k.loc (fun b m => upd_ne fun z => nd (z ▸ m)) st⟩, h2, fun b m => ?_⟩
  rcases List.mem_cons.mp m with rfl | m
  · exact ⟨o', upd_same, n⟩
  · obtain ⟨x, hx, nx⟩ := h3 b (by simp [m])
    exact ⟨x, by rw [upd_ne (fun z => nd (by rw [← z]; exact m))]; exact hx, nx⟩
theorem Sep.put {H : Hp} {M : List (Asn G)} {i : Nat} {a : Addr} {o o' : HO} (h : Sep H M) (e : M[i]? = some (cell a o)) (n : per G o' = false) (kd : kindOf o' = kindOf o) : Sep (upd H a o') (M.set i (cell a o')) :=
  ((h.perm (pull_perm e)).put1 n kd).perm (set_perm e)
/-- another view of the i-th one -/
theorem Sep.viewAt {A B : Asn G} {H : Hp} {M : List (Asn G)} {i : Nat} (h : Sep H M) (e : M[i]? = some A) (v : ∀ fp, A.sat H fp → B.sat H fp) : Sep H (M.set i B) :=
  ((h.perm (pull_perm e)).view v).perm (set_perm e)
end Ml
namespace Ml
open PySem L2
structure Exc where
  cls : Nat
  row : Int
  deriving DecidableEq, Repr
inductive R (α : Type) where
  | ok (a : α) | exc (x : Exc) | bad
  deriving DecidableEq, Repr
namespace R
variable {α β σ ρ : Type}
def bind : R α → (α → R β) → R β
  | .ok a, f => f a
  | .exc x, _ => .exc x
  | .bad, _ => .bad
@[simp] theorem bind_ok (a : α) (f : α → R β) : (R.ok a).bind f = f a := rfl
@[simp] theorem bind_exc (x : Exc) (f : α → R β) : (R.exc x : R α).bind f = .exc x := rfl
@[simp] theorem bind_bad (f : α → R β) : (R.bad : R α).bind f = .bad := rfl
def need (p : Prop) [Decidable p] (k : R α) : R α := if p then k else .bad
@[simp] theorem need_pos {p : Prop} [Decidable p] (h : p) (k : R α) : need p k = k := if_pos h
/-- what holds of the answer, or of the error -/
def wp : R α → (α → Prop) → (Exc → Prop) → Prop
  | .ok a, q, _ => q a
  | .exc x, _, e => e x
  | .bad, _, _ => False
theorem wp_bind {m : R α} {f : α → R β} {q : β → Prop} {e : Exc → Prop} (h : wp (m.bind f) q e) : wp m (fun a => wp (f a) q e) e := by
  cases m <;> exact h
theorem wp_need {p : Prop} [Decidable p] {k : R α} {q : α → Prop} {e : Exc → Prop} (h : wp (need p k) q e) : p ∧ wp k q e := by
  unfold need at h
  by_cases c : p
  · rw [if_pos c] at h; exact ⟨c, h⟩
  · rw [if_neg c] at h; exact h.elim
theorem wp_mono {m : R α} {q q' : α → Prop} {e e' : Exc → Prop} (h : wp m q e) (hq : ∀ a, q a → q' a) (he : ∀ x, e x → e' x) : wp m q' e' := by
  cases m with
  | ok a => exact hq a h
  | exc x => exact he x h
  | bad => exact h
theorem wp_of {m : R α} {a : α} {q : α → Prop} {e : Exc → Prop} (h : m = .ok a) (k : q a) : wp m q e := by rw [h]; exact k
theorem wp_if {c : Prop} [Decidable c] {a b : R α} {q : α → Prop} {e : Exc → Prop} (h : wp (if c then a else b) q e) : (c → wp a q e) ∧ (¬ c → wp b q e) := by
  by_cases x : c
  · rw [if_pos x] at h; exact ⟨fun _ => h, fun n => absurd x n⟩
  · rw [if_neg x] at h; exact ⟨fun y => absurd y x, fun _ => h⟩
end R
/-- a turn's end: on with s, out of the loop with s, out of the def with r -/
inductive Fl (σ ρ : Type) where
  | go (s : σ) | brk (s : σ) | out (r : ρ)
  deriving DecidableEq, Repr
section
variable {α β σ ρ : Type}
def forR (f : σ → α → R σ) : List α → σ → R σ
  | [], s => .ok s
  | x :: xs, s => (f s x).bind fun s => forR f xs s
def forF (f : σ → α → R (Fl σ ρ)) : List α → σ → R (Fl σ ρ)
  | [], s => .ok (.go s)
  | x :: xs, s => (f s x).bind fun r => match r with
    | .go s => forF f xs s
    | .brk s => .ok (.go s)
    | .out r => .ok (.out r)
/-- a comprehension: what each item gives, the state carried -/
def compR (f : σ → α → R (σ × Option β)) : List α → σ → R (σ × List β)
  | [], s => .ok (s, [])
  | x :: xs, s => (f s x).bind fun r => (compR f xs r.1).bind fun t => .ok (t.1, match r.2 with
    | some y => y :: t.2
    | none => t.2)
end
class Im (G : Gx) (α : Type) where
  im : Hp → V → α → Prop
  st : ∀ {H H' : Hp} {v : V} {x : α}, im H v x → Stab G H H' → im H' v x
class Fv (G : Gx) (α : Type) extends Im G α where
  enc : α → V
  im_iff : ∀ {H : Hp} {v : V} {x : α}, im H v x ↔ v = enc x
variable {G : Gx}
instance imInt : Im G Int := ⟨fun _ v x => v = .int x, fun h _ => h⟩
instance imBool : Im G Bool := ⟨fun _ v x => v = .bl x, fun h _ => h⟩
instance imStr : Im G Str := ⟨fun _ v x => v = .str x, fun h _ => h⟩
instance imUnit : Im G Unit := ⟨fun _ v _ => v = .non, fun h _ => h⟩
instance fInt : Fv G Int := { enc := .int, im_iff := .rfl }
instance fBool : Fv G Bool := { enc := .bl, im_iff := .rfl }
instance fStr : Fv G Str := { enc := .str, im_iff := .rfl }
instance fUnit : Fv G Unit := { enc := fun _ => .non, im_iff := .rfl }
/-- the script -/
structure Script where
  ns : List Int
instance : Im G Script := ⟨fun H v x => ∃ a, v = .ref a ∧ ((∃ o, H a = some (.frz o (.lst (x.ns.map V.int)))) ∨ ∃ o its n, List.lookup a G.K = some o ∧ o.cls = Value.type "list" ∧ o.dict = none ∧ o.data = Data.seq its n ∧ its.size ≤ sizeLine ∧ Vals (x.ns.map V.int) its.toList),
  fun ⟨a, e, h⟩ s => ⟨a, e, h.imp (fun ⟨o, h⟩ => ⟨o, s.1 a _ h rfl⟩) id⟩⟩
theorem im_script {H : Hp} {v : V} {x : Script} (h : Im.im G H v x) : ∃ a, v = .ref a ∧ SqL G.K H a (x.ns.map V.int) := by
  obtain ⟨a, e, h⟩ := h
  refine ⟨a, e, ?_⟩
  rcases h with ⟨o, h⟩ | h
  · exact .inl (.inr ⟨o, h⟩)
  · exact .inr h
theorem sq_script {H : Hp} {a : Addr} {x : Script} (h : Im.im G H (.ref a) x) : SqL G.K H a (x.ns.map V.int) := by
  obtain ⟨b, e, h⟩ := im_script h
  cases e; exact h
def imL {α : Type} [Im G α] (H : Hp) : List V → List α → Prop
  | [], [] => True
  | v :: vs, x :: xs => Im.im G H v x ∧ imL H vs xs
  | _, _ => False
section
variable {α : Type} [Im G α] {H H' : Hp}
theorem imL.st : ∀ {vs : List V} {xs : List α}, imL (G := G) H vs xs → Stab G H H' → imL (G := G) H' vs xs
  | [], [], _, _ => True.intro
  | v :: vs, x :: xs, h, s => ⟨Im.st h.1 s, imL.st h.2 s⟩
  | [], _ :: _, h, _ => h
  | _ :: _, [], h, _ => h
theorem imL.len : ∀ {vs : List V} {xs : List α}, imL (G := G) H vs xs → vs.length = xs.length
  | [], [], _ => rfl
  | v :: vs, x :: xs, h => by rw [List.length_cons, List.length_cons, imL.len h.2]
  | [], _ :: _, h => h.elim
  | _ :: _, [], h => h.elim
theorem imL.app : ∀ {vs ws : List V} {xs ys : List α}, imL (G := G) H vs xs → imL (G := G) H ws ys → imL (G := G) H (vs ++ ws) (xs ++ ys)
  | [], _, [], _, _, h => h
  | v :: vs, _, x :: xs, _, h, k => ⟨h.1, imL.app h.2 k⟩
  | [], _, _ :: _, _, h, _ => h.elim
  | _ :: _, _, [], _, h, _ => h.elim
theorem imL.get : ∀ {vs : List V} {xs : List α} {i : Nat} {x : α}, imL (G := G) H vs xs → xs[i]? = some x → ∃ v, vs[i]? = some v ∧ Im.im G H v x
  | [], [], _, _, _, e => by simp at e
  | v :: vs, x :: xs, 0, y, h, e => by
    have : x = y := Option.some.inj e
    subst this
    exact ⟨v, rfl, h.1⟩
  | v :: vs, x :: xs, i + 1, y, h, e => by
    obtain ⟨u, h1, h2⟩ := imL.get (i := i) (x := y) h.2 (by simpa using e)
    exact ⟨u, by simpa using h1, h2⟩
  | [], _ :: _, _, _, h, _ => h.elim
  | _ :: _, [], _, _, h, _ => h.elim
theorem imL.set : ∀ {vs : List V} {xs : List α} {i : Nat} {x : α} {v : V}, imL (G := G) H vs xs → Im.im G H v x → imL (G := G) H (vs.set i v) (xs.set i x)
  | [], [], _, _, _, _, _ => True.intro
  | v :: vs, x :: xs, 0, y, u, h, k => ⟨k, h.2⟩
  | v :: vs, x :: xs, i + 1, y, u, h, k => ⟨h.1, imL.set h.2 k⟩
  | [], _ :: _, _, _, _, h, _ => h.elim
  | _ :: _, [], _, _, _, h, _ => h.elim
theorem imL.take : ∀ {vs : List V} {xs : List α} (n : Nat), imL (G := G) H vs xs → imL (G := G) H (vs.take n) (xs.take n)
  | [], [], n, _ => by simp [imL]
  | v :: vs, x :: xs, 0, h => True.intro
  | v :: vs, x :: xs, n + 1, h => ⟨h.1, imL.take n h.2⟩
  | [], _ :: _, _, h => h.elim
  | _ :: _, [], _, h => h.elim
theorem imL.drop : ∀ {vs : List V} {xs : List α} (n : Nat), imL (G := G) H vs xs → imL (G := G) H (vs.drop n) (xs.drop n)
  | [], [], n, _ => by simp [imL]
  | v :: vs, x :: xs, 0, h => h
  | v :: vs, x :: xs, n + 1, h => imL.drop n h.2
  | [], _ :: _, _, h => h.elim
  | _ :: _, [], _, h => h.elim
end
section
variable {α : Type} [Fv G α] {H H' : Hp}
theorem imL.flat : ∀ {vs : List V} {xs : List α}, imL (G := G) H vs xs ↔ vs = xs.map (Fv.enc G)
  | [], [] => ⟨fun _ => rfl, fun _ => True.intro⟩
  | v :: vs, x :: xs => by
    show (Im.im G H v x ∧ imL (G := G) H vs xs) ↔ _
    rw [Fv.im_iff, imL.flat]
    simp
  | [], _ :: _ => by simp [imL]
  | _ :: _, [] => by simp [imL]
end
section
variable {α : Type} [Im G α]
def lstA (a : Addr) (xs : List α) : Asn G := ⟨fun H fp => fp = [a] ∧ ∃ vs, H a = some (.lst vs) ∧ imL (G := G) H vs xs,
  fun H H' fp ⟨e, vs, h, m⟩ k s => ⟨e, vs, by rw [k a (by rw [e]; simp)]; exact h, m.st s⟩⟩
/-- a value's fact -/
def imA (v : V) (x : α) : Asn G := fact (fun H => Im.im G H v x) fun H H' h s => Im.st h s
variable {H : Hp} {L : List (Asn G)}
theorem Sep.lst (h : Sep H L) {i : Nat} {a : Addr} {xs : List α} (e : L[i]? = some (lstA a xs)) : ∃ vs, H a = some (.lst vs) ∧ imL (G := G) H vs xs := by
  obtain ⟨fp, _, x⟩ := h.at e
  exact x
theorem Sep.im (h : Sep H L) {i : Nat} {v : V} {x : α} (e : L[i]? = some (imA v x)) : Im.im G H v x := h.getFact e
theorem Sep.addIm (h : Sep H L) {v : V} {x : α} (e : Im.im G H v x) : Sep H (imA v x :: L) := h.addFact e
/-- the list's own cell, and back -/
theorem Sep.openL (h : Sep H L) {i : Nat} {a : Addr} {xs : List α} (e : L[i]? = some (lstA a xs)) : ∃ vs, imL (G := G) H vs xs ∧ Sep H (L.set i (cell a (.lst vs))) := by
  obtain ⟨vs, e1, m⟩ := h.lst e
  exact ⟨vs, m, h.viewAt e fun fp ⟨q, _⟩ => ⟨q, e1⟩⟩
theorem Sep.closeL {i : Nat} {a : Addr} {vs : List V} {xs : List α} (h : Sep H L) (e : L[i]? = some (cell a (.lst vs))) (m : imL (G := G) H vs xs) : Sep H (L.set i (lstA a xs)) :=
  h.viewAt e fun fp ⟨q, r⟩ => ⟨q, vs, r, m⟩
theorem Sep.newL (h : Sep H L) {p : Addr} {vs : List V} {xs : List α} (hp : H p = none) (m : imL (G := G) H vs xs) : Sep (upd H p (.lst vs)) (lstA p xs :: L) :=
  (h.new (o := .lst vs) hp rfl).view fun fp ⟨q, r⟩ => ⟨q, vs, r, m.st (.of_same (same_new hp))⟩
theorem set_set {β : Type} {l : List β} {i : Nat} {x y : β} : (l.set i x).set i y = l.set i y := by simp
theorem get_set {β : Type} {l : List β} {i : Nat} {x y : β} (h : l[i]? = some x) : (l.set i y)[i]? = some y := by
  have : i < l.length := by
    have := List.getElem?_eq_some_iff.mp h
    exact this.1
  simp [this]
theorem Sep.putL (h : Sep H L) {i : Nat} {a : Addr} {xs ys : List α} {vs : List V} (e : L[i]? = some (lstA a xs)) (m : imL (G := G) H vs ys) : Sep (upd H a (.lst vs)) (L.set i (lstA a ys)) := by
  obtain ⟨us, mu, h1⟩ := h.openL e
  have e1 := get_set (y := cell (G := G) a (.lst us)) e
  have h2 := h1.put (o' := .lst vs) e1 rfl rfl
  rw [set_set] at h2
  have st : Stab G H (upd H a (.lst vs)) := stab_put (h1.getCell e1) rfl rfl
  have h3 := h2.closeL (get_set e) (m.st st)
  rw [set_set] at h3
  exact h3
end
end Ml
namespace Ml
open PySem L2
variable {G : Gx}
def Ev (te : TE) (σ : St) (H : Hp) (v : V) : Prop := ∀ Q : VK, Q v H → te σ H Q
def Et (t : TT) (σ : St) (H : Hp) (b : Bool) : Prop := ∀ Q : Bool → Hp → Prop, Q b H → t σ H Q
def Ea (t : TA) (σ : St) (H : Hp) (vs : List V) : Prop := ∀ Q : List V → Hp → Prop, Q vs H → t σ H Q
def Eo (t : TO) (σ : St) (H : Hp) (o : Option Int) : Prop := ∀ Q : Option Int → Hp → Prop, Q o H → t σ H Q
section
variable {σ : St} {H : Hp} {ta tb tc te : TE} {t u : TT} {x y v : V} {i j : Int} {a b : Bool} {s z : Str} {vs : List V}
theorem ev_var {k : Nat} (h : σ[k]? = some (some v)) : Ev (tVar k) σ H v := fun _ q => ⟨v, h, q⟩
theorem ev_c : Ev (tC v) σ H v := fun _ q => q
theorem ev_op {r : R2} (ha : Ev ta σ H x) (hb : Ev tb σ H y) (hr : ∀ Q : VK, Q v H → r x y H Q) : Ev (tOp r ta tb) σ H v := fun Q q => ha _ (hb _ (hr _ q))
theorem ev_un {r : V → Hp → VK → Prop} (ha : Ev ta σ H x) (hr : ∀ Q : VK, Q v H → r x H Q) : Ev (tUn r ta) σ H v := fun Q q => ha _ (hr _ q)
theorem r_I0 {g : Int → Int → V} (Q : VK) (q : Q (g i j) H) : rI0 g (.int i) (.int j) H Q := ⟨i, j, rfl, rfl, q⟩
theorem r_I {C : Int → Int → Prop} {g : Int → Int → V} (c : C i j) (Q : VK) (q : Q (g i j) H) : rI C g (.int i) (.int j) H Q := ⟨i, j, rfl, rfl, c, q⟩
theorem ev_i0 {g : Int → Int → V} (ha : Ev ta σ H (.int i)) (hb : Ev tb σ H (.int j)) : Ev (tOp (rI0 g) ta tb) σ H (g i j) := ev_op ha hb fun Q q => r_I0 Q q
theorem ev_i {C : Int → Int → Prop} {g : Int → Int → V} (ha : Ev ta σ H (.int i)) (hb : Ev tb σ H (.int j)) (c : C i j) : Ev (tOp (rI C g) ta tb) σ H (g i j) := ev_op ha hb fun Q q => r_I c Q q
theorem ev_mul (ha : Ev ta σ H (.int i)) (hb : Ev tb σ H (.int j)) (c : CMul i j) : Ev (tOp (rI CMul fun i j => .int (i * j)) ta tb) σ H (.int (i * j)) := ev_i ha hb c
theorem ev_fdiv (ha : Ev ta σ H (.int i)) (hb : Ev tb σ H (.int j)) (c : 0 < j ∧ j < 1073741824) : Ev (tOp (rI CDiv fun i j => .int (i / j)) ta tb) σ H (.int (i / j)) := ev_i ha hb c
theorem ev_mod (ha : Ev ta σ H (.int i)) (hb : Ev tb σ H (.int j)) (c : 0 < j) : Ev (tOp (rI (fun _ j => 0 < j) fun i j => .int (i % j)) ta tb) σ H (.int (i % j)) := ev_i ha hb c
theorem ev_add (ha : Ev ta σ H (.int i)) (hb : Ev tb σ H (.int j)) : Ev (tOp (rI0 fun i j => .int (i + j)) ta tb) σ H (.int (i + j)) := ev_i0 ha hb
theorem r_eqI (Q : VK) (q : Q (.bl (decide (i = j))) H) : rEq (.int i) (.int j) H Q := ⟨rfl, by
  have : decide (V.int i = V.int j) = decide (i = j) := by simp
  rw [this]; exact q⟩
theorem r_neI (Q : VK) (q : Q (.bl (!decide (i = j))) H) : rNe (.int i) (.int j) H Q := ⟨rfl, by
  have : decide (V.int i = V.int j) = decide (i = j) := by simp
  rw [this]; exact q⟩
theorem r_eqS (Q : VK) (q : Q (.bl (decide (s = z))) H) : rEq (.str s) (.str z) H Q := ⟨rfl, by
  have : decide (V.str s = V.str z) = decide (s = z) := by simp
  rw [this]; exact q⟩
theorem r_neS (Q : VK) (q : Q (.bl (!decide (s = z))) H) : rNe (.str s) (.str z) H Q := ⟨rfl, by
  have : decide (V.str s = V.str z) = decide (s = z) := by simp
  rw [this]; exact q⟩
theorem ev_eqI (ha : Ev ta σ H (.int i)) (hb : Ev tb σ H (.int j)) : Ev (tOp rEq ta tb) σ H (.bl (decide (i = j))) := ev_op ha hb fun Q q => r_eqI Q q
theorem ev_neI (ha : Ev ta σ H (.int i)) (hb : Ev tb σ H (.int j)) : Ev (tOp rNe ta tb) σ H (.bl (!decide (i = j))) := ev_op ha hb fun Q q => r_neI Q q
theorem ev_eqS (ha : Ev ta σ H (.str s)) (hb : Ev tb σ H (.str z)) : Ev (tOp rEq ta tb) σ H (.bl (decide (s = z))) := ev_op ha hb fun Q q => r_eqS Q q
theorem ev_neS (ha : Ev ta σ H (.str s)) (hb : Ev tb σ H (.str z)) : Ev (tOp rNe ta tb) σ H (.bl (!decide (s = z))) := ev_op ha hb fun Q q => r_neS Q q
def rCatS : R2 := fun x y H Q => ∃ i j, x = .str i ∧ y = .str j ∧ i.length + j.length ≤ sizeLine ∧ Q (.str (i ++ j)) H
theorem op_catS {X : Cx} : OpR X (binaryOp .Add) rCatS := op_add_str
theorem r_catS (c : s.length + z.length ≤ sizeLine) (Q : VK) (q : Q (.str (s ++ z)) H) : rCatS (.str s) (.str z) H Q := ⟨s, z, rfl, rfl, c, q⟩
theorem et_test (h : Ev te σ H (.bl b)) : Et (tTest te) σ H b := fun _ q => h _ ⟨b, rfl, q⟩
theorem et_B (h : Ev te σ H (.bl b)) : Et (tB te) σ H b := fun _ q => h _ ⟨b, rfl, q⟩
theorem et_and (h1 : Et t σ H a) (h2 : a = true → Et u σ H b) : Et (tAnd t u) σ H (a && b) := fun Q q => h1 _ (by
  cases a with
  | true => exact h2 rfl _ q
  | false => exact q)
theorem et_or (h1 : Et t σ H a) (h2 : a = false → Et u σ H b) : Et (tOr t u) σ H (a || b) := fun Q q => h1 _ (by
  cases a with
  | true => exact q
  | false => exact h2 rfl _ q)
theorem ea_nil : Ea tNil σ H [] := fun _ q => q
theorem ea_cons {tr : TA} (h : Ev ta σ H x) (hr : Ea tr σ H vs) : Ea (tCons ta tr) σ H (x :: vs) := fun _ q => h _ (hr _ q)
theorem eo_no : Eo tNoPart σ H none := fun _ q => q
theorem eo_some (h : Ev te σ H (.int i)) : Eo (tPart te) σ H (some i) := fun _ q => h _ ⟨i, rfl, q⟩
theorem ev_cb {r : List V → Hp → VK → Prop} {tr : TA} (h : Ea tr σ H vs) (hr : ∀ Q : VK, Q v H → r vs H Q) : Ev (tCB r tr) σ H v := fun Q q => h _ (hr _ q)
variable {K : PySem.W.Frag} {α : Type}
theorem ev_ixSq {p : Addr} {ws : List V} (ha : Ev ta σ H (.ref p)) (hb : Ev tb σ H (.int i)) (hs : SqL K H p ws) (e : atI ws i = some v) : Ev (tOp (rIxL K) ta tb) σ H v := ev_op ha hb fun _ q => ⟨p, ws, i, v, rfl, rfl, hs, e, q⟩
theorem ev_ixS {c : Nat} (ha : Ev ta σ H (.str z)) (hb : Ev tb σ H (.int i)) (hl : z.length ≤ sizeLine) (e : atI z.cps.toList i = some c) : Ev (tOp rIxS ta tb) σ H (.str ⟨#[c]⟩) := ev_op ha hb fun _ q => ⟨z, i, c, rfl, rfl, hl, e, q⟩
def rLenSq (K : PySem.W.Frag) : List V → Hp → VK → Prop := fun xs H Q => ∃ p ys, xs = [.ref p] ∧ (SqL K H p ys ∨ SqT K H p ys) ∧ Q (.int ys.length) H
theorem call_lenSq {X : Cx} : CallR X (.builtin "len") (rLenSq X.K) := call_len_seq
theorem ev_lenL {p : Addr} {ws : List V} (ha : Ev ta σ H (.ref p)) (hs : SqL K H p ws) : Ev (tCB (rLenSq K) (tCons ta tNil)) σ H (.int ws.length) := ev_cb (ea_cons ha ea_nil) fun _ q => ⟨p, ws, rfl, .inl hs, q⟩
end
section
variable {σ σ' : St} {H : Hp} {te : TE} {t : TT} {D : Ends} {t1 t2 tb : TS} {v : V} {b : Bool}
theorem ev_to (h : Ev te σ H v) {Q : VK} (q : Q v H) : te σ H Q := h Q q
theorem ea_to {t : TA} {vs : List V} (h : Ea t σ H vs) {Q : List V → Hp → Prop} (q : Q vs H) : t σ H Q := h Q q
theorem eo_to {t : TO} {o : Option Int} (h : Eo t σ H o) {Q : Option Int → Hp → Prop} (q : Q o H) : t σ H Q := h Q q
theorem et_to (h : Et t σ H b) {Q : Bool → Hp → Prop} (q : Q b H) : t σ H Q := h Q q
end
section
variable {α β τ ρ : Type} {H : Hp} {σ : St} {D : Ends} {tb : TS} {g : TG} {K : PySem.W.Frag}
/-- a walk J over the items xs: at turn i it yields a v of which the i-th item holds -/
structure Wk (J : It) (I : St → Hp → Prop) (im : Hp → V → α → Prop) (xs : List α) : Prop where
  go : ∀ i σ H, I σ H → i < xs.length → J.go i H
  yl : ∀ i σ H v H' x, I σ H → xs[i]? = some x → J.yld i H v H' → I σ H' ∧ im H' v x
  sp : ∀ σ H, I σ H → J.stop xs.length H
/-- for .. in ..: the state s : τ, I s its place in slots and heap; each turn reckons f -/
theorem for_walk {J : It} {I : τ → St → Hp → Prop} {im : Hp → V → α → Prop} {xs : List α} {f : τ → α → R τ} {k : τ → Prop} {e : Exc → Prop} {s : τ}
    (w : ∀ s, Wk J (I s) im xs) (h0 : I s σ H) (hm : R.wp (forR f xs s) k e)
    (turn : ∀ (s : τ) (x : α) (v : V) (σ : St) (H : Hp) (q : τ → Prop) (N : St → Hp → Prop), I s σ H → im H v x → R.wp (f s x) q e → (∀ s' σ' H', q s' → I s' σ' H' → N σ' H') → g v σ H fun σ2 H2 => tb { D with nx := N, ct := N, bk := D.nx } σ2 H2)
    (done : ∀ s σ H, k s → I s σ H → D.nx σ H) :
    ∃ W : Nat → Nat → St → Hp → Prop, (∃ m, W 0 m σ H) ∧ ∀ i m σ H, W i m σ H →
      (J.stop i H ∧ D.nx σ H) ∨ (J.go i H ∧ ∃ N : St → Hp → Prop, (∀ σ' H', N σ' H' → ∃ m', m' < m ∧ W (i + 1) m' σ' H') ∧ ∀ x H', J.yld i H x H' → g x σ H' fun σ2 H2 => tb { D with nx := N, ct := N, bk := D.nx } σ2 H2) := by
  refine ⟨fun i m σ H => m = xs.length - i ∧ i ≤ xs.length ∧ ∃ s, I s σ H ∧ R.wp (forR f (xs.drop i) s) k e, ⟨xs.length, by simp, Nat.zero_le _, s, h0, by simpa using hm⟩, ?_⟩
  rintro i m σ H ⟨rfl, hi, s, hI, hw⟩
  by_cases c : i < xs.length
  · have ed : xs.drop i = xs[i] :: xs.drop (i + 1) := List.drop_eq_getElem_cons c
    rw [ed] at hw
    refine .inr ⟨(w s).go i σ H hI c, fun σ' H' => ∃ s', I s' σ' H' ∧ R.wp (forR f (xs.drop (i + 1)) s') k e, fun σ' H' ⟨s', h1, h2⟩ => ⟨xs.length - (i + 1), by omega, rfl, c, s', h1, h2⟩, fun v H' y => ?_⟩
    obtain ⟨hI', hv⟩ := (w s).yl i σ H v H' xs[i] hI (List.getElem?_eq_getElem c) y
    exact turn s xs[i] v σ H' _ _ hI' hv (R.wp_bind hw) fun s' σ' H'' q hI'' => ⟨s', hI'', q⟩
  · have ei : i = xs.length := by omega
    subst ei
    rw [List.drop_length] at hw
    exact .inl ⟨(w s).sp σ H hI, done s σ H hw hI⟩
/-- .. whose turns may leave it -/
theorem for_walkF {J : It} {I : τ → St → Hp → Prop} {im : Hp → V → α → Prop} {xs : List α} {f : τ → α → R (Fl τ ρ)} {k : Fl τ ρ → Prop} {e : Exc → Prop} {s : τ}
    (w : ∀ s, Wk J (I s) im xs) (h0 : I s σ H) (hm : R.wp (forF f xs s) k e)
    (turn : ∀ (s : τ) (x : α) (v : V) (σ : St) (H : Hp) (q : Fl τ ρ → Prop) (N B : St → Hp → Prop), I s σ H → im H v x → R.wp (f s x) q e → (∀ s' σ' H', q (.go s') → I s' σ' H' → N σ' H') → (∀ s' σ' H', q (.brk s') → I s' σ' H' → B σ' H') → (∀ r, q (.out r) → k (.out r)) →
      g v σ H fun σ2 H2 => tb { D with nx := N, ct := N, bk := B } σ2 H2)
    (done : ∀ s σ H, k (.go s) → I s σ H → D.nx σ H) :
    ∃ W : Nat → Nat → St → Hp → Prop, (∃ m, W 0 m σ H) ∧ ∀ i m σ H, W i m σ H →
      (J.stop i H ∧ D.nx σ H) ∨ (J.go i H ∧ ∃ N : St → Hp → Prop, (∀ σ' H', N σ' H' → ∃ m', m' < m ∧ W (i + 1) m' σ' H') ∧ ∀ x H', J.yld i H x H' → g x σ H' fun σ2 H2 => tb { D with nx := N, ct := N, bk := D.nx } σ2 H2) := by
  refine ⟨fun i m σ H => m = xs.length - i ∧ i ≤ xs.length ∧ ∃ s, I s σ H ∧ R.wp (forF f (xs.drop i) s) k e, ⟨xs.length, by simp, Nat.zero_le _, s, h0, by simpa using hm⟩, ?_⟩
  rintro i m σ H ⟨rfl, hi, s, hI, hw⟩
  by_cases c : i < xs.length
  · have ed : xs.drop i = xs[i] :: xs.drop (i + 1) := List.drop_eq_getElem_cons c
    rw [ed] at hw
    refine .inr ⟨(w s).go i σ H hI c, fun σ' H' => ∃ s', I s' σ' H' ∧ R.wp (forF f (xs.drop (i + 1)) s') k e, fun σ' H' ⟨s', h1, h2⟩ => ⟨xs.length - (i + 1), by omega, rfl, c, s', h1, h2⟩, fun v H' y => ?_⟩
    obtain ⟨hI', hv⟩ := (w s).yl i σ H v H' xs[i] hI (List.getElem?_eq_getElem c) y
    have hw' := R.wp_bind hw
    exact turn s xs[i] v σ H' _ _ _ hI' hv hw' (fun s' σ' H'' q hI'' => ⟨s', hI'', q⟩) (fun s' σ' H'' q hI'' => done s' σ' H'' q hI'') fun r q => q
  · have ei : i = xs.length := by omega
    subst ei
    rw [List.drop_length] at hw
    exact .inl ⟨(w s).sp σ H hI, done s σ H hw hI⟩
/-- a comprehension -/
theorem lc_walk {J : It} {I : Addr → τ → List β → Hp → Prop} {im : Hp → V → α → Prop} [Im G β] {xs : List α} {f : τ → α → R (τ × Option β)} {k : τ × List β → Prop} {e : Exc → Prop} {s : τ} {tt : TT} {te : TE} {vs : List Nat} {Q : VK} {Dr : Addr}
    (w : ∀ s ys, Wk J (fun _ H => I Dr s ys H) im xs) (h0 : I Dr s [] (upd H Dr (.lst []))) (hm : R.wp (compR f xs s) k e) (hl : xs.length ≤ sizeLine)
    (turn : ∀ (s : τ) (ys : List β) (x : α) (v : V) (H : Hp) (q : τ × Option β → Prop) (Nx : Hp → Prop), I Dr s ys H → im H v x → R.wp (f s x) q e → ys.length < sizeLine →
      (∀ s' y u H', q (s', some y) → Im.im G H' u y → I Dr s' ys H' → ∃ acc, H' Dr = some (.lst acc) ∧ acc.length < sizeLine ∧ Nx (upd H' Dr (.lst (acc ++ [u])))) → (∀ s' H', q (s', none) → I Dr s' ys H' → Nx H') →
      g v (wipe σ vs) H fun σ2 H2 => wipe σ2 vs = wipe σ vs ∧ tt σ2 H2 fun b H3 => if b = true then te σ2 H3 fun y H4 => ∃ acc, H4 Dr = some (.lst acc) ∧ acc.length < sizeLine ∧ Nx (upd H4 Dr (.lst (acc ++ [y]))) else Nx H3)
    (app : ∀ s ys y u H, I Dr s ys H → Im.im G H u y → ∃ acc, H Dr = some (.lst acc) ∧ acc.length = ys.length ∧ I Dr s (ys ++ [y]) (upd H Dr (.lst (acc ++ [u]))))
    (done : ∀ s ys H, k (s, ys) → I Dr s ys H → Q (.ref Dr) H) :
    ∃ W : Nat → Nat → Hp → Prop, (∃ m, W 0 m (upd H Dr (.lst []))) ∧ ∀ i m H, W i m H →
      (J.stop i H ∧ Q (.ref Dr) H) ∨ (J.go i H ∧ ∃ Nx : Hp → Prop, (∀ H', Nx H' → ∃ m', m' < m ∧ W (i + 1) m' H') ∧ ∀ x H', J.yld i H x H' → g x (wipe σ vs) H' fun σ2 H2 => wipe σ2 vs = wipe σ vs ∧ tt σ2 H2 fun b H3 =>
        if b = true then te σ2 H3 fun y H4 => ∃ acc, H4 Dr = some (.lst acc) ∧ acc.length < sizeLine ∧ Nx (upd H4 Dr (.lst (acc ++ [y]))) else Nx H3) := by
  refine ⟨fun i m H => m = xs.length - i ∧ i ≤ xs.length ∧ ∃ s ys, ys.length ≤ i ∧ I Dr s ys H ∧ R.wp (compR f (xs.drop i) s) (fun t => k (t.1, ys ++ t.2)) e, ⟨xs.length, by simp, Nat.zero_le _, s, [], Nat.le_refl _, h0, by simpa using hm⟩, ?_⟩
  rintro i m H ⟨rfl, hi, s, ys, hy, hI, hw⟩
  by_cases c : i < xs.length
  · have ed : xs.drop i = xs[i] :: xs.drop (i + 1) := List.drop_eq_getElem_cons c
    rw [ed] at hw
    refine .inr ⟨(w s ys).go i [] H hI c, fun H' => ∃ s' ys', ys'.length ≤ i + 1 ∧ I Dr s' ys' H' ∧ R.wp (compR f (xs.drop (i + 1)) s') (fun t => k (t.1, ys' ++ t.2)) e,
      fun H' ⟨s', ys', h0, h1, h2⟩ => ⟨xs.length - (i + 1), by omega, rfl, c, s', ys', h0, h1, h2⟩, fun v H' y => ?_⟩
    obtain ⟨hI', hv⟩ := (w s ys).yl i [] H v H' xs[i] hI (List.getElem?_eq_getElem c) y
    have hw' := R.wp_bind hw
    refine turn s ys xs[i] v H' _ _ hI' hv hw' (by omega) (fun s' y u H'' q hu hI'' => ?_) (fun s' H'' q hI'' => ?_)
    · have q' := R.wp_bind q
      obtain ⟨acc, ea, la, hI3⟩ := app s' ys y u H'' hI'' hu
      refine ⟨acc, ea, by omega, s', ys ++ [y], by simp; omega, hI3, ?_⟩
      refine R.wp_mono q' (fun t ht => ?_) fun _ z => z
      have ht' : k (t.1, ys ++ y :: t.2) := ht
      rw [List.append_assoc]; exact ht'
    · have q' := R.wp_bind q
      exact ⟨s', ys, by omega, hI'', R.wp_mono q' (fun t ht => ht) fun _ z => z⟩
  · have ei : i = xs.length := by omega
    subst ei
    rw [List.drop_length] at hw
    have hw : k (s, ys ++ []) := hw
    rw [List.append_nil] at hw
    exact .inl ⟨(w s ys).sp [] H hI, done s ys H hw hI⟩
end
end Ml
namespace Ml
open PySem L2
variable {G : Gx}
def idxR {α : Type} (xs : List α) (i : Int) : R α := match atI xs i with
  | some x => .ok x
  | none => .bad
theorem wp_idx {α ρ : Type} {xs : List α} {i : Int} {f : α → R ρ} {q : ρ → Prop} {e : Exc → Prop} (h : R.wp ((idxR xs i).bind f) q e) : ∃ x, atI xs i = some x ∧ R.wp (f x) q e := by
  unfold idxR at h
  cases c : atI xs i with
  | some x => rw [c] at h; exact ⟨x, rfl, h⟩
  | none => rw [c] at h; exact h.elim
theorem atI_map {α β : Type} {xs : List α} {f : α → β} {i : Int} {x : α} (h : atI xs i = some x) : atI (xs.map f) i = some (f x) := by
  unfold atI at h ⊢
  rw [List.length_map]
  cases e : ixN xs.length i with
  | none => rw [e] at h; cases h
  | some j =>
    rw [e] at h
    show (xs.map f)[j]? = some (f x)
    have h : xs[j]? = some x := h
    rw [List.getElem?_map, h]; rfl
theorem atI_im {α : Type} [Im G α] {H : Hp} {vs : List V} {xs : List α} {i : Int} {x : α} (m : imL (G := G) H vs xs) (h : atI xs i = some x) : ∃ v, atI vs i = some v ∧ Im.im G H v x := by
  unfold atI at h ⊢
  rw [m.len]
  cases e : ixN xs.length i with
  | none => rw [e] at h; cases h
  | some j =>
    rw [e] at h
    exact m.get h
theorem atI_ok {α : Type} {xs : List α} {i : Int} (h0 : 0 ≤ i) (h1 : i < xs.length) : ∃ x, xs[i.toNat]? = some x ∧ atI xs i = some x := by
  have hj : i.toNat < xs.length := by omega
  refine ⟨xs[i.toNat], List.getElem?_eq_getElem hj, ?_⟩
  unfold atI ixN
  rw [if_pos h0, if_pos h1]
  exact List.getElem?_eq_getElem hj
theorem idxR_ok {α : Type} {xs : List α} {i : Int} {x : α} (h0 : 0 ≤ i) (h1 : xs[i.toNat]? = some x) : idxR xs i = .ok x := by
  have hl : i.toNat < xs.length := (List.getElem?_eq_some_iff.mp h1).1
  obtain ⟨y, hy, h⟩ := atI_ok (xs := xs) h0 (by omega)
  rw [h1] at hy; cases hy
  unfold idxR; rw [h]
/-- one sign as a text -/
abbrev sg (c : Nat) : Str := ⟨#[c]⟩
def mulOk (i j : Int) : Prop := (-(2 ^ 64) < i ∧ i < 2 ^ 64) ∨ (-(2 ^ 64) < j ∧ j < 2 ^ 64)
instance (i j : Int) : Decidable (mulOk i j) := by unfold mulOk; infer_instance
def rngL (lo : Int) (n : Nat) : List Int := (List.range n).map fun (i : Nat) => lo + (i : Int)
theorem rngL_len (lo : Int) (n : Nat) : (rngL lo n).length = n := by simp [rngL]
theorem rngL_get {lo : Int} {n i : Nat} {x : Int} (h : (rngL lo n)[i]? = some x) : x = lo + (i : Int) ∧ i < n := by
  have hl : i < (rngL lo n).length := (List.getElem?_eq_some_iff.mp h).1
  rw [rngL_len] at hl
  unfold rngL at h
  rw [List.getElem?_map, List.getElem?_range hl] at h
  exact ⟨(Option.some.inj h).symm, hl⟩
section
variable {α τ : Type} {I : St → Hp → Prop} {K : PySem.W.Frag} {a : Addr}
theorem wk_list [Im G α] {xs : List α} (h : ∀ σ H, I σ H → ∃ vs, SqL K H a vs ∧ imL (G := G) H vs xs) : Wk (Itl K a) I (Im.im G) xs where
  go := fun i σ H hI hi => by
    obtain ⟨vs, s, m⟩ := h σ H hI
    have hl : i < vs.length := by rw [m.len]; exact hi
    exact ⟨vs, vs[i], s, List.getElem?_eq_getElem hl⟩
  yl := fun i σ H v H' x hI hx y => by
    obtain ⟨vs, s, m⟩ := h σ H hI
    obtain ⟨rfl, y⟩ := y
    obtain ⟨u, hu, im⟩ := m.get hx
    have e := y vs s
    rw [hu] at e; cases e
    exact ⟨hI, im⟩
  sp := fun σ H hI => by
    obtain ⟨vs, s, m⟩ := h σ H hI
    exact ⟨vs, s, by rw [m.len]; exact Nat.le_refl _⟩
theorem wk_range {lo : Int} {n : Nat} : Wk (Itr lo n) I (fun _ v (x : Int) => v = .int x) (rngL lo n) where
  go := fun i σ H _ hi => by rw [rngL_len] at hi; exact hi
  yl := fun i σ H v H' x hI hx y => by
    obtain ⟨rfl, y⟩ := y
    obtain ⟨e, _⟩ := rngL_get hx
    exact ⟨hI, by rw [y, e]⟩
  sp := fun σ H _ => by rw [rngL_len]; exact Nat.le_refl _
end
theorem Sep.sq {α : Type} [Im G α] {H : Hp} {L : List (Asn G)} (h : Sep H L) {i : Nat} {a : Addr} {xs : List α} (e : L[i]? = some (lstA a xs)) : ∃ vs, SqL G.K H a vs ∧ imL (G := G) H vs xs := by
  obtain ⟨vs, e, m⟩ := h.lst e
  exact ⟨vs, .inl (.inl e), m⟩
theorem Sep.sqF {α : Type} [Fv G α] {H : Hp} {L : List (Asn G)} (h : Sep H L) {i : Nat} {a : Addr} {xs : List α} (e : L[i]? = some (lstA a xs)) : SqL G.K H a (xs.map (Fv.enc G)) := by
  obtain ⟨vs, e, m⟩ := h.sq e
  rw [imL.flat.mp m] at e
  exact e
section
variable {σ σ' : St} {H : Hp} {L L' : List (Asn G)} {D : Ends} {Q : VK} {te ta tb : TE} {α β : Type}
theorem c_op {r : R2} (h : ta σ H fun x H1 => tb σ H1 fun y H2 => r x y H2 Q) : tOp r ta tb σ H Q := h
theorem c_cons {tr : TA} {P : List V → Hp → Prop} (h : ta σ H fun x H1 => tr σ H1 fun xs H2 => P (x :: xs) H2) : tCons ta tr σ H P := h
theorem c_nil {P : List V → Hp → Prop} (h : P [] H) : tNil σ H P := h
theorem c_call {sp : Sp} {dvs : List V} {E : XK} {t : TA} (h : t σ H fun vs H1 => sp (vs ++ dvs) H1 Q E) : tCall sp dvs E t σ H Q := h
theorem c_cb {r : List V → Hp → VK → Prop} {t : TA} (h : t σ H fun vs H1 => r vs H1 Q) : tCB r t σ H Q := h
theorem c_asg {i : Nat} (h : te σ H fun v H1 => D.nx (σ.set i (some v)) H1) : tAsg te (gName i) D σ H := h
theorem c_ret (h : te σ H D.rt) : tRet te D σ H := h
theorem c_drop (h : te σ H fun _ H1 => D.nx σ H1) : tDrop te D σ H := h
theorem c_set {i : Nat} {v : V} (e : σ.set i (some v) = σ') (h : D.nx σ' H) : D.nx (σ.set i (some v)) H := by rw [e]; exact h
/-- a new list of written items -/
def lstK (Q : VK) : List V → Hp → Prop := fun xs H1 => xs.length ≤ sizeLine ∧ ∀ p, H1 p = none → Q (.ref p) (upd H1 p (.lst xs))
def tupK (Q : VK) : List V → Hp → Prop := fun xs H1 => xs.length ≤ sizeLine ∧ ∀ p, H1 p = none → Q (.ref p) (upd H1 p (.tup xs))
theorem k_lst [Im G α] {vs : List V} {xs : List α} (hS : Sep H L) (m : imL (G := G) H vs xs) (z : vs.length ≤ sizeLine) (k : ∀ p H', Sep H' (lstA p xs :: L) → Q (.ref p) H') :
    lstK Q vs H := ⟨z, fun p hp => k p _ (hS.newL hp m)⟩
theorem c_lst {t : TA} (h : t σ H (lstK Q)) : tLst t σ H Q := h
theorem c_tup {t : TA} (h : t σ H (tupK Q)) : tTup t σ H Q := h
theorem c_bm {K : PySem.W.Frag} {T : String} {r : V → List V → Hp → VK → Prop} {to : TE} {t : TA} (h : to σ H fun x H1 => tyV K T x H1 ∧ t σ H1 fun xs H2 => r x xs H2 Q) : tBM K T r to t σ H Q := h
theorem tyL [Im G α] {i : Nat} {a : Addr} {xs : List α} (hS : Sep H L) (e : L[i]? = some (lstA a xs)) : tyV G.K "list" (.ref a) H := by
  obtain ⟨vs, h, _⟩ := hS.sq e
  exact .inl ⟨rfl, vs, h⟩
theorem k_append [Im G α] {i : Nat} {a : Addr} {xs : List α} {x : α} {v : V} (hS : Sep H L) (e : L[i]? = some (lstA a xs)) (hv : Im.im G H v x) (z : xs.length < sizeLine) (e2 : L.set i (lstA a (xs ++ [x])) = L')
    (k : ∀ H', Sep H' L' → Q .non H') : rAppend (.ref a) [v] H Q := by
  obtain ⟨vs, h, m⟩ := hS.lst e
  refine ⟨a, vs, v, rfl, rfl, h, by rw [m.len]; exact z, k _ ?_⟩
  subst e2
  exact hS.putL e (m.app (vs := vs) (ws := [v]) ⟨hv, True.intro⟩)
/-- xs[i] = v -/
theorem k_setL [Im G α] {n : Nat} {a : Addr} {xs : List α} {x : α} {v : V} {i : Int} {P : Hp → Prop} (hS : Sep H L) (e : L[n]? = some (lstA a xs)) (hv : Im.im G H v x) (j : Nat) (hj : ixN xs.length i = some j) (e2 : L.set n (lstA a (xs.set j x)) = L')
    (k : ∀ H', Sep H' L' → P H') : rSetL (.ref a) (.int i) v H P := by
  obtain ⟨vs, h, m⟩ := hS.lst e
  refine ⟨a, vs, i, j, rfl, rfl, h, by rw [m.len]; exact hj, k _ ?_⟩
  subst e2
  exact hS.putL e (m.set hv)
def cutL (xs : List α) (lo hi : Option Int) : List α := (xs.drop (HT.sIx xs.length 0 lo)).take (HT.sIx xs.length xs.length hi - HT.sIx xs.length 0 lo)
theorem cutL_im [Im G α] {vs : List V} {xs : List α} {lo hi : Option Int} (m : imL (G := G) H vs xs) : imL (G := G) H (cutV vs lo hi) (cutL xs lo hi) := by
  unfold cutV cutL
  rw [m.len]
  exact (m.drop _).take _
theorem c_sl {r : V → Option Int → Option Int → Hp → VK → Prop} {tl th : TO} (h : te σ H fun x H1 => tl σ H1 fun l H2 => th σ H2 fun u H3 => r x l u H3 Q) : tSl r te tl th σ H Q := h
/-- sep.join(xs) -/
def rJoin (K : PySem.W.Frag) : V → List V → Hp → VK → Prop := fun x xs H Q => ∃ a p, ∃ ys : List Str, x = .str a ∧ xs = [.ref p] ∧ (SqL K H p (ys.map V.str) ∨ SqT K H p (ys.map V.str)) ∧ (ys.map (·.length)).sum + ys.length * a.length ≤ 16777216 ∧ Q (.str (Txt.join a ys)) H
theorem c_m1 {r : V → List V → Hp → VK → Prop} {to : TE} {a : Str} (h1 : Ev to σ H (.str a)) (h : te σ H fun y H2 => r (.str a) [y] H2 Q) : tM1 r to te σ H Q := h1 _ ⟨⟨a, rfl⟩, h⟩
end
end Ml
namespace Ml
open PySem L2
variable {G : Gx}
section
variable {κ β : Type} [DecidableEq κ]
def dget (kvs : List (κ × β)) (k : κ) : Option β := (kvs.find? fun kv => decide (kv.1 = k)).map (·.2)
def dput (kvs : List (κ × β)) (k : κ) (v : β) : List (κ × β) :=
  if (kvs.any fun kv => decide (kv.1 = k)) = true then kvs.map (fun kv => if kv.1 = k then (kv.1, v) else kv) else kvs ++ [(k, v)]
def ddrop (kvs : List (κ × β)) (k : κ) : List (κ × β) := kvs.filter fun kv => decide (kv.1 ≠ k)
def dhas (kvs : List (κ × β)) (k : κ) : Bool := (dget kvs k).isSome
end
class Kx (κ : Type) where
  key : κ → Key
  inj : ∀ {a b : κ}, key a = key b → a = b
instance : Kx Int := ⟨Sum.inl, fun h => Sum.inl.inj h⟩
instance : Kx Str := ⟨Sum.inr, fun h => Sum.inr.inj h⟩
section
variable {κ β : Type} [DecidableEq κ] [Kx κ] [Im G β]
def imD (H : Hp) : List (Key × V) → List (κ × β) → Prop
  | [], [] => True
  | p :: ps, q :: qs => (p.1 = Kx.key q.1 ∧ Im.im G H p.2 q.2) ∧ imD H ps qs
  | _, _ => False
variable {H H' : Hp}
theorem imD.st : ∀ {ps : List (Key × V)} {qs : List (κ × β)}, imD (G := G) H ps qs → Stab G H H' → imD (G := G) H' ps qs
  | [], [], _, _ => True.intro
  | p :: ps, q :: qs, h, s => ⟨⟨h.1.1, Im.st h.1.2 s⟩, imD.st h.2 s⟩
  | [], _ :: _, h, _ => h
  | _ :: _, [], h, _ => h
theorem imD.len : ∀ {ps : List (Key × V)} {qs : List (κ × β)}, imD (G := G) H ps qs → ps.length = qs.length
  | [], [], _ => rfl
  | p :: ps, q :: qs, h => by rw [List.length_cons, List.length_cons, imD.len h.2]
  | [], _ :: _, h => h.elim
  | _ :: _, [], h => h.elim
theorem key_dec (a b : κ) : decide (Kx.key a = Kx.key b) = decide (a = b) := by
  by_cases h : a = b
  · subst h; simp
  · have : ¬ Kx.key a = Kx.key b := fun e => h (Kx.inj e)
    simp [h, this]
theorem imD.val : ∀ {ps : List (Key × V)} {qs : List (κ × β)} (k : κ), imD (G := G) H ps qs → (∀ y, dget qs k = some y → ∃ v, valV ps (Kx.key k) = some v ∧ Im.im G H v y) ∧ (dget qs k = none → valV ps (Kx.key k) = none)
  | [], [], _, _ => ⟨fun y e => (by cases (show (none : Option β) = some y from e)), fun _ => rfl⟩
  | p :: ps, q :: qs, k, ⟨⟨e1, e2⟩, h⟩ => by
    have ih := imD.val k h
    by_cases c : q.1 = k
    · have c1 : p.1 = Kx.key k := by rw [e1, c]
      have d : dget (q :: qs) k = some q.2 := by simp [dget, List.find?_cons, c]
      rw [d, valV_pos c1]
      exact ⟨fun y e => ⟨p.2, rfl, by cases e; exact e2⟩, fun e => by cases e⟩
    · have c1 : ¬ p.1 = Kx.key k := fun z => c (Kx.inj (e1.symm.trans z))
      have d : dget (q :: qs) k = dget qs k := by simp [dget, List.find?_cons, c]
      rw [d, valV_neg c1]
      exact ih
  | [], _ :: _, _, h => h.elim
  | _ :: _, [], _, h => h.elim
theorem imD.any : ∀ {ps : List (Key × V)} {qs : List (κ × β)} (k : κ), imD (G := G) H ps qs → (ps.any fun kv => decide (kv.1 = Kx.key k)) = qs.any fun kv => decide (kv.1 = k)
  | [], [], _, _ => rfl
  | p :: ps, q :: qs, k, ⟨⟨e1, e2⟩, h⟩ => by
    rw [List.any_cons, List.any_cons, imD.any k h, e1, key_dec]
  | [], _ :: _, _, h => h.elim
  | _ :: _, [], _, h => h.elim
theorem imD.app : ∀ {ps rs : List (Key × V)} {qs ts : List (κ × β)}, imD (G := G) H ps qs → imD (G := G) H rs ts → imD (G := G) H (ps ++ rs) (qs ++ ts)
  | [], _, [], _, _, h => h
  | _ :: _, _, _ :: _, _, h, k => ⟨h.1, imD.app h.2 k⟩
  | [], _, _ :: _, _, h, _ => h.elim
  | _ :: _, _, [], _, h, _ => h.elim
theorem imD.rep : ∀ {ps : List (Key × V)} {qs : List (κ × β)} {k : κ} {v : V} {y : β}, imD (G := G) H ps qs → Im.im G H v y →
    imD (G := G) H (ps.map fun kv => if kv.1 = Kx.key k then (kv.1, v) else kv) (qs.map fun kv => if kv.1 = k then (kv.1, y) else kv)
  | [], [], _, _, _, _, _ => True.intro
  | p :: ps, q :: qs, k, v, y, ⟨⟨e1, e2⟩, h⟩, hv => by
    refine ⟨?_, imD.rep h hv⟩
    show (if p.1 = Kx.key k then (p.1, v) else p).1 = Kx.key (if q.1 = k then (q.1, y) else q).1 ∧ Im.im G H (if p.1 = Kx.key k then (p.1, v) else p).2 (if q.1 = k then (q.1, y) else q).2
    by_cases c : q.1 = k
    · have c1 : p.1 = Kx.key k := by rw [e1, c]
      rw [if_pos c, if_pos c1]; exact ⟨e1, hv⟩
    · have c1 : ¬ p.1 = Kx.key k := fun z => c (Kx.inj (e1.symm.trans z))
      rw [if_neg c, if_neg c1]; exact ⟨e1, e2⟩
  | [], _ :: _, _, _, _, h, _ => h.elim
  | _ :: _, [], _, _, _, h, _ => h.elim
theorem imD.put {ps : List (Key × V)} {qs : List (κ × β)} {k : κ} {v : V} {y : β} (h : imD (G := G) H ps qs) (hv : Im.im G H v y) : imD (G := G) H (putK ps (Kx.key k) v) (dput qs k y) := by
  unfold putK dput
  rw [h.any k]
  split
  · exact h.rep hv
  · exact h.app (rs := [(Kx.key k, v)]) (ts := [(k, y)]) ⟨⟨rfl, hv⟩, True.intro⟩
theorem imD.drop : ∀ {ps : List (Key × V)} {qs : List (κ × β)} (k : κ), imD (G := G) H ps qs → imD (G := G) H (dropK ps (Kx.key k)) (ddrop qs k)
  | [], [], _, _ => True.intro
  | p :: ps, q :: qs, k, ⟨⟨e1, e2⟩, h⟩ => by
    have ih := imD.drop k h
    unfold dropK ddrop at ih ⊢
    rw [List.filter_cons, List.filter_cons]
    by_cases c : q.1 = k
    · have c1 : p.1 = Kx.key k := by rw [e1, c]
      simp only [c, c1, ne_eq, not_true_eq_false, decide_false, Bool.false_eq_true, if_false]
      exact ih
    · have c1 : ¬ p.1 = Kx.key k := fun z => c (Kx.inj (e1.symm.trans z))
      simp only [c, c1, ne_eq, not_false_eq_true, decide_true, if_true]
      exact ⟨⟨e1, e2⟩, ih⟩
  | [], _ :: _, _, h => h.elim
  | _ :: _, [], _, h => h.elim
theorem imD.keys : ∀ {ps : List (Key × V)} {qs : List (κ × β)}, imD (G := G) H ps qs → ps.map (·.1) = qs.map fun q => Kx.key q.1
  | [], [], _ => rfl
  | p :: ps, q :: qs, h => by rw [List.map_cons, List.map_cons, imD.keys h.2, h.1.1]
  | [], _ :: _, h => h.elim
  | _ :: _, [], h => h.elim
def dictA (a : Addr) (kvs : List (κ × β)) : Asn G := ⟨fun H fp => fp = [a] ∧ ∃ ps, H a = some (.dK ps) ∧ imD (G := G) H ps kvs,
  fun H H' fp ⟨e, ps, h, m⟩ k s => ⟨e, ps, by rw [k a (by rw [e]; simp)]; exact h, m.st s⟩⟩
variable {L L' : List (Asn G)}
theorem Sep.dict (h : Sep H L) {i : Nat} {a : Addr} {kvs : List (κ × β)} (e : L[i]? = some (dictA a kvs)) : ∃ ps, H a = some (.dK ps) ∧ imD (G := G) H ps kvs := by
  obtain ⟨fp, _, x⟩ := h.at e
  exact x
theorem Sep.newD (h : Sep H L) {p : Addr} (hp : H p = none) : Sep (upd H p (.dK [])) (dictA p ([] : List (κ × β)) :: L) :=
  (h.new (o := .dK []) hp rfl).view fun fp ⟨q, r⟩ => ⟨q, [], r, True.intro⟩
theorem Sep.putD (h : Sep H L) {i : Nat} {a : Addr} {xs ys : List (κ × β)} {ps : List (Key × V)} (e : L[i]? = some (dictA a xs)) (m : imD (G := G) H ps ys) : Sep (upd H a (.dK ps)) (L.set i (dictA a ys)) := by
  obtain ⟨us, e0, mu⟩ := h.dict e
  have h1 : Sep H (L.set i (cell a (.dK us))) := h.viewAt e fun fp ⟨q, _⟩ => ⟨q, e0⟩
  have e1 := get_set (y := cell (G := G) a (.dK us)) e
  have h2 := h1.put (o' := .dK ps) e1 rfl rfl
  rw [set_set] at h2
  have st : Stab G H (upd H a (.dK ps)) := stab_put (h1.getCell e1) rfl rfl
  have h3 := h2.viewAt (B := dictA a ys) (get_set e) fun fp ⟨q, r⟩ => ⟨q, ps, r, m.st st⟩
  rw [set_set] at h3
  exact h3
variable {σ : St} {Q : VK} {td ty tx : TE} {k : κ} {a : Addr} {xs : List (κ × β)} {i : Nat}
theorem k_dnew (hS : Sep H L) (q : ∀ p H', Sep H' (dictA p ([] : List (κ × β)) :: L) → Q (.ref p) H') : tDNewK σ H Q := fun p hp => q p _ (hS.newD hp)
theorem dget_at (hS : Sep H L) (e : L[i]? = some (dictA a xs)) {o : Option β} (ho : dget xs k = o) : ∃ r, DGet H a (kV (Kx.key k)) r ∧ (∀ y, o = some y → ∃ v, r = some v ∧ Im.im G H v y) ∧ (o = none → r = none) := by
  obtain ⟨ps, h, m⟩ := hS.dict e
  obtain ⟨v1, v2⟩ := m.val k
  exact ⟨_, DGet.k h, fun y q => v1 y (ho.trans q), fun q => v2 (ho.trans q)⟩
theorem ev_din (hS : Sep H L) (e : L[i]? = some (dictA a xs)) (hy : Ev ty σ H (kV (Kx.key k))) (hd : Ev td σ H (.ref a)) : Ev (tDIn ty td) σ H (.bl (dhas xs k)) := fun Q q => hy _ (hd _ (by
  obtain ⟨r, g, h1, h2⟩ := dget_at hS e (k := k) rfl
  refine ⟨a, r, rfl, g, ?_⟩
  have : r.isSome = dhas xs k := by
    unfold dhas
    cases c : dget xs k with
    | none => rw [h2 c]; rfl
    | some y => obtain ⟨v, e, _⟩ := h1 y c; rw [e]; rfl
  rw [this]; exact q))
theorem ev_dnotin (hS : Sep H L) (e : L[i]? = some (dictA a xs)) (hy : Ev ty σ H (kV (Kx.key k))) (hd : Ev td σ H (.ref a)) : Ev (tDNotIn ty td) σ H (.bl (!dhas xs k)) := fun Q q => hy _ (hd _ (by
  obtain ⟨r, g, h1, h2⟩ := dget_at hS e (k := k) rfl
  refine ⟨a, r, rfl, g, ?_⟩
  have : r.isSome = dhas xs k := by
    unfold dhas
    cases c : dget xs k with
    | none => rw [h2 c]; rfl
    | some y => obtain ⟨v, e, _⟩ := h1 y c; rw [e]; rfl
  rw [this]; exact q))
theorem isD_of (hS : Sep H L) (e : L[i]? = some (dictA a xs)) : IsD H a := by
  obtain ⟨ps, h, _⟩ := hS.dict e
  exact .inl ⟨ps, .inl h⟩
end
class Lay (α : Type) where
  lay : α → Bool
instance : Lay Int := ⟨fun _ => true⟩
instance : Lay Bool := ⟨fun _ => true⟩
instance : Lay Str := ⟨fun x => PyData.strOk x⟩
def layAllB {α : Type} [Lay α] (xs : List α) : Bool := xs.all Lay.lay
class Pd (G : Gx) (α : Type) [Im G α] [DecidableEq α] [Lay α] where
  pd : α → PyData
  dep : Nat
  dp : ∀ {H : Hp} {v : V} {x : α}, Im.im G H v x → Dp G.K H v (pd x)
  lay_ok : ∀ x, Lay.lay x = true → (pd x).canLay0 = true
  dep_ok : ∀ x, (pd x).depth ≤ dep
  eqv : ∀ x y, PyData.eqv (pd x) (pd y) = decide (x = y)
instance pInt : Pd G Int where
  pd := .int
  dep := 0
  dp := fun {H v x} h => by
    have h : v = .int x := h
    subst h; exact .int x
  lay_ok := fun _ _ => rfl
  dep_ok := fun _ => Nat.le_refl _
  eqv := fun x y => by
    show (x == y) = decide (x = y)
    rfl
instance pBool : Pd G Bool where
  pd := .bool
  dep := 0
  dp := fun {H v x} h => by
    have h : v = .bl x := h
    subst h; exact .bl x
  lay_ok := fun _ _ => rfl
  dep_ok := fun _ => Nat.le_refl _
  eqv := fun x y => by cases x <;> cases y <;> rfl
theorem str_beq (x y : Str) : (x == y) = decide (x = y) := by
  by_cases h : x = y
  · subst h; simp
  · simp [h]
instance pStr : Pd G Str where
  pd := .str
  dep := 0
  dp := fun {H v x} h => by
    have h : v = .str x := h
    subst h; exact .str x
  lay_ok := fun _ h => h
  dep_ok := fun _ => Nat.le_refl _
  eqv := fun x y => str_beq x y
section
variable {α : Type} [Im G α] [DecidableEq α] [Lay α] [Pd G α] {H : Hp} {L : List (Asn G)}
theorem dpAll : ∀ {vs : List V} {xs : List α}, imL (G := G) H vs xs → DpAll G.K H vs (xs.map (Pd.pd G))
  | [], [], _ => .nil
  | v :: vs, x :: xs, h => .cons (Pd.dp h.1) (dpAll h.2)
  | [], _ :: _, h => h.elim
  | _ :: _, [], h => h.elim
theorem layAll : ∀ {xs : List α}, layAllB xs = true → PyData.canLayAll0 (xs.map (Pd.pd G)) = true
  | [], _ => rfl
  | x :: xs, h => by
    unfold layAllB at h
    rw [List.all_cons, Bool.and_eq_true] at h
    show ((Pd.pd G x).canLay0 && PyData.canLayAll0 (xs.map (Pd.pd G))) = true
    rw [Pd.lay_ok x h.1, layAll h.2]; rfl
theorem depAll : ∀ (xs : List α), PyData.depthAll (xs.map (Pd.pd G)) ≤ Pd.dep G α
  | [] => Nat.zero_le _
  | x :: xs => by
    show max (Pd.pd G x).depth (PyData.depthAll (xs.map (Pd.pd G))) ≤ _
    exact Nat.max_le.mpr ⟨Pd.dep_ok x, depAll xs⟩
theorem eqvAll_is : ∀ (xs ys : List α), PyData.eqvAll (xs.map (Pd.pd G)) (ys.map (Pd.pd G)) = decide (xs = ys)
  | [], [] => rfl
  | x :: xs, y :: ys => by
    show (PyData.eqv (Pd.pd G x) (Pd.pd G y) && PyData.eqvAll (xs.map (Pd.pd G)) (ys.map (Pd.pd G))) = _
    rw [Pd.eqv, eqvAll_is xs ys]
    simp
  | [], _ :: _ => rfl
  | _ :: _, [] => rfl
variable {a b : Addr} {xs ys : List α} {i j : Nat} {σ : St} {ta tb : TE}
end
section
variable {H : Hp} {L : List (Asn G)} {σ : St} {ta tb : TE} {a : Addr} {i : Nat}
theorem inV_str (x : Str) : ∀ ys : List Str, inV (.str x) (ys.map V.str) = decide (x ∈ ys)
  | [] => rfl
  | y :: ys => by
    have ih := inV_str x ys
    unfold inV at ih ⊢
    rw [List.map_cons, List.any_cons, ih]
    show ((y == x) || _) = _
    by_cases h : y = x
    · subst h; simp
    · have h' : ¬ x = y := fun e => h e.symm
      simp [h, h']
theorem flat_str : ∀ ys : List Str, (ys.map V.str).all flatV = true
  | [] => rfl
  | y :: ys => by rw [List.map_cons, List.all_cons, flat_str ys]; rfl
theorem ev_inL {x : Str} {ys : List Str} (hS : Sep H L) (e : L[i]? = some (lstA a ys)) (ha : Ev ta σ H (.str x)) (hb : Ev tb σ H (.ref a)) : Ev (tOp (rIn G.K false) ta tb) σ H (.bl (decide (x ∈ ys))) := ev_op ha hb fun Q q =>
  ⟨a, ys.map V.str, rfl, .inl (hS.sqF e), rfl, flat_str ys, by
    show Q (.bl (inV (.str x) (ys.map V.str))) H
    rw [inV_str]; exact q⟩
theorem ev_niL {x : Str} {ys : List Str} (hS : Sep H L) (e : L[i]? = some (lstA a ys)) (ha : Ev ta σ H (.str x)) (hb : Ev tb σ H (.ref a)) : Ev (tOp (rIn G.K true) ta tb) σ H (.bl (!decide (x ∈ ys))) := ev_op ha hb fun Q q =>
  ⟨a, ys.map V.str, rfl, .inl (hS.sqF e), rfl, flat_str ys, by
    show Q (.bl (!inV (.str x) (ys.map V.str))) H
    rw [inV_str]; exact q⟩
end
end Ml
namespace Ml
open PySem L2
variable {G : Gx}
section
variable {σ σ' : St} {H : Hp} {L L' M : List (Asn G)} {D : Ends} {Q : VK} {te : TE} {tt : TT} {tb : TS} {α β τ ρ : Type} {i : Nat} {v : V} {vs : List Nat}
theorem c_gN {P : St → Hp → Prop} (e : σ.set i (some v) = σ') (h : P σ' H) : gName i v σ H P := by
  show P (σ.set i (some v)) H
  rw [e]; exact h
theorem c_gLc {P : Bool → Hp → Prop} (e : (wipe σ vs).set i (some v) = σ') (hw : wipe σ' vs = wipe σ vs) (h : tt σ' H P) : gName i v (wipe σ vs) H fun σ2 H2 => wipe σ2 vs = wipe σ vs ∧ tt σ2 H2 P := by
  show wipe ((wipe σ vs).set i (some v)) vs = wipe σ vs ∧ tt ((wipe σ vs).set i (some v)) H P
  rw [e]; exact ⟨hw, h⟩
theorem c_yes {A B : Hp → Prop} (h : A H) : tYes σ H fun b H3 => if b = true then A H3 else B H3 := h
theorem lc_app [Im G β] {Dr : Addr} {ys : List β} {y : β} {u : V} (hS : Sep H (lstA Dr ys :: M)) (hu : Im.im G H u y) : ∃ acc, H Dr = some (.lst acc) ∧ acc.length = ys.length ∧ Sep (upd H Dr (.lst (acc ++ [u]))) (lstA Dr (ys ++ [y]) :: M) := by
  obtain ⟨acc, h, m⟩ := hS.lst (i := 0) rfl
  exact ⟨acc, h, m.len, hS.putL (i := 0) rfl (m.app (vs := acc) (ws := [u]) ⟨hu, True.intro⟩)⟩
theorem st_nx (h : D.nx σ H) : tNext D σ H := h
def sq (t : TS) (D : Ends) : Ends := { D with nx := t D }
theorem f_seq {t1 t2 : TS} (h : t1 (sq t2 D) σ H) : tSeq t1 t2 D σ H := h
theorem sq_nx {t2 : TS} (h : t2 D σ H) : (sq t2 D).nx σ H := h
def forK (g : TG) (tb : TS) (D : Ends) (σ : L2.St) : It → Hp → Prop := fun J H1 => ∃ W : Nat → Nat → L2.St → Hp → Prop, (∃ m, W 0 m σ H1) ∧ ∀ i m σ H, W i m σ H →
  (J.stop i H ∧ D.nx σ H) ∨ (J.go i H ∧ ∃ N : L2.St → Hp → Prop, (∀ σ' H', N σ' H' → ∃ m', m' < m ∧ W (i + 1) m' σ' H') ∧ ∀ x H', J.yld i H x H' → g x σ H' fun σ2 H2 => tb { D with nx := N, ct := N, bk := D.nx } σ2 H2)
def loopD (D : Ends) (N B : L2.St → Hp → Prop) : Ends := { D with nx := N, ct := N, bk := B }
theorem c_for {wi : TI} {g : TG} (h : wi σ H (forK g tb D σ)) : tFor wi g tb D σ H := h
def lcK (g : TG) (tt : TT) (te : TE) (vs : List Nat) (σ : L2.St) (Q : VK) : It → Hp → Prop := fun J H1 => ∀ D, H1 D = none → ∃ W : Nat → Nat → Hp → Prop, (∃ m, W 0 m (upd H1 D (.lst []))) ∧ ∀ i m H, W i m H →
  (J.stop i H ∧ Q (.ref D) H) ∨ (J.go i H ∧ ∃ Nx : Hp → Prop, (∀ H', Nx H' → ∃ m', m' < m ∧ W (i + 1) m' H') ∧ ∀ x H', J.yld i H x H' → g x (wipe σ vs) H' fun σ2 H2 => wipe σ2 vs = wipe σ vs ∧ tt σ2 H2 fun b H3 =>
    if b = true then te σ2 H3 fun y H4 => ∃ acc, H4 D = some (.lst acc) ∧ acc.length < sizeLine ∧ Nx (upd H4 D (.lst (acc ++ [y]))) else Nx H3)
theorem c_lc {wi : TI} {g : TG} (h : wi σ H (lcK g tt te vs σ Q)) : tLc wi g tt te vs σ H Q := h
def rng1K (R : It → Hp → Prop) : List V → Hp → Prop := fun vs H1 => ∃ j : Int, vs = [.int j] ∧ -(2 ^ 62) ≤ j ∧ j < 2 ^ 62 ∧ R (Itr 0 j.toNat) H1
def ilK (K : PySem.W.Frag) (R : It → Hp → Prop) : VK := fun x H1 => ∃ a, x = .ref a ∧ (∃ xs, SqL K H1 a xs) ∧ R (Itl K a) H1
theorem c_rng1 {ta : TA} {R : It → Hp → Prop} (h : ta σ H (rng1K R)) : iRng1 ta σ H R := h
theorem c_il {K : PySem.W.Frag} {R : It → Hp → Prop} (h : te σ H (ilK K R)) : iList K te σ H R := h
theorem k_rng1 {R : It → Hp → Prop} {j : Int} (h1 : -(2 ^ 62) ≤ j) (h2 : j < 2 ^ 62) (h : R (Itr 0 j.toNat) H) : rng1K R [.int j] H := ⟨j, rfl, h1, h2, h⟩
theorem k_il [Im G α] {a : Addr} {xs : List α} {R : It → Hp → Prop} (hS : Sep H L) (e : L[i]? = some (lstA a xs)) (h : R (Itl G.K a) H) : ilK G.K R (.ref a) H := by
  obtain ⟨vs, s, _⟩ := hS.sq e
  exact ⟨a, rfl, ⟨vs, s⟩, h⟩
/-- for .. in .. -/
theorem k_for {J : It} {g : TG} {im : Hp → V → α → Prop} {xs : List α} {f : τ → α → R τ} {rest : τ → R ρ} {q : ρ → Prop} {e : Exc → Prop} {s : τ} (I : τ → L2.St → Hp → Prop)
    (w : ∀ s, Wk J (I s) im xs) (h0 : I s σ H) (hm : R.wp ((forR f xs s).bind rest) q e)
    (turn : ∀ (s : τ) (x : α) (v : V) (σ : L2.St) (H : Hp) (q : τ → Prop) (N : L2.St → Hp → Prop), I s σ H → im H v x → R.wp (f s x) q e → (∀ s' σ' H', q s' → I s' σ' H' → N σ' H') → g v σ H fun σ2 H2 => tb (loopD D N D.nx) σ2 H2)
    (done : ∀ s σ H, R.wp (rest s) q e → I s σ H → D.nx σ H) : forK g tb D σ J H :=
  for_walk (I := I) w h0 (R.wp_bind hm) turn done
/-- a comprehension over owned things -/
theorem lc_sep [Im G β] {J : It} {im : Hp → V → α → Prop} {xs : List α} {f : τ → α → R (τ × Option β)} {rest : τ × List β → R ρ} {q : ρ → Prop} {e : Exc → Prop} {s : τ} (M : τ → List (Asn G))
    (hS : Sep H (M s)) (w : ∀ (Dr : Addr) (s : τ) (ys : List β), Wk J (fun (_ : St) H => Sep H (lstA Dr ys :: M s)) im xs) (hl : xs.length ≤ sizeLine) (hm : R.wp ((compR f xs s).bind rest) q e)
    (turn : ∀ (Dr : Addr) (s : τ) (ys : List β) (x : α) (v : V) (H : Hp) (q : τ × Option β → Prop) (Nx : Hp → Prop), Sep H (lstA Dr ys :: M s) → im H v x → R.wp (f s x) q e →
      (∀ s' y u H', q (s', some y) → Im.im G H' u y → Sep H' (lstA Dr ys :: M s') → ∃ acc, H' Dr = some (.lst acc) ∧ acc.length < sizeLine ∧ Nx (upd H' Dr (.lst (acc ++ [u])))) → (∀ s' H', q (s', none) → Sep H' (lstA Dr ys :: M s') → Nx H') →
      gName i v (wipe σ vs) H fun σ2 H2 => wipe σ2 vs = wipe σ vs ∧ tt σ2 H2 fun b H3 => if b = true then te σ2 H3 fun y H4 => ∃ acc, H4 Dr = some (.lst acc) ∧ acc.length < sizeLine ∧ Nx (upd H4 Dr (.lst (acc ++ [y]))) else Nx H3)
    (done : ∀ (Dr : Addr) (t : τ × List β) H, R.wp (rest t) q e → Sep H (lstA Dr t.2 :: M t.1) → Q (.ref Dr) H) :
    lcK (gName i) tt te vs σ Q J H := fun Dr hD =>
  lc_walk (G := G) (I := fun Dr s ys H => Sep H (lstA Dr ys :: M s)) (im := im) (xs := xs) (f := f) (k := fun t => R.wp (rest t) q e) (e := e) (s := s) (w Dr)
    (hS.newL (vs := []) (xs := ([] : List β)) hD True.intro) (R.wp_bind hm) hl
    (fun s ys x v H q Nx hI hv hw _ k1 k2 => turn Dr s ys x v H q Nx hI hv hw k1 k2)
    (fun s ys y u H hI hu => lc_app hI hu)
    (fun s ys H hk hI => done Dr (s, ys) H hk hI)
theorem c_aug {ti : TIp} {x : V} (e : σ[i]? = some (some x)) (h : te σ H fun y H1 => ti x y H1 fun z H2 => D.nx (σ.set i (some z)) H2) : tAug i te ti D σ H := ⟨x, e, h⟩
theorem c_asgS {to ti : TE} {t : TSet} (h : te σ H fun v H1 => to σ H1 fun o H2 => ti σ H2 fun j H3 => t o j v H3 fun H4 => D.nx σ H4) : tAsg te (gSub to ti t) D σ H := h
theorem mt_joinS {X : Cx} : MtR X "str.join" (rJoin X.K) := mt_join
theorem m2 {X : Cx} {o : Expr} {m : Str} {apos : Pos} {e f : Expr} {cpos : Pos} (base : attributeBase o m X.env (eval o X.env) = eval o X.env := by rfl)
  (few : ((backTo cpos (starEach [e, f] X.env)).all (fun x => !x.1) && (backToKw cpos (keywordEach [] X.env)).all (fun x => x.1.isSome)
    && decide (([e, f] : List Expr).length + ([] : List Keyword).length + (if ([] : List Keyword).isEmpty then 0 else 1) < 30)) = true := by rfl)
  (line : (apos.endLine == cpos.line) = true := by rfl) (trees : backTo cpos (starEach [e, f] X.env) = [(false, eval e X.env), (false, eval f X.env)] := by rfl) : M2 X o m apos e f cpos := ⟨base, few, line, trees⟩
def ixR {α : Type} (xs : List α) (i : Int) : R Nat := match ixN xs.length i with
  | some j => .ok j
  | none => .bad
theorem wp_ix {xs : List α} {i : Int} {f : Nat → R ρ} {q : ρ → Prop} {e : Exc → Prop} (h : R.wp ((ixR xs i).bind f) q e) : ∃ j, ixN xs.length i = some j ∧ R.wp (f j) q e := by
  unfold ixR at h
  cases c : ixN xs.length i with
  | some x => rw [c] at h; exact ⟨x, rfl, h⟩
  | none => rw [c] at h; exact h.elim
theorem r_ixSq {K : PySem.W.Frag} {p : Addr} {ws : List V} {i : Int} (hs : SqL K H p ws) (e : atI ws i = some v) (Q : VK) (q : Q v H) : rIxL K (.ref p) (.int i) H Q := ⟨p, ws, i, v, rfl, rfl, hs, e, q⟩
theorem ev_lenLm {K : PySem.W.Frag} {ta : TE} {p : Addr} {xs : List α} {f : α → V} (ha : Ev ta σ H (.ref p)) (hs : SqL K H p (xs.map f)) : Ev (tCB (rLenSq K) (tCons ta tNil)) σ H (.int xs.length) := by
  have := ev_lenL ha hs
  rw [List.length_map] at this
  exact this
end
end Ml
namespace Ml
open PySem L2
variable {G : Gx}
def andK (u : TT) (σ : St) (P : Bool → Hp → Prop) : Bool → Hp → Prop := fun c H => if c = true then u σ H P else P false H
def notK (P : Bool → Hp → Prop) : Bool → Hp → Prop := fun c H => P (!c) H
def ifK (t1 t2 : TS) (D : Ends) (σ : St) : Bool → Hp → Prop := fun c H => if c = true then t1 D σ H else t2 D σ H
/-- a value that is a Bool -/
def blK (P : Bool → Hp → Prop) : VK := fun x H => ∃ k, x = .bl k ∧ P k H
section
variable {σ : St} {H : Hp} {L : List (Asn G)} {D : Ends} {Q : VK} {P : Bool → Hp → Prop} {t u : TT} {t1 t2 : TS} {ta tb te : TE} {ρ τ : Type} {a b : Bool} {v w : V}
theorem f_and (h : t σ H (andK u σ P)) : tAnd t u σ H P := h
theorem f_not (h : t σ H (notK P)) : tNot t σ H P := h
theorem f_if (h : t σ H (ifK t1 t2 D σ)) : tIfS t t1 t2 D σ H := h
theorem f_test (h : te σ H (blK P)) : tTest te σ H P := h
theorem f_B (h : te σ H (blK P)) : tB te σ H P := h
theorem f_bl (h : P b H) : blK P (.bl b) H := ⟨b, rfl, h⟩
theorem f_nK (h : P (!b) H) : notK P b H := h
theorem ifK_t (h : t1 D σ H) : ifK t1 t2 D σ true H := h
variable {A B : R Bool} {rest : Bool → R ρ} {q : ρ → Prop} {e : Exc → Prop}
theorem andK_J (hm : R.wp ((if a = true then A else .ok false).bind rest) q e) (hS : Sep H L)
    (h1 : a = true → ∀ q' : Bool → Prop, R.wp A q' e → (∀ b H', q' b → Sep H' L → P b H') → u σ H P) (k : ∀ b H', R.wp (rest b) q e → Sep H' L → P b H') : andK u σ P a H := by
  have hm' := R.wp_bind hm
  cases a with
  | true => exact h1 rfl _ hm' k
  | false => exact k false H hm' hS
theorem ifK_2 (h1 : a = true → t1 D σ H) (h2 : a = false → t2 D σ H) : ifK t1 t2 D σ a H := by
  cases a with
  | true => exact h1 rfl
  | false => exact h2 rfl
theorem ifK_J {A B : R τ} {rest : τ → R ρ} (J : τ → St → Hp → Prop) (hm : R.wp ((if a = true then A else B).bind rest) q e)
    (h1 : a = true → ∀ q' : τ → Prop, R.wp A q' e → (∀ s σ' H', q' s → J s σ' H' → D.nx σ' H') → t1 D σ H)
    (h2 : a = false → ∀ q' : τ → Prop, R.wp B q' e → (∀ s σ' H', q' s → J s σ' H' → D.nx σ' H') → t2 D σ H)
    (k : ∀ s σ' H', R.wp (rest s) q e → J s σ' H' → D.nx σ' H') : ifK t1 t2 D σ a H := by
  have hm' := R.wp_bind hm
  cases a with
  | true => exact h1 rfl _ hm' k
  | false => exact h2 rfl _ hm' k
theorem wp_let {α : Type} {x : α} {f : α → R ρ} (hm : R.wp ((R.ok x).bind f) q e) : ∃ y, x = y ∧ R.wp (f y) q e := ⟨x, rfl, hm⟩
theorem n_is {i : Nat} (e : v = w) (h : D.nx (σ.set i (some w)) H) : D.nx (σ.set i (some v)) H := by rw [e]; exact h
/-- [elt ..] with a test: the two ways -/
theorem lc_if {A B : Prop} (h1 : a = true → A) (h2 : a = false → B) : if a = true then A else B := by
  cases a with
  | true => exact h1 rfl
  | false => exact h2 rfl
end
end Ml
namespace Ml
open PySem L2
section
variable {X : Cx} (K : PySem.W.Frag) (hK : X.K = K := by rfl)
include hK
theorem ix_listK : IxR X (rIxL K) := by subst hK; exact ix_list
theorem ix_tupK : IxR X (rIxT K) := by subst hK; exact ix_tup
theorem sl_listK : SlR X (rSlL K) := by subst hK; exact sl_list
theorem lenSqK : CallR X (.builtin "len") (rLenSq K) := by subst hK; exact call_lenSq
theorem inSqK : OpR X (compareOp .In) (rIn K false) := by subst hK; exact op_in_seq
theorem niSqK : OpR X (compareOp .NotIn) (rIn K true) := by subst hK; exact op_notIn_seq
theorem joinK : MtR X "str.join" (rJoin K) := by subst hK; exact mt_joinS
end
theorem eqDK {X : Cx} (K : PySem.W.Frag) (hu : X.A.units + 64 < cLine) (hK : X.K = K := by rfl) : OpR X (compareOp .Eq) (rEqD K) := by subst hK; exact op_eqD hu
theorem neDK {X : Cx} (K : PySem.W.Frag) (hu : X.A.units + 64 < cLine) (hK : X.K = K := by rfl) : OpR X (compareOp .NotEq) (rNeD K) := by subst hK; exact op_neD hu
theorem pi_listK {X : Cx} {tg e : Expr} {tl : TE} (K : PySem.W.Frag) (h : PE X e tl) (hK : X.K = K := by rfl) : PI X tg e (iList K tl) := by subst hK; exact pi_list h
section
variable {X : Cx} {T : String} {name : Str} {id : String} {r : V → List V → Hp → VK → Prop} {o e : Expr} {es : List Expr} {to : TE} {t : TA} {apos cpos : Pos}
theorem pe_bmK (K : PySem.W.Frag) (pa : PlainAttrs T) (slot : Slot T name id) (hty : typeOf (.builtin id) = pure (.type "method_descriptor")) (hm : MtR X id r) (ho : PE X o to) (ha : PA X (e :: es) t) (hK : X.K = K := by rfl)
    (hbase : attributeBase o name X.env (eval o X.env) = eval o X.env := by rfl)
    (hfew : ((backTo cpos (starEach (e :: es) X.env)).all (fun x => !x.1) && (backToKw cpos (keywordEach [] X.env)).all (fun x => x.1.isSome)
      && decide ((e :: es).length + ([] : List Keyword).length + (if ([] : List Keyword).isEmpty then 0 else 1) < 30)) = true := by rfl)
    (hline : (apos.endLine == cpos.line) = true := by rfl) (hs : starEach (e :: es) X.env = (false, eval e X.env) :: starEach es X.env := by rfl) (hplain : (backTo cpos (starEach es X.env)).any (·.1) = false := by rfl) :
    PE X (.Call (.Attribute o name apos) (e :: es) [] cpos) (tBM K T r to t) := by subst hK; exact pe_bm pa slot hty hm ho ha hbase hfew hline hs hplain
end
end Ml
namespace Ml
open PySem L2
theorem im_of_only {G : Gx} {H : Hp} {a : Addr} {ns : List Int} (hO : Only H) (hS : SqL G.K H a (ns.map V.int)) : Im.im G H (.ref a) (⟨ns⟩ : Script) := by
  refine ⟨a, rfl, ?_⟩
  rcases hS with (h | ⟨o, h⟩) | h
  · rcases hO a with z | ⟨o, xs, z⟩
    · rw [h] at z; cases z
    · rw [h] at z; cases z
  · exact .inl ⟨o, h⟩
  · exact .inr h
end Ml
namespace Ml
open PySem L2
variable {G : Gx} {σ : St} {H : Hp} {L : List (Asn G)} {D : Ends} {Q : VK} {α ρ : Type} {v : V}
theorem r_mod {i j : Int} (c : 0 < j) (q : Q (.int (i % j)) H) : rI (fun _ j => 0 < j) (fun i j => V.int (i % j)) (.int i) (.int j) H Q := ⟨i, j, rfl, rfl, c, q⟩
theorem r_mul {i j : Int} (c : CMul i j) (q : Q (.int (i * j)) H) : rI CMul (fun i j => V.int (i * j)) (.int i) (.int j) H Q := ⟨i, j, rfl, rfl, c, q⟩
theorem r_fdiv {i j : Int} (c : 0 < j ∧ j < 1073741824) (q : Q (.int (i / j)) H) : rI CDiv (fun i j => V.int (i / j)) (.int i) (.int j) H Q := ⟨i, j, rfl, rfl, c, q⟩
end Ml
namespace Ml
open PySem L2
def fzK (Q : VK) : VK := fun v H => Q v H ∨ ∃ a u, v = .ref a ∧ H a = some u ∧ Mut (some u) ∧ ∀ o, Q v (upd H a (.frz o u))
def tFz (t : TE) : TE := fun σ H Q => t σ H (fzK Q)
theorem pe_fz {X : Cx} {e : Expr} {t : TE} (h : PE X e t) : PE X e (tFz t) := by
  refine ⟨fun pins s σ H Q I hw => ?_⟩
  refine thn (h.run pins s σ H _ I hw) fun v s1 ⟨x, H1, I1, r, q⟩ => ?_
  rcases q with q | ⟨a, u, e, ha, mu, q⟩
  · exact ⟨x, H1, I1, r, q⟩
  · obtain ⟨od, I2⟩ := I1.lock ha mu
    exact ⟨x, _, I2, r, q od⟩
variable {G : Gx}
section
variable {σ : St} {H : Hp} {L : List (Asn G)} {te : TE} {Q : VK} {v : V} {α : Type}
theorem c_fz (h : te σ H (fzK Q)) : tFz te σ H Q := h
theorem fz_no (h : Q v H) : fzK Q v H := .inl h
theorem ev_fz (h : Ev te σ H v) : Ev (tFz te) σ H v := fun Q q => h _ (.inl q)
/-- a locked list: a value -/
instance imList [Im G α] : Im G (List α) := ⟨fun H v xs => ∃ a vs, v = .ref a ∧ (∃ o, H a = some (.frz o (.lst vs))) ∧ imL (G := G) H vs xs,
  fun ⟨a, vs, e, ⟨o, h⟩, m⟩ s => ⟨a, vs, e, ⟨o, s.1 a _ h rfl⟩, m.st s⟩⟩
theorem imPl [Im G α] {a : Addr} {xs : List α} (h : Im.im G H (.ref a) xs) : ∃ vs, SqL G.K H a vs ∧ imL (G := G) H vs xs := by
  obtain ⟨b, vs, e, ⟨o, h⟩, m⟩ := h
  cases e
  exact ⟨vs, .inl (.inr ⟨o, h⟩), m⟩
theorem imPlF [Fv G α] {a : Addr} {xs : List α} (h : Im.im G H (.ref a) xs) : SqL G.K H a (xs.map (Fv.enc G)) := by
  obtain ⟨vs, e, m⟩ := imPl h
  rw [imL.flat.mp m] at e
  exact e
/-- the i-th thing is dropped, the rest stays while its cell changes -/
theorem Sep.drop1 {a : Addr} {o o' : HO} {M : List (Asn G)} (h : Sep H (cell a o :: M)) (kd : kindOf o' = kindOf o) : Sep (upd H a o') M := by
  obtain ⟨fp, ⟨f1, f2, e, ⟨e1, ho⟩, k⟩, h2, h3⟩ := h
  subst e1; subst e
  have nd : ¬ a ∈ f2 := (List.nodup_cons.mp h2).1
  obtain ⟨u, hu, nu⟩ := h3 a (by simp)
  have eu : u = o := by rw [ho] at hu; cases hu; rfl
  have st : Stab G H (upd H a o') := stab_put hu nu (by rw [eu]; exact kd)
  refine ⟨f2, k.loc (fun b m => upd_ne fun z => nd (z ▸ m)) st, (List.nodup_cons.mp h2).2, fun b m => ?_⟩
  obtain ⟨x, hx, nx⟩ := h3 b (by simp [m])
  exact ⟨x, by rw [upd_ne (fun z => nd (by rw [← z]; exact m))]; exact hx, nx⟩
theorem fz_yes [Im G α] {i : Nat} {a : Addr} {xs : List α} (hS : Sep H L) (e : L[i]? = some (lstA a xs)) (k : ∀ H', Sep H' (imA (.ref a) xs :: L.eraseIdx i) → Q (.ref a) H') : fzK Q (.ref a) H := by
  obtain ⟨vs, m, h1⟩ := hS.openL e
  have h0 := h1.getCell (get_set e)
  refine .inr ⟨a, .lst vs, rfl, h0, True.intro, fun o => k _ ?_⟩
  have h2 := h1.perm (pull_perm (get_set (y := cell (G := G) a (.lst vs)) e))
  have e3 : (L.set i (cell a (.lst vs))).eraseIdx i = L.eraseIdx i := by simp [List.eraseIdx_set_eq]
  rw [e3] at h2
  obtain ⟨fp, ⟨f1, f2, _, ⟨ef, _⟩, _⟩, nd0, nper⟩ := id h2
  have nu : per G (.lst vs) = false := rfl
  have st : Stab G H (upd H a (.frz o (.lst vs))) := stab_put h0 nu rfl
  have h4 := h2.drop1 (o' := .frz o (.lst vs)) rfl
  exact h4.addIm ⟨a, vs, rfl, ⟨o, upd_same⟩, m.st st⟩
end
structure T3 (α β γ : Type) where
  a : α
  b : β
  c : γ
  deriving DecidableEq, Repr
structure T4 (α β γ δ : Type) where
  a : α
  b : β
  c : γ
  d : δ
  deriving DecidableEq, Repr
structure T5 (α β γ δ ε : Type) where
  a : α
  b : β
  c : γ
  d : δ
  e : ε
  deriving DecidableEq, Repr
structure T1 (α : Type) where
  a : α
  deriving DecidableEq, Repr
section
variable {α β γ δ ε : Type} [Im G α] [Im G β] [Im G γ] [Im G δ] [Im G ε] {H H' : Hp} {a : Addr} {u1 u2 u3 u4 u5 : V}
instance imT1 : Im G (T1 α) := ⟨fun H v x => ∃ a u1, v = .ref a ∧ H a = some (.tup [u1]) ∧ Im.im G H u1 x.a,
  fun ⟨a, u1, e, h, i1⟩ s => ⟨a, u1, e, s.1 a _ h rfl, Im.st i1 s⟩⟩
instance imT2 : Im G (α × β) := ⟨fun H v x => ∃ a u1 u2, v = .ref a ∧ H a = some (.tup [u1, u2]) ∧ Im.im G H u1 x.1 ∧ Im.im G H u2 x.2,
  fun ⟨a, u1, u2, e, h, i1, i2⟩ s => ⟨a, u1, u2, e, s.1 a _ h rfl, Im.st i1 s, Im.st i2 s⟩⟩
instance imT3 : Im G (T3 α β γ) := ⟨fun H v x => ∃ a u1 u2 u3, v = .ref a ∧ H a = some (.tup [u1, u2, u3]) ∧ Im.im G H u1 x.a ∧ Im.im G H u2 x.b ∧ Im.im G H u3 x.c,
  fun ⟨a, u1, u2, u3, e, h, i1, i2, i3⟩ s => ⟨a, u1, u2, u3, e, s.1 a _ h rfl, Im.st i1 s, Im.st i2 s, Im.st i3 s⟩⟩
instance imT4 : Im G (T4 α β γ δ) := ⟨fun H v x => ∃ a u1 u2 u3 u4, v = .ref a ∧ H a = some (.tup [u1, u2, u3, u4]) ∧ Im.im G H u1 x.a ∧ Im.im G H u2 x.b ∧ Im.im G H u3 x.c ∧ Im.im G H u4 x.d,
  fun ⟨a, u1, u2, u3, u4, e, h, i1, i2, i3, i4⟩ s => ⟨a, u1, u2, u3, u4, e, s.1 a _ h rfl, Im.st i1 s, Im.st i2 s, Im.st i3 s, Im.st i4 s⟩⟩
instance imT5 : Im G (T5 α β γ δ ε) := ⟨fun H v x => ∃ a u1 u2 u3 u4 u5, v = .ref a ∧ H a = some (.tup [u1, u2, u3, u4, u5]) ∧ Im.im G H u1 x.a ∧ Im.im G H u2 x.b ∧ Im.im G H u3 x.c ∧ Im.im G H u4 x.d ∧ Im.im G H u5 x.e,
  fun ⟨a, u1, u2, u3, u4, u5, e, h, i1, i2, i3, i4, i5⟩ s => ⟨a, u1, u2, u3, u4, u5, e, s.1 a _ h rfl, Im.st i1 s, Im.st i2 s, Im.st i3 s, Im.st i4 s, Im.st i5 s⟩⟩
theorem im2 {x : α × β} (h : Im.im G H (.ref a) x) : ∃ u1 u2, H a = some (.tup [u1, u2]) ∧ Im.im G H u1 x.1 ∧ Im.im G H u2 x.2 := by
  obtain ⟨b, u1, u2, e, h⟩ := h; cases e; exact ⟨u1, u2, h⟩
theorem im3 {x : T3 α β γ} (h : Im.im G H (.ref a) x) : ∃ u1 u2 u3, H a = some (.tup [u1, u2, u3]) ∧ Im.im G H u1 x.a ∧ Im.im G H u2 x.b ∧ Im.im G H u3 x.c := by
  obtain ⟨b, u1, u2, u3, e, h⟩ := h; cases e; exact ⟨u1, u2, u3, h⟩
theorem mk2 {x : α × β} (i1 : Im.im G H u1 x.1) (i2 : Im.im G H u2 x.2) (h : H' a = some (.tup [u1, u2])) (s : Stab G H H') : Im.im G H' (.ref a) x := ⟨a, u1, u2, rfl, h, Im.st i1 s, Im.st i2 s⟩
theorem mk3 {x : T3 α β γ} (i1 : Im.im G H u1 x.a) (i2 : Im.im G H u2 x.b) (i3 : Im.im G H u3 x.c) (h : H' a = some (.tup [u1, u2, u3])) (s : Stab G H H') : Im.im G H' (.ref a) x := ⟨a, u1, u2, u3, rfl, h, Im.st i1 s, Im.st i2 s, Im.st i3 s⟩
end
class IsRef (G : Gx) (α : Type) [Im G α] : Prop where
  isref : ∀ {H : Hp} {v : V} {x : α}, Im.im G H v x → ∃ a, v = .ref a
theorem isref {α : Type} [Im G α] [IsRef G α] {H : Hp} {v : V} {x : α} (h : Im.im G H v x) : ∃ a, v = .ref a := IsRef.isref h
section
variable {α β γ δ ε : Type} [Im G α] [Im G β] [Im G γ] [Im G δ] [Im G ε]
instance : IsRef G (List α) := ⟨fun h => by obtain ⟨a, _, e, _⟩ := h; exact ⟨a, e⟩⟩
instance : IsRef G (T1 α) := ⟨fun h => by obtain ⟨a, _, e, _⟩ := h; exact ⟨a, e⟩⟩
instance : IsRef G (α × β) := ⟨fun h => by obtain ⟨a, _, _, e, _⟩ := h; exact ⟨a, e⟩⟩
instance : IsRef G (T3 α β γ) := ⟨fun h => by obtain ⟨a, _, _, _, e, _⟩ := h; exact ⟨a, e⟩⟩
instance : IsRef G (T4 α β γ δ) := ⟨fun h => by obtain ⟨a, _, _, _, _, e, _⟩ := h; exact ⟨a, e⟩⟩
instance : IsRef G (T5 α β γ δ ε) := ⟨fun h => by obtain ⟨a, _, _, _, _, _, e, _⟩ := h; exact ⟨a, e⟩⟩
end
section
variable {σ σ' : St} {H : Hp} {L : List (Asn G)} {D : Ends} {Q : VK} {te ta tb : TE} {α : Type} {K : PySem.W.Frag} {v : V}
/-- a tuple is laid -/
theorem k_tupP [Im G α] {vs : List V} {x : α} (hS : Sep H L) (mk : ∀ (H' : Hp) (p : Addr), H' p = some (.tup vs) → Stab G H H' → Im.im G H' (.ref p) x) (hl : vs.length ≤ sizeLine)
    (k : ∀ p H', Sep H' (imA (.ref p) x :: L) → Q (.ref p) H') : tupK Q vs H :=
  ⟨hl, fun p hp => k p _ ((hS.more (same_new hp)).addIm (mk _ p upd_same (.of_same (same_new hp))))⟩
theorem ev_ixT {a : Addr} {i : Int} {us : List V} (ha : Ev ta σ H (.ref a)) (hb : Ev tb σ H (.int i)) (h : H a = some (.tup us)) (e : atI us i = some v) : Ev (tOp (rIxT K) ta tb) σ H v :=
  ev_op ha hb fun _ q => ⟨a, us, i, v, rfl, rfl, SqT.of h, e, q⟩
/-- a field -/
theorem ev_fld {a C dx : Addr} {fs : List (Str × V)} {f : Str} (ha : Ev ta σ H (.ref a)) (h : H a = some (.ins C dx fs)) (c : Cls K C) (n : NoAttr K C f) (l : fs.lookup f = some v) : Ev (tFld K ta f) σ H v :=
  fun _ q => ha _ ⟨a, C, dx, fs, v, rfl, h, c, n, l, q⟩
end
end Ml
namespace Ml
open PySem L2
inductive Any where
  | str (s : Str) | int (i : Int) | bl (b : Bool) | non | tup (xs : List Any) | lst (xs : List Any) | oth (k : Nat)
section
variable (G : Gx)
mutual
def imAny (H : Hp) : V → Any → Prop
  | v, .str s => v = .str s
  | v, .int i => v = .int i
  | v, .bl b => v = .bl b
  | v, .non => v = .non
  | v, .tup xs => ∃ a vs, v = .ref a ∧ H a = some (.tup vs) ∧ imAnyL H vs xs
  | v, .lst xs => ∃ a vs, v = .ref a ∧ (∃ o, H a = some (.frz o (.lst vs))) ∧ imAnyL H vs xs
  | v, .oth k => ∃ a o, v = .ref a ∧ H a = some o ∧ kindOf o = k ∧ (k = 0 ∨ k = 1)
def imAnyL (H : Hp) : List V → List Any → Prop
  | [], [] => True
  | v :: vs, x :: xs => imAny H v x ∧ imAnyL H vs xs
  | _, _ => False
end
variable {G} {H H' : Hp}
mutual
theorem imAny.st : ∀ {v : V} {x : Any}, imAny H v x → Stab G H H' → imAny H' v x
  | v, .str s, h, _ => by rw [imAny] at h ⊢; exact h
  | v, .int i, h, _ => by rw [imAny] at h ⊢; exact h
  | v, .bl b, h, _ => by rw [imAny] at h ⊢; exact h
  | v, .non, h, _ => by rw [imAny] at h ⊢; exact h
  | v, .tup xs, h, s => by
    rw [imAny] at h ⊢
    obtain ⟨a, vs, e, g, m⟩ := h
    exact ⟨a, vs, e, s.1 a _ g rfl, imAnyL.st m s⟩
  | v, .lst xs, h, s => by
    rw [imAny] at h ⊢
    obtain ⟨a, vs, e, ⟨o, g⟩, m⟩ := h
    exact ⟨a, vs, e, ⟨o, s.1 a _ g rfl⟩, imAnyL.st m s⟩
  | v, .oth k, h, s => by
    rw [imAny] at h ⊢
    obtain ⟨a, o, e, g, q, z⟩ := h
    obtain ⟨o', g', q'⟩ := s.2 a o g
    exact ⟨a, o', e, g', q'.trans q, z⟩
theorem imAnyL.st : ∀ {vs : List V} {xs : List Any}, imAnyL H vs xs → Stab G H H' → imAnyL H' vs xs
  | [], [], h, _ => h
  | v :: vs, x :: xs, h, s => by
    rw [imAnyL] at h ⊢
    exact ⟨imAny.st h.1 s, imAnyL.st h.2 s⟩
  | [], _ :: _, h, _ => by rw [imAnyL] at h; exact h.elim; all_goals simp
  | _ :: _, [], h, _ => by rw [imAnyL] at h; exact h.elim; all_goals simp
end
instance imAnyI : Im G Any := ⟨fun H v x => imAny H v x, fun h s => imAny.st h s⟩
end
variable {G : Gx} {H : Hp} {L : List (Asn G)}
theorem any_str {v : V} {s : Str} : Im.im G H v (Any.str s) ↔ v = .str s := by show imAny H v (.str s) ↔ _; rw [imAny]
theorem any_int {v : V} {s : Int} : Im.im G H v (Any.int s) ↔ v = .int s := by show imAny H v (.int s) ↔ _; rw [imAny]
theorem imAnyL_eq : ∀ {vs : List V} {xs : List Any}, imAnyL H vs xs ↔ imL (G := G) H vs xs
  | [], [] => by rw [imAnyL]; exact Iff.rfl
  | v :: vs, x :: xs => by
    rw [imAnyL]
    exact and_congr_right fun _ => imAnyL_eq (vs := vs) (xs := xs)
  | [], _ :: _ => ⟨fun h => by rw [imAnyL] at h; exact h.elim; all_goals simp, fun h => h.elim⟩
  | _ :: _, [] => ⟨fun h => by rw [imAnyL] at h; exact h.elim; all_goals simp, fun h => h.elim⟩
theorem any_tup {v : V} {xs : List Any} : Im.im G H v (Any.tup xs) ↔ ∃ a vs, v = .ref a ∧ H a = some (.tup vs) ∧ imL (G := G) H vs xs := by
  show imAny H v (.tup xs) ↔ _
  rw [imAny]
  exact exists_congr fun a => exists_congr fun vs => and_congr_right fun _ => and_congr_right fun _ => imAnyL_eq
theorem any_lsts {v : V} {xs : List Any} : Im.im G H v (Any.lst xs) ↔ ∃ a vs, v = .ref a ∧ (∃ o, H a = some (.frz o (.lst vs))) ∧ imL (G := G) H vs xs := by
  show imAny H v (.lst xs) ↔ _
  rw [imAny]
  exact exists_congr fun a => exists_congr fun vs => and_congr_right fun _ => and_congr_right fun _ => imAnyL_eq
theorem any_oth {v : V} {k : Nat} : Im.im G H v (Any.oth k) ↔ ∃ a o, v = .ref a ∧ H a = some o ∧ kindOf o = k ∧ (k = 0 ∨ k = 1) := by
  show imAny H v (.oth k) ↔ _
  rw [imAny]
def Any.ty : Any → String
  | .str _ => "str"
  | .int _ => "int"
  | .bl _ => "bool"
  | .non => "NoneType"
  | .tup _ => "tuple"
  | .lst _ => "list"
  | .oth 0 => "list"
  | .oth _ => "dict"
/-- isinstance of a plain type -/
def Any.is (x : Any) (t : String) : Bool := x.ty == t || (x.ty == "bool" && t == "int")
end Ml
namespace Ml
open PySem L2
variable {G : Gx} {H : Hp} {L : List (Asn G)} {ρ : Type} {q : ρ → Prop} {e : Exc → Prop} {Q : VK} {σ : St}
theorem any_lst {α : Type} [Im G α] {i : Nat} {a : Addr} {xs : List α} (hS : Sep H L) (e : L[i]? = some (lstA a xs)) : Im.im G H (.ref a) (Any.oth 0) := by
  obtain ⟨vs, h, _⟩ := hS.lst e
  exact any_oth.mpr ⟨a, _, rfl, h, rfl, .inl rfl⟩
/-- a tuple, of things of any sort -/
theorem k_tupA {vs : List V} {xs : List Any} (hS : Sep H L) (m : imL (G := G) H vs xs) (hl : vs.length ≤ sizeLine) (k : ∀ p H', Sep H' (imA (.ref p) (Any.tup xs) :: L) → Q (.ref p) H') :
    tupK Q vs H :=
  ⟨hl, fun p hp => k p _ ((hS.more (same_new hp)).addIm (any_tup.mpr ⟨p, vs, rfl, upd_same, m.st (.of_same (same_new hp))⟩))⟩
end Ml
namespace Ml
open PySem L2
variable {G : Gx}
section
variable {α β γ δ ε : Type} [Lay α] [Lay β] [Lay γ] [Lay δ] [Lay ε]
instance layList : Lay (List α) := ⟨layAllB⟩
instance layT1 : Lay (T1 α) := ⟨fun x => Lay.lay x.a⟩
instance layT2 : Lay (α × β) := ⟨fun x => Lay.lay x.1 && Lay.lay x.2⟩
instance layT3 : Lay (T3 α β γ) := ⟨fun x => Lay.lay x.a && (Lay.lay x.b && Lay.lay x.c)⟩
instance layT4 : Lay (T4 α β γ δ) := ⟨fun x => Lay.lay x.a && (Lay.lay x.b && (Lay.lay x.c && Lay.lay x.d))⟩
instance layT5 : Lay (T5 α β γ δ ε) := ⟨fun x => Lay.lay x.a && (Lay.lay x.b && (Lay.lay x.c && (Lay.lay x.d && Lay.lay x.e)))⟩
end
section
variable {α β γ δ ε : Type} [Im G α] [DecidableEq α] [Lay α] [Pd G α] [Im G β] [DecidableEq β] [Lay β] [Pd G β] [Im G γ] [DecidableEq γ] [Lay γ] [Pd G γ] [Im G δ] [DecidableEq δ] [Lay δ] [Pd G δ] [Im G ε] [DecidableEq ε] [Lay ε] [Pd G ε]
instance pdList : Pd G (List α) where
  pd := fun xs => .list (xs.map (Pd.pd G))
  dep := Pd.dep G α + 1
  dp := fun {H v x} h => by
    obtain ⟨a, vs, rfl, ⟨o, g⟩, m⟩ := h
    exact .lst (.inl (.inr ⟨o, g⟩)) (dpAll m)
  lay_ok := fun x h => layAll (G := G) h
  dep_ok := fun x => Nat.succ_le_succ (depAll (G := G) x)
  eqv := fun x y => eqvAll_is x y
theorem canTup (ds : List PyData) : (PyData.tuple ds).canLay0 = PyData.canLayAll0 ds := rfl
theorem canCons (d : PyData) (ds : List PyData) : PyData.canLayAll0 (d :: ds) = (d.canLay0 && PyData.canLayAll0 ds) := rfl
theorem depTup (ds : List PyData) : (PyData.tuple ds).depth = PyData.depthAll ds + 1 := rfl
theorem depCons (d : PyData) (ds : List PyData) : PyData.depthAll (d :: ds) = max d.depth (PyData.depthAll ds) := rfl
theorem depNil : PyData.depthAll [] = 0 := rfl
theorem eqvTup (ds es : List PyData) : PyData.eqv (.tuple ds) (.tuple es) = PyData.eqvAll ds es := rfl
theorem eqvCons (d e : PyData) (ds es : List PyData) : PyData.eqvAll (d :: ds) (e :: es) = (PyData.eqv d e && PyData.eqvAll ds es) := rfl
theorem eqvNil : PyData.eqvAll [] [] = true := rfl
instance pdT1 : Pd G (T1 α) where
  pd := fun x => .tuple [Pd.pd G x.a]
  dep := Pd.dep G α + 1
  dp := fun {H v x} h => by
    obtain ⟨a, u1, rfl, g, i1⟩ := h
    exact .tup (SqT.of g) (.cons (Pd.dp i1) .nil)
  lay_ok := fun x h => by rw [canTup, canCons, Pd.lay_ok x.a h]; rfl
  dep_ok := fun x => by
    rw [depTup, depCons, depNil]
    have := Pd.dep_ok (G := G) x.a
    omega
  eqv := fun x y => by
    rw [eqvTup, eqvCons, eqvNil, Pd.eqv]
    obtain ⟨a⟩ := x; obtain ⟨b⟩ := y
    simp
instance pdT2 : Pd G (α × β) where
  pd := fun x => .tuple [Pd.pd G x.1, Pd.pd G x.2]
  dep := max (Pd.dep G α) (Pd.dep G β) + 1
  dp := fun {H v x} h => by
    obtain ⟨a, u1, u2, rfl, g, i1, i2⟩ := h
    exact .tup (SqT.of g) (.cons (Pd.dp i1) (.cons (Pd.dp i2) .nil))
  lay_ok := fun x h => by
    have h : (Lay.lay x.1 && Lay.lay x.2) = true := h
    rw [Bool.and_eq_true] at h
    rw [canTup, canCons, canCons, Pd.lay_ok x.1 h.1, Pd.lay_ok x.2 h.2]; rfl
  dep_ok := fun x => by
    rw [depTup, depCons, depCons, depNil]
    have := Pd.dep_ok (G := G) x.1
    have := Pd.dep_ok (G := G) x.2
    omega
  eqv := fun x y => by
    rw [eqvTup, eqvCons, eqvCons, eqvNil, Pd.eqv, Pd.eqv]
    obtain ⟨a, b⟩ := x; obtain ⟨c, d⟩ := y
    simp
instance pdT3 : Pd G (T3 α β γ) where
  pd := fun x => .tuple [Pd.pd G x.a, Pd.pd G x.b, Pd.pd G x.c]
  dep := max (Pd.dep G α) (max (Pd.dep G β) (Pd.dep G γ)) + 1
  dp := fun {H v x} h => by
    obtain ⟨a, u1, u2, u3, rfl, g, i1, i2, i3⟩ := h
    exact .tup (SqT.of g) (.cons (Pd.dp i1) (.cons (Pd.dp i2) (.cons (Pd.dp i3) .nil)))
  lay_ok := fun x h => by
    have h : (Lay.lay x.a && (Lay.lay x.b && Lay.lay x.c)) = true := h
    simp only [Bool.and_eq_true] at h
    rw [canTup, canCons, canCons, canCons, Pd.lay_ok x.a h.1, Pd.lay_ok x.b h.2.1, Pd.lay_ok x.c h.2.2]; rfl
  dep_ok := fun x => by
    rw [depTup, depCons, depCons, depCons, depNil]
    have := Pd.dep_ok (G := G) x.a
    have := Pd.dep_ok (G := G) x.b
    have := Pd.dep_ok (G := G) x.c
    omega
  eqv := fun x y => by
    rw [eqvTup, eqvCons, eqvCons, eqvCons, eqvNil, Pd.eqv, Pd.eqv, Pd.eqv]
    obtain ⟨a, b, c⟩ := x; obtain ⟨d, e, f⟩ := y
    simp
instance pdT4 : Pd G (T4 α β γ δ) where
  pd := fun x => .tuple [Pd.pd G x.a, Pd.pd G x.b, Pd.pd G x.c, Pd.pd G x.d]
  dep := max (Pd.dep G α) (max (Pd.dep G β) (max (Pd.dep G γ) (Pd.dep G δ))) + 1
  dp := fun {H v x} h => by
    obtain ⟨a, u1, u2, u3, u4, rfl, g, i1, i2, i3, i4⟩ := h
    exact .tup (SqT.of g) (.cons (Pd.dp i1) (.cons (Pd.dp i2) (.cons (Pd.dp i3) (.cons (Pd.dp i4) .nil))))
  lay_ok := fun x h => by
    have h : (Lay.lay x.a && (Lay.lay x.b && (Lay.lay x.c && Lay.lay x.d))) = true := h
    simp only [Bool.and_eq_true] at h
    rw [canTup, canCons, canCons, canCons, canCons, Pd.lay_ok x.a h.1, Pd.lay_ok x.b h.2.1, Pd.lay_ok x.c h.2.2.1, Pd.lay_ok x.d h.2.2.2]; rfl
  dep_ok := fun x => by
    rw [depTup, depCons, depCons, depCons, depCons, depNil]
    have := Pd.dep_ok (G := G) x.a
    have := Pd.dep_ok (G := G) x.b
    have := Pd.dep_ok (G := G) x.c
    have := Pd.dep_ok (G := G) x.d
    omega
  eqv := fun x y => by
    rw [eqvTup, eqvCons, eqvCons, eqvCons, eqvCons, eqvNil, Pd.eqv, Pd.eqv, Pd.eqv, Pd.eqv]
    obtain ⟨a, b, c, d⟩ := x; obtain ⟨a', b', c', d'⟩ := y
    simp
instance pdT5 : Pd G (T5 α β γ δ ε) where
  pd := fun x => .tuple [Pd.pd G x.a, Pd.pd G x.b, Pd.pd G x.c, Pd.pd G x.d, Pd.pd G x.e]
  dep := max (Pd.dep G α) (max (Pd.dep G β) (max (Pd.dep G γ) (max (Pd.dep G δ) (Pd.dep G ε)))) + 1
  dp := fun {H v x} h => by
    obtain ⟨a, u1, u2, u3, u4, u5, rfl, g, i1, i2, i3, i4, i5⟩ := h
    exact .tup (SqT.of g) (.cons (Pd.dp i1) (.cons (Pd.dp i2) (.cons (Pd.dp i3) (.cons (Pd.dp i4) (.cons (Pd.dp i5) .nil)))))
  lay_ok := fun x h => by
    have h : (Lay.lay x.a && (Lay.lay x.b && (Lay.lay x.c && (Lay.lay x.d && Lay.lay x.e)))) = true := h
    simp only [Bool.and_eq_true] at h
    rw [canTup, canCons, canCons, canCons, canCons, canCons, Pd.lay_ok x.a h.1, Pd.lay_ok x.b h.2.1, Pd.lay_ok x.c h.2.2.1, Pd.lay_ok x.d h.2.2.2.1, Pd.lay_ok x.e h.2.2.2.2]; rfl
  dep_ok := fun x => by
    rw [depTup, depCons, depCons, depCons, depCons, depCons, depNil]
    have := Pd.dep_ok (G := G) x.a
    have := Pd.dep_ok (G := G) x.b
    have := Pd.dep_ok (G := G) x.c
    have := Pd.dep_ok (G := G) x.d
    have := Pd.dep_ok (G := G) x.e
    omega
  eqv := fun x y => by
    rw [eqvTup, eqvCons, eqvCons, eqvCons, eqvCons, eqvCons, eqvNil, Pd.eqv, Pd.eqv, Pd.eqv, Pd.eqv, Pd.eqv]
    obtain ⟨a, b, c, d, e⟩ := x; obtain ⟨a', b', c', d', e'⟩ := y
    simp
end
section
variable {α : Type} [Im G α] [DecidableEq α] [Lay α] [Pd G α] {H : Hp} {L : List (Asn G)} {σ : St} {ta tb : TE} {Q : VK} {v w : V} {x y : α}
theorem shapedP (h : Lay.lay x = true) (d : Pd.dep G α ≤ 64) : SeqAt.shaped (Pd.pd G x) = true := by
  unfold SeqAt.shaped
  rw [Pd.lay_ok x h, decide_eq_true (Nat.le_trans (Pd.dep_ok x) d)]; rfl
/-- the data of a list that one owns -/
theorem dpOwn {i : Nat} {a : Addr} {xs : List α} (hS : Sep H L) (e : L[i]? = some (lstA a xs)) : Dp G.K H (.ref a) (Pd.pd G xs) := by
  obtain ⟨vs, s, m⟩ := hS.sq e
  exact .lst s (dpAll m)
theorem ev_eqP (ha : Ev ta σ H v) (hb : Ev tb σ H w) (d1 : Dp G.K H v (Pd.pd G x)) (d2 : Dp G.K H w (Pd.pd G y)) (l1 : Lay.lay x = true) (l2 : Lay.lay y = true) (d : Pd.dep G α ≤ 64) :
    Ev (tOp (rEqD G.K) ta tb) σ H (.bl (decide (x = y))) := ev_op ha hb fun Q q => by
  refine ⟨_, _, d1, d2, shapedP l1 d, shapedP l2 d, ?_⟩
  rw [Pd.eqv]; exact q
theorem ev_neP (ha : Ev ta σ H v) (hb : Ev tb σ H w) (d1 : Dp G.K H v (Pd.pd G x)) (d2 : Dp G.K H w (Pd.pd G y)) (l1 : Lay.lay x = true) (l2 : Lay.lay y = true) (d : Pd.dep G α ≤ 64) :
    Ev (tOp (rNeD G.K) ta tb) σ H (.bl (!decide (x = y))) := ev_op ha hb fun Q q => by
  refine ⟨_, _, d1, d2, shapedP l1 d, shapedP l2 d, ?_⟩
  rw [Pd.eqv]; exact q
end
mutual
def pdA : Any → PyData
  | .str s => .str s
  | .int i => .int i
  | .bl b => .bool b
  | .non => .none
  | .tup xs => .tuple (pdAL xs)
  | .lst xs => .list (pdAL xs)
  | .oth _ => .none
def pdAL : List Any → List PyData
  | [] => []
  | x :: xs => pdA x :: pdAL xs
end
mutual
def plA : Any → Bool
  | .tup xs => plAL xs
  | .lst xs => plAL xs
  | .oth _ => false
  | _ => true
def plAL : List Any → Bool
  | [] => true
  | x :: xs => plA x && plAL xs
end
section
variable {H : Hp}
mutual
theorem dpA : ∀ {v : V} {x : Any}, imAny H v x → plA x = true → Dp G.K H v (pdA x)
  | v, .str s, h, _ => by rw [imAny] at h; subst h; rw [pdA]; exact .str s
  | v, .int s, h, _ => by rw [imAny] at h; subst h; rw [pdA]; exact .int s
  | v, .bl s, h, _ => by rw [imAny] at h; subst h; rw [pdA]; exact .bl s
  | v, .non, h, _ => by rw [imAny] at h; subst h; rw [pdA]; exact .non
  | v, .tup xs, h, l => by
    rw [imAny] at h; rw [plA] at l; rw [pdA]
    obtain ⟨a, vs, rfl, g, m⟩ := h
    exact .tup (SqT.of g) (dpAL m l)
  | v, .lst xs, h, l => by
    rw [imAny] at h; rw [plA] at l; rw [pdA]
    obtain ⟨a, vs, rfl, ⟨o, g⟩, m⟩ := h
    exact .lst (.inl (.inr ⟨o, g⟩)) (dpAL m l)
  | v, .oth k, h, l => by rw [plA] at l; cases l
theorem dpAL : ∀ {vs : List V} {xs : List Any}, imAnyL H vs xs → plAL xs = true → DpAll G.K H vs (pdAL xs)
  | [], [], h, _ => by rw [pdAL]; exact .nil
  | v :: vs, x :: xs, h, l => by
    rw [imAnyL] at h; rw [plAL, Bool.and_eq_true] at l; rw [pdAL]
    exact .cons (dpA h.1 l.1) (dpAL h.2 l.2)
  | [], _ :: _, h, _ => by rw [imAnyL] at h; exact h.elim; all_goals simp
  | _ :: _, [], h, _ => by rw [imAnyL] at h; exact h.elim; all_goals simp
end
end
/-- x == y of things of any sort -/
def eqA (x y : Any) : R Bool := R.need (plA x = true ∧ plA y = true ∧ SeqAt.shaped (pdA x) = true ∧ SeqAt.shaped (pdA y) = true) (.ok (PyData.eqv (pdA x) (pdA y)))
section
variable {H : Hp} {σ : St} {ta tb : TE} {Q : VK} {v w : V} {x y : Any} {ρ : Type} {q : ρ → Prop} {e : Exc → Prop}
theorem wp_eqA {f : Bool → R ρ} (h : R.wp ((eqA x y).bind f) q e) : ∃ b, (plA x = true ∧ plA y = true ∧ SeqAt.shaped (pdA x) = true ∧ SeqAt.shaped (pdA y) = true ∧ b = PyData.eqv (pdA x) (pdA y)) ∧ R.wp (f b) q e := by
  unfold eqA R.need at h
  by_cases c : plA x = true ∧ plA y = true ∧ SeqAt.shaped (pdA x) = true ∧ SeqAt.shaped (pdA y) = true
  · rw [if_pos c] at h; exact ⟨_, ⟨c.1, c.2.1, c.2.2.1, c.2.2.2, rfl⟩, h⟩
  · rw [if_neg c] at h; exact h.elim
theorem ev_neA {b : Bool} (ha : Ev ta σ H v) (hb : Ev tb σ H w) (i1 : Im.im G H v x) (i2 : Im.im G H w y) (h : plA x = true ∧ plA y = true ∧ SeqAt.shaped (pdA x) = true ∧ SeqAt.shaped (pdA y) = true ∧ b = PyData.eqv (pdA x) (pdA y)) :
    Ev (tOp (rNeD G.K) ta tb) σ H (.bl (!b)) := ev_op ha hb fun Q q => by
  obtain ⟨h1, h2, h3, h4, rfl⟩ := h
  exact ⟨_, _, dpA i1 h1, dpA i2 h2, h3, h4, q⟩
end
end Ml
namespace L2
open PySem PySem.Spec PyProof.Rows
/-- list + list, either may be locked -/
def rCatR : R2 := fun x y H Q => ∃ l b xs zs, x = .ref l ∧ y = .ref b ∧ Rd H l (.lst xs) ∧ Rd H b (.lst zs) ∧ xs.length + zs.length ≤ sizeLine ∧ ∀ p, H p = none → Q (.ref p) (upd H p (.lst (xs ++ zs)))
theorem op_catR {X : Cx} : OpR X (binaryOp .Add) rCatR := by
  intro pins s σ H x y v u Q I rx ry h
  obtain ⟨l, b, xs, zs, rfl, rfl, hH, hB, hz, q⟩ := h
  cases rx
  cases ry
  obtain ⟨z, its, n, r, e⟩ := hH.ok I.hok
  obtain ⟨z2, its2, n2, r2, e2⟩ := hB.ok I.hok
  have hl := r.length
  have hl2 := r2.length
  refine PySem.P.add_list e e2 ?_ (by rw [List.size_toArray, List.size_toArray]; omega)
  have ea : its.toArray ++ its2.toArray = (its ++ its2).toArray := by simp
  rw [ea]
  exact ⟨.ref _, _, I.lnew (t' := s.toks) (r.append r2) (by rw [List.length_append]; omega), rfl, q _ I.fresh⟩
end L2
namespace Ml
open PySem L2
namespace R
variable {α β ρ : Type} {q : α → Prop} {e : Exc → Prop}
def noexc : R α → R α
  | .ok a => .ok a
  | _ => .bad
theorem wp_noexc {m : R α} {f : α → R β} {q : β → Prop} (h : wp ((noexc m).bind f) q e) : wp m (fun a => wp (f a) q e) (fun _ => False) := by
  cases m with
  | ok a => exact h
  | exc x => exact h.elim
  | bad => exact h.elim
end R
def contF {σ ρ β : Type} (k : σ → R β) (o : ρ → R β) : Fl σ ρ → R β
  | .go s => k s
  | .brk s => k s
  | .out r => o r
/-- an exception as it is wished for -/
def Eok (G : Gx) (x : Exc) (E : XK) (H : Hp) : Prop := E (.ref (G.cl x.cls)) none H
variable {G : Gx}
section
variable {σ σ' : St} {H : Hp} {L L' : List (Asn G)} {D : Ends} {Q : VK} {te ta tb : TE} {α β τ ρ : Type} {v w : V} {q : ρ → Prop} {e : Exc → Prop}
theorem k_catG [Im G α] {a b : Addr} {xs ys : List α} (hS : Sep H L) (h1 : ∃ vs, Rd H a (.lst vs) ∧ imL (G := G) H vs xs) (h2 : ∃ vs, Rd H b (.lst vs) ∧ imL (G := G) H vs ys) (z : xs.length + ys.length ≤ sizeLine)
    (k : ∀ p H', Sep H' (lstA p (xs ++ ys) :: L) → Q (.ref p) H') : rCatR (.ref a) (.ref b) H Q := by
  obtain ⟨vs, r1, m1⟩ := h1
  obtain ⟨ws, r2, m2⟩ := h2
  exact ⟨a, b, vs, ws, rfl, rfl, r1, r2, by rw [m1.len, m2.len]; exact z, fun p hp => k p _ (hS.newL hp (m1.app m2))⟩
theorem k_slG [Im G α] {a : Addr} {xs : List α} {lo hi : Option Int} (hS : Sep H L) (h : ∃ vs, SqL G.K H a vs ∧ imL (G := G) H vs xs)
    (k : ∀ p H', Sep H' (lstA p (cutL xs lo hi) :: L) → Q (.ref p) H') : rSlL G.K (.ref a) lo hi H Q := by
  obtain ⟨vs, h, m⟩ := h
  exact ⟨a, vs, rfl, h, fun p hp => k p _ (hS.newL hp (cutL_im m))⟩
theorem k_ilG [Im G α] {a : Addr} {xs : List α} {R : It → Hp → Prop} (h : ∃ vs, SqL G.K H a vs ∧ imL (G := G) H vs xs) (k : R (Itl G.K a) H) : ilK G.K R (.ref a) H := by
  obtain ⟨vs, s, _⟩ := h
  exact ⟨a, rfl, ⟨vs, s⟩, k⟩
theorem k_lenG [Im G α] {a : Addr} {xs : List α} (h : ∃ vs, SqL G.K H a vs ∧ imL (G := G) H vs xs) (q : Q (.int xs.length) H) : rLenSq G.K [.ref a] H Q := by
  obtain ⟨vs, s, m⟩ := h
  exact ⟨a, vs, rfl, .inl s, by rw [m.len]; exact q⟩
theorem ev_niPl {x : Str} {ys : List Str} {a : Addr} (h : Im.im G H (.ref a) ys) (ha : Ev ta σ H (.str x)) (hb : Ev tb σ H (.ref a)) : Ev (tOp (rIn G.K true) ta tb) σ H (.bl (!decide (x ∈ ys))) := ev_op ha hb fun Q q =>
  ⟨a, ys.map V.str, rfl, .inl (imPlF h), rfl, flat_str ys, by
    show Q (.bl (!inV (.str x) (ys.map V.str))) H
    rw [inV_str]; exact q⟩
/-- the rule on values alone -/
theorem ev_op2 {r : R2} {x y : V} (h : Ev (tOp r (tC x) (tC y)) [] H v) (q : Q v H) : r x y H Q := h Q q
theorem imL_strs : ∀ (ys : List Str), imL (G := G) H (ys.map V.str) ys
  | [] => True.intro
  | y :: ys => ⟨rfl, imL_strs ys⟩
theorem imL.erase [Im G α] : ∀ {vs : List V} {xs : List α} (n : Nat), imL (G := G) H vs xs → imL (G := G) H (vs.eraseIdx n) (xs.eraseIdx n)
  | [], [], n, _ => by simp [imL]
  | v :: vs, x :: xs, 0, h => h.2
  | v :: vs, x :: xs, n + 1, h => ⟨h.1, imL.erase n h.2⟩
  | [], _ :: _, _, h => h.elim
  | _ :: _, [], _, h => h.elim
theorem Sep.newI {C x dx : Addr} (h : Sep H L) (hx : H x = none) (hd : H dx = none) (ne : dx ≠ x) (n : ¬ G.fz C = some 0) : Sep (upd (upd H dx (.own x)) x (.ins C dx [])) (cell x (.ins C dx []) :: L) := by
  have h1 := h.more (same_new (o := HO.own x) hd)
  refine h1.new (o := .ins C dx []) (by rw [upd_ne (Ne.symm ne)]; exact hx) ?_
  show decide (G.fz C = some 0) = false
  exact decide_eq_false n
theorem c_sfld {K : PySem.W.Frag} {f : Str} (h : tb σ H fun y H1 => ta σ H1 fun x H2 => ∃ a C dx fs, x = .ref a ∧ H2 a = some (.ins C dx fs) ∧ Cls K C ∧ NoAttr K C f ∧ fs.length < 1000 ∧ D.nx σ (upd H2 a (.ins C dx (putF f y fs)))) : sFld K ta tb f D σ H := h
theorem k_sfld {K : PySem.W.Frag} {i : Nat} {a C dx : Addr} {fs fs' : List (Str × V)} {f : Str} {y : V} (hS : Sep H L) (e : L[i]? = some (cell a (.ins C dx fs))) (c : Cls K C) (n : NoAttr K C f) (ef : putF f y fs = fs') (hl : fs.length < 1000)
    (np : per G (.ins C dx fs') = false) (eL : L.set i (cell a (.ins C dx fs')) = L') (k : ∀ H', Sep H' L' → D.nx σ H') :
    ∃ a' C' dx' fs'', V.ref a = .ref a' ∧ H a' = some (.ins C' dx' fs'') ∧ Cls K C' ∧ NoAttr K C' f ∧ fs''.length < 1000 ∧ D.nx σ (upd H a' (.ins C' dx' (putF f y fs''))) := by
  refine ⟨a, C, dx, fs, rfl, hS.getCell e, c, n, hl, ?_⟩
  rw [ef]
  refine k _ ?_
  subst eL
  exact hS.put e np rfl
theorem c_meth {C : Addr} {m : Str} {sp : Sp} {dvs : List V} {E : XK} {t : TA} (h : ta σ H fun x H1 => ∃ a dx fs, x = .ref a ∧ H1 a = some (.ins C dx fs) ∧ fs.lookup m = none ∧ t σ H1 fun vs H2 => sp (x :: (vs ++ dvs)) H2 Q E) : tMeth C m sp dvs E ta t σ H Q := h
theorem c_make {C : Addr} {sp : Sp} {dvs : List V} {E : XK} {t : TA} (h : t σ H fun vs H1 => ∀ x dx, H1 x = none → H1 dx = none → dx ≠ x → sp (.ref x :: (vs ++ dvs)) (upd (upd H1 dx (.own x)) x (.ins C dx [])) (fun v H2 => v = .non ∧ Q (.ref x) H2) E) : tMake C sp dvs E t σ H Q := h
theorem k_forF {J : It} {g : TG} {tb : TS} {im : Hp → V → α → Prop} {xs : List α} {f : τ → α → R (Fl τ ρ)} {β : Type} {rest : τ → R β} {o : ρ → R β} {q : β → Prop} {e : Exc → Prop} {s : τ} (I : τ → L2.St → Hp → Prop)
    (w : ∀ s, Wk J (I s) im xs) (h0 : I s σ H) (hm : R.wp ((forF f xs s).bind (contF rest o)) q e)
    (turn : ∀ (s : τ) (x : α) (v : V) (σ : L2.St) (H : Hp) (q' : Fl τ ρ → Prop) (N B : L2.St → Hp → Prop), I s σ H → im H v x → R.wp (f s x) q' e → (∀ s' σ' H', q' (.go s') → I s' σ' H' → N σ' H') → (∀ s' σ' H', q' (.brk s') → I s' σ' H' → B σ' H') → (∀ r, q' (.out r) → R.wp (o r) q e) →
      g v σ H fun σ2 H2 => tb (loopD D N B) σ2 H2)
    (done : ∀ s σ H, R.wp (rest s) q e → I s σ H → D.nx σ H) : forK g tb D σ J H :=
  for_walkF (D := D) (I := I) (k := fun r => R.wp (contF rest o r) q e) w h0 (R.wp_bind hm) (fun s x v σ H q' N B hI hv hw h1 h2 h3 => turn s x v σ H q' N B hI hv hw h1 h2 h3) (fun s σ H h hI => done s σ H h hI)
theorem k_gT {K : PySem.W.Frag} {n : Nat} {t : TGs} {a : Addr} {us : List V} {P : St → Hp → Prop} (h : H a = some (.tup us)) (hl : us.length = n := by rfl) (k : t us σ H P) : gTup K n t (.ref a) σ H P := ⟨a, us, rfl, SqT.of h, hl, k⟩
theorem k_gC {i : Nat} {u : TGs} {us : List V} {P : St → Hp → Prop} (e : σ.set i (some v) = σ') (k : u us σ' H P) : gCons (gName i) u (v :: us) σ H P := ⟨v, us, rfl, by show u us (σ.set i (some v)) H P; rw [e]; exact k⟩
theorem k_gE {P : St → Hp → Prop} (k : P σ H) : gNil [] σ H P := ⟨rfl, k⟩
end
section
variable {X : Cx} (K : PySem.W.Frag) (hK : X.K = K := by rfl)
include hK
theorem pg_tupK {es : List Expr} {k : Nat} {pos : Pos} {t : TGs} {n : Nat} (hc : X.calm = true) (h : PGs X es t) (hn : (assignEach es X.env).length = n := by rfl) (hst : (assignEach es X.env).findIdx? (·.1) = none := by rfl) : PG X (.Tuple es k pos) (gTup K n t) := by
  subst hK; exact pg_tup hc h hn hst
end
end Ml
namespace L2
open PySem PySem.Spec PyProof.Rows
end L2
namespace Ml
open PySem PySem.Spec PyProof.Rows L2
end Ml
namespace Ml
open PySem L2
section
variable {α β σ ρ : Type}
theorem forR_ok {f : σ → α → R σ} (I : List α → σ → Prop) : ∀ {xs : List α} {s : σ} (pre : List α), I pre s → (∀ p x q s, pre ++ xs = p ++ x :: q → I p s → ∃ s', f s x = .ok s' ∧ I (p ++ [x]) s') → ∃ s', forR f xs s = .ok s' ∧ I (pre ++ xs) s'
  | [], s, pre, h0, _ => ⟨s, rfl, by rw [List.append_nil]; exact h0⟩
  | x :: xs, s, pre, h0, hs => by
    obtain ⟨s1, e1, h1⟩ := hs pre x xs s rfl h0
    obtain ⟨s2, e2, h2⟩ := forR_ok I (xs := xs) (s := s1) (pre ++ [x]) h1 fun p y q s e => hs p y q s (by rw [← e]; simp)
    refine ⟨s2, ?_, by rw [List.append_assoc] at h2; exact h2⟩
    show (f s x).bind _ = _
    rw [e1, R.bind_ok]; exact e2
theorem forR_inv {f : σ → α → R σ} {xs : List α} {s : σ} (I : List α → σ → Prop) (h0 : I [] s) (hs : ∀ p x q s, xs = p ++ x :: q → I p s → ∃ s', f s x = .ok s' ∧ I (p ++ [x]) s') : ∃ s', forR f xs s = .ok s' ∧ I xs s' := by
  obtain ⟨s', h1, h2⟩ := forR_ok I (xs := xs) (s := s) [] h0 fun p x q s e => hs p x q s (by simpa using e)
  exact ⟨s', h1, by simpa using h2⟩
/-- an invariant that does not look at the place -/
theorem forR_keep {f : σ → α → R σ} {xs : List α} {s : σ} (I : σ → Prop) (h0 : I s) (hs : ∀ x s, x ∈ xs → I s → ∃ s', f s x = .ok s' ∧ I s') : ∃ s', forR f xs s = .ok s' ∧ I s' :=
  forR_inv (fun _ s => I s) h0 fun p x q s e h => hs x s (by rw [e]; simp) h
theorem forF_inv {f : σ → α → R (Fl σ ρ)} (I : List α → σ → Prop) : ∀ {xs : List α} {s : σ} (pre : List α), I pre s → (∀ p x q s, pre ++ xs = p ++ x :: q → I p s → ∃ s', f s x = .ok (.go s') ∧ I (p ++ [x]) s') → ∃ s', forF f xs s = .ok (.go s') ∧ I (pre ++ xs) s'
  | [], s, pre, h0, _ => ⟨s, rfl, by rw [List.append_nil]; exact h0⟩
  | x :: xs, s, pre, h0, hs => by
    obtain ⟨s1, e1, h1⟩ := hs pre x xs s rfl h0
    obtain ⟨s2, e2, h2⟩ := forF_inv I (xs := xs) (s := s1) (pre ++ [x]) h1 fun p y q s e => hs p y q s (by rw [← e]; simp)
    refine ⟨s2, ?_, by rw [List.append_assoc] at h2; exact h2⟩
    show (f s x).bind _ = _
    rw [e1, R.bind_ok]; exact e2
/-- the loop goes on to its end -/
theorem forF_keep {f : σ → α → R (Fl σ ρ)} {xs : List α} {s : σ} (I : σ → Prop) (h0 : I s) (hs : ∀ x s, x ∈ xs → I s → ∃ s', f s x = .ok (.go s') ∧ I s') : ∃ s', forF f xs s = .ok (.go s') ∧ I s' := by
  obtain ⟨s', h1, h2⟩ := forF_inv (fun _ s => I s) (xs := xs) (s := s) [] h0 fun p x q s e h => hs x s (by rw [List.nil_append] at e; rw [e]; simp) h
  exact ⟨s', h1, h2⟩
theorem compR_map {f : Unit → α → R (Unit × Option β)} {g : α → β} {xs : List α} (h : ∀ x, x ∈ xs → f () x = .ok ((), some (g x))) : compR f xs () = .ok ((), xs.map g) := by
  induction xs with
  | nil => rfl
  | cons x xs ih =>
    show (f () x).bind _ = _
    rw [h x (by simp), R.bind_ok, ih fun y hy => h y (by simp [hy])]
    rfl
theorem compR_filterMap {f : Unit → α → R (Unit × Option β)} {g : α → Option β} {xs : List α} (h : ∀ x, x ∈ xs → f () x = .ok ((), g x)) : compR f xs () = .ok ((), xs.filterMap g) := by
  induction xs with
  | nil => rfl
  | cons x xs ih =>
    show (f () x).bind _ = _
    rw [h x (by simp), R.bind_ok, ih fun y hy => h y (by simp [hy])]
    cases e : g x with
    | none => simp [e]
    | some y => simp [e]
theorem compR_all {f : Unit → α → R (Unit × Option β)} {xs : List α} (P : β → Prop) (h : ∀ x, x ∈ xs → ∃ y, f () x = .ok ((), some y) ∧ P y) : ∃ ys, compR f xs () = .ok ((), ys) ∧ ys.length = xs.length ∧ ∀ y, y ∈ ys → P y := by
  induction xs with
  | nil => exact ⟨[], rfl, rfl, by simp⟩
  | cons x xs ih =>
    obtain ⟨y, e, p⟩ := h x (by simp)
    obtain ⟨ys, e2, l, q⟩ := ih fun z hz => h z (by simp [hz])
    refine ⟨y :: ys, ?_, by simp [l], fun z hz => ?_⟩
    · show (f () x).bind _ = _
      rw [e, R.bind_ok, e2]; rfl
    · rcases List.mem_cons.mp hz with rfl | hz
      · exact p
      · exact q z hz
theorem idxR_mem {xs : List α} {i : Int} (h0 : 0 ≤ i) (h1 : i < xs.length) : ∃ x, idxR xs i = .ok x ∧ x ∈ xs ∧ xs[i.toNat]? = some x := by
  obtain ⟨x, h, _⟩ := atI_ok h0 h1
  exact ⟨x, idxR_ok h0 h, List.mem_of_getElem? h, h⟩
theorem ixR_ok {xs : List α} {i : Int} (h0 : 0 ≤ i) (h1 : i < xs.length) : ixR xs i = .ok i.toNat := by
  unfold ixR ixN
  rw [if_pos h0, if_pos h1]
theorem mem_set {xs : List α} {j : Nat} {v x : α} (h : x ∈ xs.set j v) : x ∈ xs ∨ x = v := by
  rcases List.mem_or_eq_of_mem_set h with h | h
  · exact .inl h
  · exact .inr h
theorem cutL_sub {xs : List α} {lo hi : Option Int} : (cutL xs lo hi).Sublist xs := (List.take_sublist _ _).trans (List.drop_sublist _ _)
theorem cutL_mem {xs : List α} {lo hi : Option Int} {x : α} (h : x ∈ cutL xs lo hi) : x ∈ xs := cutL_sub.subset h
theorem cutL_len {xs : List α} {lo hi : Option Int} : (cutL xs lo hi).length ≤ xs.length := cutL_sub.length_le
theorem sIx_nn {n d : Nat} {i : Int} (h : 0 ≤ i) : HT.sIx n d (some i) = min i.toNat n := by
  show (if i < 0 then (i + (n : Int)).toNat else min i.toNat n) = _
  rw [if_neg (by omega)]
theorem cutL_to {xs : List α} {i : Int} (h : 0 ≤ i) : cutL xs none (some i) = xs.take i.toNat := by
  unfold cutL
  rw [sIx_nn h, HT.sIx_none, List.drop_zero, Nat.sub_zero]
  by_cases c : i.toNat ≤ xs.length
  · rw [Nat.min_eq_left c]
  · rw [Nat.min_eq_right (by omega), List.take_of_length_le (Nat.le_refl _), List.take_of_length_le (by omega)]
theorem cutL_from {xs : List α} {i : Int} (h : 0 ≤ i) : cutL xs (some i) none = xs.drop i.toNat := by
  unfold cutL
  rw [sIx_nn h, HT.sIx_none]
  by_cases c : i.toNat ≤ xs.length
  · rw [Nat.min_eq_left c, List.take_of_length_le (by rw [List.length_drop]; exact Nat.le_refl _)]
  · rw [Nat.min_eq_right (by omega), List.drop_length, List.drop_of_length_le (by omega), List.take_nil]
theorem rngL_mem {lo x : Int} {n : Nat} (h : x ∈ rngL lo n) : lo ≤ x ∧ x < lo + n := by
  unfold rngL at h
  obtain ⟨i, hi, rfl⟩ := List.mem_map.mp h
  have := List.mem_range.mp hi
  omega
end
theorem len_app (a b : Str) : (a ++ b).length = a.length + b.length := by
  show (a.cps ++ b.cps).size = a.cps.size + b.cps.size
  rw [Array.size_append]
theorem tl_app (a b : Str) : (a ++ b).cps.toList = a.cps.toList ++ b.cps.toList := by
  show (a.cps ++ b.cps).toList = _
  rw [Array.toList_append]
theorem len_tl (x : Str) : x.length = x.cps.toList.length := by simp [Str.length]
/-- all signs below 128 -/
def Asc (x : Str) : Prop := ∀ c, c ∈ x.cps.toList → c < 128
theorem Asc.app {a b : Str} (ha : Asc a) (hb : Asc b) : Asc (a ++ b) := fun c hc => by
  rw [tl_app] at hc
  rcases List.mem_append.mp hc with h | h
  · exact ha c h
  · exact hb c h
theorem Asc.lit {x : Str} (h : x.cps.toList.all (· < 128) = true) : Asc x := fun c hc => by
  have := List.all_eq_true.mp h c hc
  simpa using this
theorem Asc.lay {x : Str} (h : Asc x) : (Lay.lay x : Bool) = true := by
  show PyData.strOk x = true
  unfold PyData.strOk
  rw [← Array.all_toList]
  exact List.all_eq_true.mpr fun c hc => decide_eq_true (Nat.lt_trans (h c hc) (by decide))
theorem joinL_nil : ∀ ls : List (List Nat), TL.joinL [] ls = ls.flatten
  | [] => rfl
  | [l] => by simp [TL.joinL]
  | l :: m :: r => by
    rw [TL.joinL, joinL_nil (m :: r)]; simp
theorem join_nil (ys : List Str) : (Txt.join ("" : Str) ys).cps.toList = (ys.map fun y => y.cps.toList).flatten := by
  rw [TL.join_eq]
  have ej := TL.tl_join ("" : Str) ys
  have e0 : TL.tl ("" : Str) = [] := by decide
  rw [e0, joinL_nil] at ej
  exact ej
theorem len_join_nil (ys : List Str) : (Txt.join ("" : Str) ys).length = (ys.map (·.length)).sum := by
  rw [len_tl, join_nil, List.length_flatten, List.map_map]
  exact congrArg List.sum (List.map_congr_left fun y _ => (len_tl y).symm)
theorem Asc.join {ys : List Str} (h : ∀ y, y ∈ ys → Asc y) : Asc (Txt.join ("" : Str) ys) := fun c hc => by
  rw [join_nil] at hc
  obtain ⟨l, hl, hc⟩ := List.mem_flatten.mp hc
  obtain ⟨y, hy, rfl⟩ := List.mem_map.mp hl
  exact h y hy c hc
theorem log2_small {i : Int} (h0 : -1000000000000 < i) (h1 : i < 1000000000000) : i.natAbs.log2 < 1920 := by
  have h : i.natAbs < 2 ^ 40 := by omega
  by_cases z : i.natAbs = 0
  · rw [z]; decide
  · exact Nat.lt_trans ((Nat.log2_lt z).mpr h) (by decide)
theorem tl_num (n : Nat) : (Str.ofString (toString ((n : Nat) : Int))).cps.toList = TL.numL n := TL.tl_num n
end Ml
namespace Ml
open PySem L2
def Ok {α : Type} (m : R α) (P : α → Prop) : Prop := ∃ a, m = .ok a ∧ P a
namespace Ok
variable {α β σ ρ : Type} {P : ρ → Prop}
theorem ret {a : ρ} (h : P a) : Ok (.ok a) P := ⟨a, rfl, h⟩
theorem bind {m : R α} {f : α → R ρ} {Q : α → Prop} (h : Ok m Q) (k : ∀ a, Q a → Ok (f a) P) : Ok (m.bind f) P := by
  obtain ⟨a, e, q⟩ := h
  rw [e, R.bind_ok]; exact k a q
theorem bindE {m : R α} {f : α → R ρ} {a : α} (h : m = .ok a) (k : Ok (f a) P) : Ok (m.bind f) P := by
  rw [h, R.bind_ok]; exact k
theorem lets {a : α} {f : α → R ρ} (k : Ok (f a) P) : Ok ((R.ok a).bind f) P := k
theorem name {a : α} {f : α → R ρ} (k : ∀ y, y = a → Ok (f y) P) : Ok ((R.ok a).bind f) P := k a rfl
theorem need {p : Prop} [Decidable p] {m : R ρ} (h : p) (k : Ok m P) : Ok (R.need p m) P := by rw [R.need_pos h]; exact k
theorem ite {c : Prop} [Decidable c] {a b : R ρ} (h1 : c → Ok a P) (h2 : ¬ c → Ok b P) : Ok (if c then a else b) P := by
  by_cases h : c
  · rw [if_pos h]; exact h1 h
  · rw [if_neg h]; exact h2 h
theorem ifT {c : Prop} [Decidable c] {a b : R ρ} (h : c) (k : Ok a P) : Ok (if c then a else b) P := by rw [if_pos h]; exact k
theorem ifF {c : Prop} [Decidable c] {a b : R ρ} (h : ¬ c) (k : Ok b P) : Ok (if c then a else b) P := by rw [if_neg h]; exact k
theorem mono {Q : ρ → Prop} {m : R ρ} (h : Ok m Q) (k : ∀ a, Q a → P a) : Ok m P := by
  obtain ⟨a, e, q⟩ := h
  exact ⟨a, e, k a q⟩
theorem eq {m : R ρ} {v : ρ} (h : Ok m (· = v)) : m = .ok v := by
  obtain ⟨a, e, q⟩ := h
  rw [e, q]
theorem idx {xs : List α} {i : Int} {f : α → R ρ} (h0 : 0 ≤ i) (h1 : i < xs.length) (k : ∀ x, x ∈ xs → xs[i.toNat]? = some x → Ok (f x) P) : Ok ((idxR xs i).bind f) P := by
  obtain ⟨x, e, m, g⟩ := idxR_mem h0 h1
  rw [e, R.bind_ok]; exact k x m g
theorem ix {xs : List α} {i : Int} {f : Nat → R ρ} (h0 : 0 ≤ i) (h1 : i < xs.length) (k : Ok (f i.toNat) P) : Ok ((ixR xs i).bind f) P := by
  rw [ixR_ok h0 h1, R.bind_ok]; exact k
theorem forI {f : σ → α → R σ} {xs : List α} {s : σ} {rest : σ → R ρ} (I : List α → σ → Prop) (h0 : I [] s) (hs : ∀ p x q s, xs = p ++ x :: q → I p s → Ok (f s x) (I (p ++ [x]))) (k : ∀ s, I xs s → Ok (rest s) P) : Ok ((forR f xs s).bind rest) P :=
  bind (forR_inv I h0 hs) k
theorem forK {f : σ → α → R σ} {xs : List α} {s : σ} {rest : σ → R ρ} (I : σ → Prop) (h0 : I s) (hs : ∀ x s, x ∈ xs → I s → Ok (f s x) I) (k : ∀ s, I s → Ok (rest s) P) : Ok ((forR f xs s).bind rest) P :=
  bind (forR_keep I h0 hs) k
theorem forFK {τ : Type} {f : σ → α → R (Fl σ τ)} {xs : List α} {s : σ} {rest : Fl σ τ → R ρ} (I : σ → Prop) (h0 : I s) (hs : ∀ x s, x ∈ xs → I s → Ok (f s x) (fun r => ∃ s', r = .go s' ∧ I s')) (k : ∀ s, I s → Ok (rest (.go s)) P) : Ok ((forF f xs s).bind rest) P := by
  obtain ⟨s', e, h⟩ := forF_keep (f := f) (xs := xs) I h0 fun x s hx hI => by
    obtain ⟨r, e, s', rfl, h⟩ := hs x s hx hI
    exact ⟨s', e, h⟩
  exact bindE e (k s' h)
/-- a comprehension whose items all have Q -/
theorem comp {f : Unit → α → R (Unit × Option β)} {xs : List α} {rest : Unit × List β → R ρ} (Q : β → Prop) (h : ∀ x, x ∈ xs → Ok (f () x) (fun r => ∃ y, r.2 = some y ∧ Q y)) (k : ∀ ys, ys.length = xs.length → (∀ y, y ∈ ys → Q y) → Ok (rest ((), ys)) P) : Ok ((compR f xs ()).bind rest) P := by
  obtain ⟨ys, e, l, q⟩ := compR_all (f := f) (xs := xs) Q fun x hx => by
    obtain ⟨r, e, y, e2, hy⟩ := h x hx
    exact ⟨y, by rw [e, ← e2], hy⟩
  exact bindE e (k ys l q)
/-- .. whose items are told -/
theorem compM {f : Unit → α → R (Unit × Option β)} {xs : List α} {rest : Unit × List β → R ρ} (g : α → β) (h : ∀ x, x ∈ xs → Ok (f () x) (fun r => r.2 = some (g x))) (k : Ok (rest ((), xs.map g)) P) : Ok ((compR f xs ()).bind rest) P := by
  refine bindE (compR_map (g := g) fun x hx => ?_) k
  obtain ⟨r, e, e2⟩ := h x hx
  rw [e, ← e2]
theorem compF {f : Unit → α → R (Unit × Option β)} {xs : List α} {rest : Unit × List β → R ρ} (g : α → Option β) (h : ∀ x, x ∈ xs → Ok (f () x) (fun r => r.2 = g x)) (k : Ok (rest ((), xs.filterMap g)) P) : Ok ((compR f xs ()).bind rest) P := by
  refine bindE (compR_filterMap (g := g) fun x hx => ?_) k
  obtain ⟨r, e, e2⟩ := h x hx
  rw [e, ← e2]
end Ok
theorem pre_lt {α : Type} {xs p q : List α} {x : α} (e : xs = p ++ x :: q) : p.length < xs.length := by
  rw [e, List.length_append, List.length_cons]; omega
theorem lt_line {n m : Nat} (h : n ≤ m) (hm : m < 16777216) : n < sizeLine := Nat.lt_of_le_of_lt h hm
theorem le_line {n : Nat} (h : n ≤ 16777216) : n ≤ sizeLine := h
end Ml
namespace Ml
open PySem PySem.Spec PyProof.Rows L2
variable {G : Gx}
/-- x is None, of a thing of any sort -/
def Any.isN : Any → Bool
  | .non => true
  | _ => false
theorem isN_of {H : Hp} {v : V} {x : Any} (h : Im.im G H v x) : decide (v = .non) = Any.isN x := by
  have h : imAny H v x := h
  cases x with
  | non => rw [imAny] at h; subst h; rfl
  | str s => rw [imAny] at h; subst h; rfl
  | int s => rw [imAny] at h; subst h; rfl
  | bl s => rw [imAny] at h; subst h; rfl
  | tup s => rw [imAny] at h; obtain ⟨a, vs, rfl, _⟩ := h; rfl
  | lst s => rw [imAny] at h; obtain ⟨a, vs, rfl, _⟩ := h; rfl
  | oth s => rw [imAny] at h; obtain ⟨a, o, rfl, _⟩ := h; rfl
theorem ev_notN {σ : L2.St} {H : Hp} {ta : TE} {v : V} {x : Any} (ha : Ev ta σ H v) (h : Im.im G H v x) : Ev (tNotN ta) σ H (.bl (!Any.isN x)) := fun Q q => ha _ (by rw [isN_of h]; exact q)
end Ml
namespace PySem.W
open PySem PySem.Spec PySem.Calls PyProof.Rows
end PySem.W
namespace Ml
open PySem PySem.Spec PyProof.Rows L2
variable {G : Gx}
inductive StV where
  | i (n : Int) | s (x : Script)
def stIm (G : Gx) (H : Hp) (v : V) : StV → Prop
  | .i n => v = .int n
  | .s s => Im.im G H v s
theorem stIm_st {H H' : Hp} {v : V} {x : StV} (h : stIm G H v x) (st : Stab G H H') : stIm G H' v x := by
  cases x with
  | i n => exact h
  | s s =>
    have h : Im.im G H v s := h
    exact (Im.st h st : Im.im G H' v s)
instance stvI : Im G StV := ⟨stIm G, fun h s => stIm_st h s⟩
end Ml
namespace L2
open PySem PySem.Spec PyProof.Rows
end L2
namespace Ml
open PySem PySem.Spec PyProof.Rows L2
variable {G : Gx} {H : Hp} {L : List (Asn G)} {Q : VK}
theorem imL_str : ∀ {vs : List V} {xs : List Str}, imL (G := G) H vs xs → imL (G := G) H vs (xs.map Any.str)
  | [], [], _ => True.intro
  | v :: vs, x :: xs, h => ⟨any_str.mpr h.1, imL_str h.2⟩
theorem any_lstS {v : V} {xs : List Str} (h : Im.im G H v xs) : Im.im G H v (Any.lst (xs.map Any.str)) := by
  obtain ⟨a, vs, e, g, m⟩ := h
  exact any_lsts.mpr ⟨a, vs, e, g, imL_str m⟩
theorem any_lstA {v : V} {xs : List Any} (h : Im.im G H v xs) : Im.im G H v (Any.lst xs) := by
  obtain ⟨a, vs, e, g, m⟩ := h
  exact any_lsts.mpr ⟨a, vs, e, g, m⟩
end Ml
namespace Ml
open PySem PySem.Spec PyProof.Rows L2
variable {G : Gx} {κ β : Type} [Kx κ] [DecidableEq κ] [Im G β] {H : Hp} {L L' : List (Asn G)} {σ : L2.St} {Q : VK} {td ty tx : TE} {k : κ} {a : Addr} {xs : List (κ × β)} {i : Nat}
/-- d[k], k there -/
theorem ev_dget {v : V} {y : β} (hS : Sep H L) (e : L[i]? = some (dictA a xs)) (hd : Ev td σ H (.ref a)) (hy : Ev ty σ H (kV (Kx.key k))) (g : DGet H a (kV (Kx.key k)) (some v)) : Ev (tDGet td ty) σ H v :=
  fun Q q => hd _ (hy _ ⟨a, v, rfl, g, q⟩)
theorem dget_some {y : β} (hS : Sep H L) (e : L[i]? = some (dictA a xs)) (h : dget xs k = some y) : ∃ v, DGet H a (kV (Kx.key k)) (some v) ∧ Im.im G H v y := by
  obtain ⟨r, g, h1, _⟩ := dget_at hS e (k := k) h
  obtain ⟨v, rfl, m⟩ := h1 y rfl
  exact ⟨v, g, m⟩
/-- what d[k] wants: that k is there -/
def dgetR (xs : List (κ × β)) (k : κ) : R β := match dget xs k with
  | some y => .ok y
  | none => .bad
theorem wp_dget {ρ : Type} {q : ρ → Prop} {e : Exc → Prop} {f : β → R ρ} (h : R.wp ((dgetR xs k).bind f) q e) : ∃ y, dget xs k = some y ∧ R.wp (f y) q e := by
  unfold dgetR at h
  cases c : dget xs k with
  | none => rw [c] at h; exact h.elim
  | some y => rw [c] at h; exact ⟨y, rfl, h⟩
/-- d[k] = v -/
theorem k_setD {v : V} {y : β} {P : Hp → Prop} (hS : Sep H L) (e : L[i]? = some (dictA a xs)) (hv : Im.im G H v y) (hl : xs.length < sizeLine) (e2 : L.set i (dictA a (dput xs k y)) = L') (q : ∀ H', Sep H' L' → P H') : rSetD (.ref a) (kV (Kx.key k)) v H P := by
  obtain ⟨ps, h, m⟩ := hS.dict e
  refine ⟨a, _, rfl, .inl ⟨ps, Kx.key k, h, rfl, by rw [m.len]; exact hl, rfl⟩, q _ ?_⟩
  subst e2
  exact hS.putD e (m.put hv)
/-- len(d) -/
theorem ev_lenD {ta : TE} (hS : Sep H L) (e : L[i]? = some (dictA a xs)) (ha : Ev ta σ H (.ref a)) : Ev (tCB (fun xs H Q => ∃ a kvs, xs = [V.ref a] ∧ H a = some (.dK kvs) ∧ Q (.int (kvs : List (Key × V)).length) H) (tCons ta tNil)) σ H (.int xs.length) := by
  obtain ⟨ps, hp, m⟩ := hS.dict e
  exact ev_cb (ea_cons ha ea_nil) fun _ q => ⟨a, ps, rfl, hp, by rw [m.len]; exact q⟩
end Ml
namespace Ml
open PySem PySem.Spec PyProof.Rows L2
variable {G : Gx} {β : Type} {H : Hp} {M : List (Asn G)}
def elemsE (E : Addr → β → Asn G) (l : List (Addr × β)) : List (Asn G) := l.map fun q => E q.1 q.2
theorem erase_map {α γ : Type} (f : α → γ) : ∀ (l : List α) (j : Nat), (l.map f).eraseIdx j = (l.eraseIdx j).map f
  | [], j => by simp
  | x :: l, 0 => rfl
  | x :: l, j + 1 => by simp only [List.map_cons, List.eraseIdx_cons_succ]; rw [erase_map f l j]
theorem perm_out {α : Type} : ∀ {l : List α} {j : Nat} {x : α}, l[j]? = some x → (x :: l.eraseIdx j).Perm l
  | [], j, x, h => by cases h
  | y :: l, 0, x, h => by
    have : y = x := by simpa using h
    subst this; exact .refl _
  | y :: l, j + 1, x, h => by
    have h2 : l[j]? = some x := by simpa using h
    exact (List.Perm.swap y x _).trans ((perm_out h2).cons y)
end Ml
namespace Ml
open PySem PySem.Spec PyProof.Rows L2
variable {G : Gx} {κ β : Type} [Kx κ] [DecidableEq κ] {H : Hp} {M : List (Asn G)}
def refsD (kvs : List (κ × β)) (ps : List Addr) : List (Key × V) := List.zipWith (fun kv p => (Kx.key kv.1, V.ref p)) kvs ps
def dictE (E : Addr → β → Asn G) (a : Addr) (kvs : List (κ × β)) : Asn G := exA fun (ps : List Addr) => andA (ps.length = kvs.length ∧ (kvs.map (·.1)).Nodup) (star (cell a (.dK (refsD kvs ps)) :: elemsE E (ps.zip (kvs.map (·.2)))))
theorem refs_val {kvs : List (κ × β)} {ps : List Addr} {j : Nat} {k : κ} {y : β} {p : Addr} (hl : ps.length = kvs.length) (hn : (kvs.map (·.1)).Nodup) (hj : kvs[j]? = some (k, y)) (hp : ps[j]? = some p) : valV (refsD kvs ps) (Kx.key k) = some (.ref p) := by
  induction kvs generalizing ps j with
  | nil => cases hj
  | cons kv kvs ih =>
    cases ps with
    | nil => cases hl
    | cons q ps =>
      cases j with
      | zero =>
        have h1 : kv = (k, y) := by simpa using hj
        have h2 : q = p := by simpa using hp
        subst h1 h2
        show valV ((Kx.key k, V.ref q) :: refsD kvs ps) (Kx.key k) = _
        unfold valV
        simp
      | succ j =>
        have hj' : kvs[j]? = some (k, y) := by simpa using hj
        have hp' : ps[j]? = some p := by simpa using hp
        rw [List.map_cons, List.nodup_cons] at hn
        have hk : ¬ kv.1 = k := fun e => hn.1 (List.mem_map.mpr ⟨(k, y), List.mem_of_getElem? hj', e.symm⟩)
        have := ih (ps := ps) (j := j) (by simpa using hl) hn.2 hj' hp'
        show valV ((Kx.key kv.1, V.ref q) :: refsD kvs ps) (Kx.key k) = _
        unfold valV at this ⊢
        have hk2 : ¬ Kx.key kv.1 = Kx.key k := fun e => hk (Kx.inj e)
        simpa [hk2] using this
theorem zip_hole {ps : List Addr} {xs : List β} {j : Nat} {z : β} (hl : ps.length = xs.length) : (ps.zip (xs.set j z)).eraseIdx j = (ps.zip xs).eraseIdx j := by
  induction ps generalizing xs j with
  | nil => simp
  | cons q ps ih =>
    cases xs with
    | nil => cases hl
    | cons x xs =>
      cases j with
      | zero => rfl
      | succ j =>
        simp only [List.set_cons_succ, List.zip_cons_cons, List.eraseIdx_cons_succ]
        rw [ih (by simpa using hl)]
theorem put_at {kvs : List (κ × β)} {j : Nat} {k : κ} {y z : β} (hn : (kvs.map (·.1)).Nodup) (hj : kvs[j]? = some (k, y)) : dput kvs k z = kvs.set j (k, z) := by
  have hany : (kvs.any fun kv => decide (kv.1 = k)) = true := List.any_eq_true.mpr ⟨(k, y), List.mem_of_getElem? hj, by simp⟩
  unfold dput
  rw [if_pos hany]
  clear hany
  induction kvs generalizing j with
  | nil => cases hj
  | cons kv kvs ih =>
    rw [List.map_cons, List.nodup_cons] at hn
    cases j with
    | zero =>
      have h1 : kv = (k, y) := by simpa using hj
      subst h1
      have : kvs.map (fun kv => if kv.1 = k then (kv.1, z) else kv) = kvs := by
        have : ∀ q, q ∈ kvs → (if q.1 = k then (q.1, z) else q) = q := fun q hq => by
          rw [if_neg]
          intro e
          exact hn.1 (List.mem_map.mpr ⟨q, hq, e⟩)
        conv => rhs; rw [← List.map_id kvs]
        exact List.map_congr_left this
      simp [this]
    | succ j =>
      have hj' : kvs[j]? = some (k, y) := by simpa using hj
      have hk : ¬ kv.1 = k := fun e => hn.1 (List.mem_map.mpr ⟨(k, y), List.mem_of_getElem? hj', e.symm⟩)
      rw [List.map_cons, if_neg hk, List.set_cons_succ, ih hn.2 hj']
end Ml
namespace Ml
open PySem PySem.Spec PyProof.Rows L2
variable {G : Gx} {κ β : Type} [Kx κ] [DecidableEq κ] {H : Hp} {M : List (Asn G)}
theorem refs_new {y : β} {kvs : List (κ × β)} {ps : List Addr} {k : κ} {p : Addr} (hl : ps.length = kvs.length) (hk : ¬ k ∈ kvs.map (·.1)) : putK (refsD kvs ps) (Kx.key k) (.ref p) = refsD (kvs ++ [(k, y)]) (ps ++ [p]) := by
  have h1 : (refsD kvs ps).any (fun kv => decide (kv.1 = Kx.key k)) = false := by
    rw [Bool.eq_false_iff]
    intro z
    obtain ⟨q, hq, e⟩ := List.any_eq_true.mp z
    have e := of_decide_eq_true e
    unfold refsD at hq
    induction kvs generalizing ps with
    | nil => simp at hq
    | cons kv kvs ih =>
      cases ps with
      | nil => cases hl
      | cons r ps =>
        rw [List.zipWith_cons_cons] at hq
        rcases List.mem_cons.mp hq with rfl | hq
        · exact hk (by rw [List.map_cons]; exact List.mem_cons.mpr (.inl (Kx.inj e).symm))
        · exact ih (ps := ps) (by simpa using hl) (fun m => hk (by rw [List.map_cons]; exact List.mem_cons_of_mem _ m)) (by
            refine List.any_eq_true.mpr ⟨q, hq, by simpa using e⟩) hq
  unfold putK
  rw [h1]
  unfold refsD
  rw [List.zipWith_append hl.symm]
  rfl
theorem refs_len {kvs : List (κ × β)} {ps : List Addr} (hl : ps.length = kvs.length) : (refsD kvs ps).length = kvs.length := by
  unfold refsD
  rw [List.length_zipWith]; omega
/-- d[k] = v, v an own thing, k new -/
theorem k_newE {E : Addr → β → Asn G} {a : Addr} {kvs : List (κ × β)} {k : κ} {p : Addr} {y : β} {P : Hp → Prop} (h : Sep H (dictE E a kvs :: E p y :: M)) (hk : ¬ k ∈ kvs.map (·.1)) (hz : kvs.length < sizeLine)
    (q : ∀ H', Sep H' (dictE E a (kvs ++ [(k, y)]) :: M) → P H') : rSetD (.ref a) (kV (Kx.key k)) (.ref p) H P := by
  obtain ⟨ps, h⟩ := Sep.ex h
  obtain ⟨⟨hl, hn⟩, h⟩ := Sep.and h
  have h := Sep.star1 h
  have hc : H a = some (.dK (refsD kvs ps)) := h.getCell (i := 0) rfl
  refine ⟨a, _, rfl, .inl ⟨refsD kvs ps, Kx.key k, hc, rfl, by rw [refs_len hl]; exact hz, rfl⟩, q _ ?_⟩
  have h2 := h.put (i := 0) (a := a) (o := .dK (refsD kvs ps)) (o' := .dK (putK (refsD kvs ps) (Kx.key k) (.ref p))) rfl rfl rfl
  refine Sep.exI (ps ++ [p]) (Sep.andI ⟨by rw [List.length_append, List.length_append, hl]; rfl, ?_⟩ (Sep.unstar1 ?_))
  · rw [List.map_append, List.nodup_append]
    refine ⟨hn, by simp, fun x hx z hz => ?_⟩
    rw [List.map_singleton, List.mem_singleton] at hz
    intro e
    have hz : z = k := hz
    exact hk (by rw [← hz, ← e]; exact hx)
  · have e1 : elemsE E ((ps ++ [p]).zip ((kvs ++ [(k, y)]).map (·.2))) = elemsE E (ps.zip (kvs.map (·.2))) ++ [E p y] := by
      unfold elemsE
      rw [List.map_append, List.zip_append (by rw [List.length_map]; exact hl), List.map_append]
      rfl
    rw [e1, ← refs_new (y := y) hl hk]
    have : ((cell a (.dK (putK (refsD kvs ps) (Kx.key k) (.ref p))) :: elemsE E (ps.zip (kvs.map (·.2)))) ++ (E p y :: M)) = ((cell a (.dK (putK (refsD kvs ps) (Kx.key k) (.ref p))) :: (elemsE E (ps.zip (kvs.map (·.2))) ++ [E p y])) ++ M) := by simp
    rw [← this]
    exact h2
end Ml
namespace PySem.SeqAt
open AutoSeq1 (wpAny_loadPart')
open MeetsSeq MeetsSeq2 MeetsSeq3
section
variable {prog : Program} {w : World} {A : Around} {s : Shared} {E : Value → Shared → Prop}
def DictAt (s : Shared) (d : Addr) : Prop := ∃ dd es ep sl, s.heap.get? d = some ⟨.type "dict", dd, .dict es ep, sl⟩
theorem DictAt.ty {d : Addr} (h : DictAt s d) : s.TypeIs (.ref d) "dict" := by obtain ⟨dd, es, ep, sl, h⟩ := h; exact ⟨_, h, rfl⟩
end
end PySem.SeqAt
namespace L2
open PySem PySem.Spec PyProof.Rows
end L2
namespace Ml
open PySem PySem.Spec PyProof.Rows L2
variable {G : Gx} {H : Hp} {L : List (Asn G)} {Q : VK}
theorem imL_int : ∀ {vs : List V} {xs : List Int}, imL (G := G) H vs xs → imL (G := G) H vs (xs.map Any.int)
  | [], [], _ => True.intro
  | v :: vs, x :: xs, h => ⟨any_int.mpr h.1, imL_int h.2⟩
theorem any_lstI {v : V} {xs : List Int} (h : Im.im G H v xs) : Im.im G H v (Any.lst (xs.map Any.int)) := by
  obtain ⟨a, vs, e, g, m⟩ := h
  exact any_lsts.mpr ⟨a, vs, e, g, imL_int m⟩
theorem R.need_rev {α : Type} {p : Prop} {inst : Decidable p} {k : R α} {q : α → Prop} {e : Exc → Prop} {Z : Prop} (f : p → k.wp q e → Z) (h : (@R.need α p inst k).wp q e) : Z := f (R.wp_need h).1 (R.wp_need h).2
end Ml
namespace Ml
open PySem PySem.Spec PyProof.Rows
def leT (a b : Str) : Bool := !decide (b.cps.toList < a.cps.toList)
theorem leT_iff {a b : Str} : leT a b = true ↔ a.cps.toList ≤ b.cps.toList := by
  unfold leT
  rw [Bool.not_eq_true', decide_eq_false_iff_not]
  exact List.not_lt
theorem leT_tr (a b c : Str) (x : leT a b = true) (y : leT b c = true) : leT a c = true := leT_iff.mpr (List.le_trans (leT_iff.mp x) (leT_iff.mp y))
theorem leT_tot (a b : Str) : (leT a b || leT b a) = true := by
  rw [Bool.or_eq_true]
  exact (List.le_total a.cps.toList b.cps.toList).imp leT_iff.mpr leT_iff.mpr
theorem leT_anti {a b : Str} (x : leT a b = true) (y : leT b a = true) : a = b := by
  have e := List.le_antisymm (leT_iff.mp x) (leT_iff.mp y)
  obtain ⟨⟨xs⟩⟩ := a
  obtain ⟨⟨ys⟩⟩ := b
  cases e
  rfl
def sortT (xs : List Str) : List Str := xs.mergeSort leT
theorem sortT_perm (xs : List Str) : (sortT xs).Perm xs := List.mergeSort_perm xs leT
theorem sortT_up (xs : List Str) : (sortT xs).Pairwise (fun a b => leT a b = true) := List.pairwise_mergeSort leT_tr leT_tot xs
theorem up_one : ∀ {xs ys : List Str}, xs.Pairwise (fun a b => leT a b = true) → ys.Pairwise (fun a b => leT a b = true) → xs.Perm ys → xs = ys
  | [], ys, _, _, p => p.nil_eq
  | x :: r, [], _, _, p => absurd p.length_eq (by simp)
  | x :: r, y :: t, ux, uy, p => by
    have ex : x = y := by
      by_cases z : x = y
      · exact z
      · have mx : x ∈ t := (List.mem_cons.mp (p.mem_iff.mp List.mem_cons_self)).resolve_left z
        have my : y ∈ r := (List.mem_cons.mp (p.mem_iff.mpr List.mem_cons_self)).resolve_left (fun q => z q.symm)
        exact leT_anti (List.rel_of_pairwise_cons ux my) (List.rel_of_pairwise_cons uy mx)
    subst ex
    rw [up_one (List.pairwise_cons.mp ux).2 (List.pairwise_cons.mp uy).2 (p.cons_inv)]
theorem rising_leT : ∀ {p : Str} {xs : List Str}, risingS p xs = true → (p :: xs).Pairwise (fun a b => leT a b = true)
  | p, [], _ => List.pairwise_singleton _ _
  | p, x :: r, h => by
    have h' : (!ltCps x.cps.toList p.cps.toList && risingS x r) = true := h
    rw [Bool.and_eq_true, ltCps_eq] at h'
    have t := rising_leT h'.2
    have px : leT p x = true := h'.1
    refine List.pairwise_cons.mpr ⟨fun y hy => ?_, t⟩
    rcases List.mem_cons.mp hy with e | e
    · rw [e]; exact px
    · exact leT_tr _ _ _ px (List.rel_of_pairwise_cons t e)
theorem sorted_leT : ∀ {xs : List Str}, sortedS xs = true → xs.Pairwise (fun a b => leT a b = true)
  | [], _ => List.Pairwise.nil
  | _ :: _, h => rising_leT h
theorem sortT_of {xs ys : List Str} (p : ys.Perm xs) (h : ys.Pairwise (fun a b => leT a b = true)) : ys = sortT xs := up_one h (sortT_up xs) (p.trans (sortT_perm xs).symm)
theorem sortT_congr {xs ys : List Str} (p : xs.Perm ys) : sortT xs = sortT ys := sortT_of ((sortT_perm xs).trans p) (sortT_up xs)
def onceL : List Str → List Str
  | [] => []
  | x :: r => if x ∈ r then onceL r else x :: onceL r
theorem mem_onceL {x : Str} : ∀ {xs : List Str}, x ∈ onceL xs ↔ x ∈ xs
  | [] => Iff.rfl
  | y :: r => by
    unfold onceL
    split
    · rename_i c
      rw [mem_onceL, List.mem_cons]
      exact ⟨.inr, fun h => h.elim (fun e => e ▸ c) id⟩
    · rw [List.mem_cons, List.mem_cons, mem_onceL]
theorem nodup_onceL : ∀ {xs : List Str}, (onceL xs).Nodup
  | [] => List.nodup_nil
  | y :: r => by
    unfold onceL
    split
    · exact nodup_onceL
    · rename_i c
      exact List.nodup_cons.mpr ⟨fun h => c (mem_onceL.mp h), nodup_onceL⟩
theorem perm_of_len : ∀ {xs ys : List Str}, xs.Nodup → (∀ x, x ∈ xs → x ∈ ys) → ys.length ≤ xs.length → ys.Perm xs
  | [], ys, _, _, l => by
    have e : ys = [] := List.length_eq_zero_iff.mp (Nat.le_zero.mp l)
    rw [e]
  | x :: r, ys, d, m, l => by
    obtain ⟨d1, d2⟩ := List.nodup_cons.mp d
    have hx := m x List.mem_cons_self
    have pe := List.perm_cons_erase hx
    refine pe.trans (List.Perm.cons x (perm_of_len d2 (fun y hy => ?_) ?_))
    · rcases List.mem_cons.mp (pe.mem_iff.mp (m y (List.mem_cons_of_mem _ hy))) with e | e
      · rw [e] at hy; exact absurd hy d1
      · exact e
    · have q := pe.length_eq
      simp only [List.length_cons] at q l
      omega
theorem nodup_len : ∀ {xs ys : List Str}, xs.Nodup → (∀ x, x ∈ xs → x ∈ ys) → xs.length ≤ ys.length
  | [], _, _, _ => Nat.zero_le _
  | x :: r, ys, d, m => by
    obtain ⟨d1, d2⟩ := List.nodup_cons.mp d
    have pe := List.perm_cons_erase (m x List.mem_cons_self)
    have q := pe.length_eq
    have t : r.length ≤ (ys.erase x).length := nodup_len d2 fun y hy => by
      rcases List.mem_cons.mp (pe.mem_iff.mp (m y (List.mem_cons_of_mem _ hy))) with e | e
      · rw [e] at hy; exact absurd hy d1
      · exact e
    simp only [List.length_cons] at q ⊢
    omega
theorem perm_same {xs ys : List Str} (d : xs.Nodup) (e : ys.Nodup) (m : ∀ x, x ∈ xs ↔ x ∈ ys) : xs.Perm ys := perm_of_len e (fun x h => (m x).mpr h) (nodup_len d fun x h => (m x).mp h)
/-- sorted(set(xs)) -/
def ssetT (xs : List Str) : List Str := sortT (onceL xs)
theorem mem_ssetT {x : Str} {xs : List Str} : x ∈ ssetT xs ↔ x ∈ xs := (sortT_perm _).mem_iff.trans mem_onceL
theorem ssetT_nodup (xs : List Str) : (ssetT xs).Nodup := (sortT_perm _).nodup_iff.mpr nodup_onceL
theorem ssetT_up (xs : List Str) : (ssetT xs).Pairwise (fun a b => leT a b = true) := sortT_up _
theorem ssetT_is {xs ys : List Str} (d : ys.Nodup) (u : ys.Pairwise (fun a b => leT a b = true)) (m : ∀ x, x ∈ ys ↔ x ∈ xs) : ys = ssetT xs :=
  up_one u (ssetT_up xs) (perm_same d (ssetT_nodup xs) fun x => (m x).trans mem_ssetT.symm)
theorem ssetT_congr {xs ys : List Str} (m : ∀ x, x ∈ xs ↔ x ∈ ys) : ssetT xs = ssetT ys := ssetT_is (ssetT_nodup xs) (ssetT_up xs) fun x => mem_ssetT.trans (m x)
end Ml
namespace L2
open PySem PySem.Spec PyProof.Rows PySem.Froz Ml
def OrdOk (w : World) (D : SD) : Prop := Ris D.2.2.place.toList ∧ (w.params.followText "set-order" = true ∨ D.2.2.led = true)
theorem ord_tail {w : World} {ep : Nat} {es : Array (Int × Value)} {t : SetTable} {b : Bool} (r : Ris t.place.toList) (l : w.params.followText "set-order" = true ∨ t.led = true) : OrdOk w (tailTx ep es t b) := by
  unfold tailTx
  split
  · exact ⟨relayAll_ris t es _, l.imp id fun z => by rw [relayAll_led]; exact z⟩
  · exact ⟨r, l⟩
theorem ord_add {w : World} {D : SD} {h : Int} {v : Value} (o : OrdOk w D) : OrdOk w (addTx h v D) := by
  obtain ⟨es, ep, t⟩ := D
  have r := layNew_ris t es h v o.1
  have l : w.params.followText "set-order" = true ∨ (layNew t es h v).2.1.led = true := o.2.imp id fun z => by rw [layNew_led]; exact z
  unfold addTx
  dsimp only
  split
  · exact ord_tail r l
  · exact ord_tail r l
structure SX (P : Program) (w : World) (D : SD) (l : List Str) : Prop where
  ok : TxOk P w D l
  nd : l.Nodup
  od : OrdOk w D
section
variable {P : Program} {w : World} {A : Around} {E : Value → Shared → Prop} {s : Shared}
theorem add_had {a : Addr} {T : String} {D : SD} {l : List Str} {k : Str} {u : Tok} {Q : Bool → Shared → Prop} (ho : s.heap.get? a = some (sObj T D)) (F : TxOk P w D l) (hk : k ∈ l) (hb : l.length < scanBound)
    (h : Q false s) : wpAny (model P w) A (setAddHashed a (.str k u) (hashStr w k)) Q E s := by
  obtain ⟨es, ep, t⟩ := D
  have few : es.size < scanBound := by rw [show es.size = l.length from F.sz]; exact hb
  unfold setAddHashed setAddHashedIn
  refine wpAny_holding (wpAny_bind (wpAny_setState_of ho rfl F.fit ?_))
  dsimp only
  rw [byScan_of rfl few F.el]
  simp only [↓reduceIte]
  unfold setAddByScan
  refine wpAny_bind (wpAny_bind (wpAny_rule (wpAny_bind (wpAny_setScan_of (knd := strKind P w) (k := k) (is_str k u) ho rfl F.fit F.el ?_))))
  cases hr : List.findIdx? (fun e => (strKind P w).is k e.2) es.toList with
  | none =>
    obtain ⟨e, he, z⟩ := (F.mem k).mp hk
    have c := List.findIdx?_eq_none_iff.mp hr e he
    rw [z] at c
    cases c
  | some j =>
    dsimp only
    exact wpAny_pure (wpAny_pure h)
/-- one text more, had or new -/
theorem add_any {a : Addr} {T : String} {D : SD} {l : List Str} {k : Str} {u : Tok} {Q : Bool → Shared → Prop} (ho : s.heap.get? a = some (sObj T D)) (F : SX P w D l) (hb : l.length + 1 < scanBound)
    (h : ∀ b h' D' l', (∀ x, x ∈ l' ↔ x ∈ l ∨ x = k) → l'.length ≤ l.length + 1 → SX P w D' l' → h'.get? a = some (sObj T D') → (∀ c o, c ≠ a → s.heap.get? c = some o → h'.get? c = some o) → Q b { s with heap := h' }) :
    wpAny (model P w) A (setAddHashed a (.str k u) (hashStr w k)) Q E s := by
  by_cases c : k ∈ l
  · exact add_had ho F.ok c (Nat.lt_of_succ_lt hb) (h false s.heap D l (fun x => ⟨.inl, fun z => z.elim id fun e => e ▸ c⟩) (Nat.le_succ _) F ho fun _ _ _ e => e)
  · refine add_x ho F.ok c hb (h true _ _ (k :: l) (fun x => List.mem_cons.trans Or.comm) (Nat.le_refl _) ⟨add_ok u F.ok, List.nodup_cons.mpr ⟨c, F.nd⟩, ord_add F.od⟩ (get_upd _ ho rfl) fun d o hd e => ?_)
    exact (PySem.Heap.get?_update_of_ne _ (Ne.symm hd) e)
theorem set_fill {I : Addr} {fp wr : List Addr} {GG : Array GenState → Array GenState → Prop} {n : Nat} {Pv : Nat → Value → Prop} {St : Nat → Shared → Prop} {R : Result → Shared → Prop}
    (W : WalksS P w A.in1 I fp wr GG n Pv St) (S : Addr) (out : S ∉ fp) (xs : List Str) (hn : n = xs.length) (few : xs.length + 1 < scanBound) (val : ∀ i v, Pv i v → ∃ x t, xs[i]? = some x ∧ v = .str x t) :
    ∀ (k i : Nat) (s : Shared), n - i = k → i ≤ n → St i s → (∃ D l, l.length ≤ i ∧ (∀ x, x ∈ l ↔ x ∈ xs.take i) ∧ SX P w D l ∧ s.heap.get? S = some (sObj "set" D)) →
      (∀ s' D l, Moved (S :: wr) GG s s' → (∀ x, x ∈ l ↔ x ∈ xs) → l.length ≤ n → SX P w D l → s'.heap.get? S = some (sObj "set" D) → R (.ok (.ret .none)) s') →
      codeAny (model P w) A (.builtin "set.update.loop" ⟨[.ref S, .ref I], []⟩) R s := by
  have nw : S ∉ wr := fun h => out (W.sub _ h)
  have sub : ∀ b ∈ wr, b ∈ S :: wr := fun b hb => List.mem_cons_of_mem _ hb
  intro k
  induction k with
  | zero =>
    intro i s hk hi st ⟨D, l, hl, hm, F, ho⟩ fin
    have hin : i = n := by omega
    subst hin
    rw [List.take_of_length_le (by omega)] at hm
    refine codeAny_builtin PyProof.Rows.F.entry_set_update_loop ?_
    rw [Around.under_plainId PyProof.Rows.F.plain_set_update_loop _]
    show wpAny _ A.in1 (pyNext (.ref I) >>= _) _ _ s
    refine wpAny_bind (W.done s _ _ st fun s' mv => ?_)
    exact wpAny_pure (fin s' D l (mv.mono sub) hm hl F (mv.heap S _ nw ho))
  | succ k ih =>
    intro i s hk hi st ⟨D, l, hl, hm, F, ho⟩ fin
    have lt : i < n := by omega
    refine codeAny_builtin PyProof.Rows.F.entry_set_update_loop ?_
    rw [Around.under_plainId PyProof.Rows.F.plain_set_update_loop _]
    show wpAny _ A.in1 (pyNext (.ref I) >>= _) _ _ s
    refine wpAny_bind (W.item i s _ _ lt st fun v s' pv st' mv => ?_)
    obtain ⟨z, t, hz, rfl⟩ := val i v pv
    show wpAny _ A.in1 (holding [Value.str z t] (setAdd S (.str z t)) >>= _) _ _ s'
    refine wpAny_bind (wpAny_holding ?_)
    unfold setAdd
    refine wpAny_holding ?_
    refine wpAny_bind ((strKind P w).pyHash (k := z) (is_str z t) ?_)
    refine add_any (s := { s' with toks := s'.toks + 1 }) (mv.heap S _ nw ho) F (by omega) fun b h' D' l' hm' hl' F' ho' same => ?_
    have hm2 : ∀ x, x ∈ l' ↔ x ∈ xs.take (i + 1) := fun x => by
      rw [hm' x, hm x, List.take_add_one, hz]
      simp [List.mem_append]
    refine wpAny_pure ⟨plainId_quiet PyProof.Rows.F.plain_set_update_loop _, ih (i + 1) _ (by omega) lt (W.frame _ s' _ _ st' (Nat.le_succ _) fun b hb o e => ?_) ⟨D', l', by omega, hm2, F', ho'⟩ fun s'' D2 l2 mv2 h1 h2 h3 h4 => ?_⟩
    · exact same b o (fun q => out (q ▸ hb)) e
    · exact fin s'' D2 l2 (Moved.trans W.gtrans ((mv.mono sub).then_heap (Nat.le_succ _) fun b o hb e => same b o (fun q => hb (by rw [q]; exact List.mem_cons_self)) e) mv2) h1 h2 h3 h4
theorem sx_new {led : Bool} (hl : w.params.followText "set-order" = true ∨ led = true) : SX P w (#[], 0, .fresh 0 0 led) [] := ⟨TxOk.nil (by rfl), List.nodup_nil, List.Pairwise.nil, hl⟩
def newSet (w : World) : Obj := { cls := .type "set", dict := none, data := .set #[] 0 (.fresh 0 0 (!w.params.followText "set-order")) }
set_option maxRecDepth 100000 in
theorem set_of_list {l : Addr} {items : Array Value} (xs : List Str) {Q : Value → Shared → Prop} (calm : A.handled = none) (hl : s.heap.IsList l items) (hit : StrsAre items.toList xs) (few : xs.length + 1 < scanBound)
    (fin : ∀ (h' : Heap) (tk : Nat) (D : SD) (m : List Str), SX P w D m → (∀ x, x ∈ m ↔ x ∈ xs) → m.length ≤ xs.length → h'.get? s.heap.objs.size = some (sObj "set" D) → (∀ b o, s.heap.get? b = some o → h'.get? b = some o) → Q (.ref s.heap.objs.size) { s with heap := h', toks := tk }) :
    wpAny (model P w) A (call (.type "set") [.ref l]) Q E s := by
  have isz : items.size = xs.length := by rw [← StrsAre.len_eq hit, Array.length_toList]
  obtain ⟨hd, tl, m_⟩ := PySem.F.called_set.mro
  have m1 := PySem.F.called_set.made
  have m2 := PySem.F.called_set.sub
  refine wpAny_call (codeAny_of_tree ?_)
  show wpAny _ _ (callAny (.type "set") _) _ _ _
  refine wpAny_pure ⟨Code.quiet_builtin _ (by decide +kernel), codeAny_builtin PySem.F.entry_type_call ?_⟩
  rw [Around.under_plain (weight_type_call_type "set" [.ref l] []) rfl]
  have n1 := PySem.F.called_set.notType
  have n2 := PySem.F.called_set.canCreate
  have n3 := PySem.F.typeCall_set_1 (.ref l)
  repeat (any_goals (first | assumption | wp_step))

  refine codeAny_mono (code_set_led1 (.ref l) (E := E) (Q₁ := fun x s₁ => x = .ref s.heap.objs.size ∧ s₁ = { s with heap := s.heap.push (newSet w) }) ⟨rfl, rfl⟩) fun r s₁ hr => ?_
  cases r with
  | error e => exact hr
  | ok fl =>
    cases fl with
    | ret obj =>
      obtain ⟨rfl, rfl⟩ := hr
      have gS : (s.heap.push (newSet w)).get? s.heap.objs.size = some (newSet w) := Heap.get?_push_size _ rfl
      have tS : Shared.TypeIs { s with heap := s.heap.push (newSet w) } (.ref s.heap.objs.size) "set" := ⟨_, gS, rfl⟩
      have i1 := PySem.F.called_set.init.lookup
      have i2 := PySem.F.called_set.init.bind (.ref s.heap.objs.size)
      repeat (any_goals (first | assumption | wp_step))

      refine codeAny_mono (codeAny_call_builtin (R := wants (fun r s₂ => r = .none ∧ ∃ h' tk D m, s₂ = { s with heap := h', toks := tk } ∧ SX P w D m ∧ (∀ x, x ∈ m ↔ x ∈ xs) ∧ m.length ≤ xs.length ∧
          h'.get? s.heap.objs.size = some (sObj "set" D) ∧ (∀ b o, s.heap.get? b = some o → h'.get? b = some o)) E) PySem.F.called_set.init.plain PySem.F.entry_set_init (check_set_init_1 tS ?_)) fun r₂ s₂ hr₂ => ?_
      · obtain ⟨ol, ho, hc, nl, hd⟩ := hl
        obtain ⟨cl_, dc_, dt_, sl_⟩ := ol
        simp only at hc hd
        subst hc; subst hd
        have ho' : (s.heap.push (newSet w)).get? l = some { cls := .type "list", dict := dc_, data := .seq items nl, slots := sl_ } := Heap.get?_push_of_some _ ho
        have s1 := PySem.F.sub_list_set
        have s2 := PySem.F.sub_list_frozenset
        have s3 : (Value.type "list" == Value.type "dict") = false := by decide
        have il : (s.heap.push (newSet w)).IsList l items := ⟨_, ho', rfl, nl, rfl⟩
        unfold Builtin.«set.__init__» noKeywords Builtin.Frozenset.updateFrom
        generalize hPI : pyIter = PI
        wp_walk
        subst hPI

        refine wpAny_pyIter_list il ?_
        refine wpAny_bind (wpAny_runValue ?_)
        have lS : l < s.heap.objs.size := Heap.lt_size ho
        have c3 : A.in1.in1.in1.handled = none := by simp [calm]
        have nI : l ≠ (s.heap.push (newSet w)).objs.size := by
          rw [Heap.size_push]; exact Nat.ne_of_lt (Nat.lt_succ_of_lt lS)
        have nS : s.heap.objs.size ∉ [(s.heap.push (newSet w)).objs.size, l] := by
          rw [Heap.size_push]; simp only [List.mem_cons, List.mem_singleton, List.not_mem_nil, or_false, not_or]
          exact ⟨Nat.ne_of_lt (Nat.lt_succ_self _), Nat.ne_of_gt lS⟩
        have val : ∀ (i : Nat) (v : Value), items[i]? = some v → ∃ x t, xs[i]? = some x ∧ v = .str x t := fun i v hv => by
          have hi : i < xs.length := by rw [← isz]; exact (Array.getElem?_eq_some_iff.mp hv).1
          obtain ⟨t, e⟩ := SS.strs_at hit i v (by rw [Array.getElem?_toList]; exact hv)
          refine ⟨xs[i], t, List.getElem?_eq_getElem hi, ?_⟩
          rw [e, List.getD_eq_getElem?_getD, List.getElem?_eq_getElem hi] <;> rfl
        refine set_fill ((Walks.list c3 _ l nI items).toS) s.heap.objs.size nS xs isz few val (items.size - 0) 0 _ (by omega) (Nat.zero_le _) ⟨⟨_, Heap.get?_push_size _ rfl, rfl, rfl⟩, (il.push _)⟩ ?at0 ?end0
        case at0 =>
          have g0 : ((s.heap.push (newSet w)).push { cls := .type "list_iterator", data := .fields #[.ref l, .int 0 0] }).get? s.heap.objs.size = some (newSet w) := Heap.get?_push_of_some _ gS
          refine ⟨(#[], 0, .fresh 0 0 (!w.params.followText "set-order")), [], Nat.le_refl 0, fun x => by simp, sx_new ?_, g0⟩
          cases w.params.followText "set-order"
          · exact .inr rfl
          · exact .inl rfl
        case end0 =>
          intro s' D m mv hm hlen F hS
          obtain ⟨h', g', d', tk', os'⟩ := s'
          have eg : g' = s.gens := mv.gens
          have ed : d' = s.drawn := mv.drawn
          have eo : os' = s.os := mv.os
          subst eg; subst ed; subst eo
          show wpAny _ _ _ _ _ _
          refine wpAny_pure ?_
          show wpAny _ _ (ret Value.none) _ _ _
          refine wpAny_pure ⟨rfl, h', tk', D, m, rfl, F, hm, by rw [← isz]; exact hlen, hS, fun b o e => ?_⟩
          have b0 : b < s.heap.objs.size := Heap.lt_size e
          have b2 : b ≠ (s.heap.push (newSet w)).objs.size := by
            rw [Heap.size_push]; exact Nat.ne_of_lt (Nat.lt_succ_of_lt b0)
          exact mv.heap b o (by simp only [List.mem_cons, List.mem_singleton, List.not_mem_nil, or_false, not_or]; exact ⟨Nat.ne_of_lt b0, b2⟩) (Heap.get?_push_of_some _ (Heap.get?_push_of_some _ e))
      · cases r₂ with
        | error e => exact hr₂
        | ok fl₂ =>
          cases fl₂ with
          | ret r =>
            obtain ⟨rfl, h', tk, D, m, rfl, F, hm, hlen, hS, hk⟩ := hr₂
            repeat (any_goals (first | assumption | wp_step))
            exact fin _ _ D m F hm hlen hS hk
          | _ => exact hr₂.elim
    | _ => exact hr.elim
set_option maxRecDepth 100000 in
theorem set_of_tuple {l : Addr} {items : Array Value} (xs : List Str) {Q : Value → Shared → Prop} (calm : A.handled = none) (hl : s.heap.IsTuple l items) (hit : StrsAre items.toList xs) (few : xs.length + 1 < scanBound)
    (fin : ∀ (h' : Heap) (tk : Nat) (D : SD) (m : List Str), SX P w D m → (∀ x, x ∈ m ↔ x ∈ xs) → m.length ≤ xs.length → h'.get? s.heap.objs.size = some (sObj "set" D) → (∀ b o, s.heap.get? b = some o → h'.get? b = some o) → Q (.ref s.heap.objs.size) { s with heap := h', toks := tk }) :
    wpAny (model P w) A (call (.type "set") [.ref l]) Q E s := by
  have isz : items.size = xs.length := by rw [← StrsAre.len_eq hit, Array.length_toList]
  obtain ⟨hd, tl, m_⟩ := PySem.F.called_set.mro
  have m1 := PySem.F.called_set.made
  have m2 := PySem.F.called_set.sub
  refine wpAny_call (codeAny_of_tree ?_)
  show wpAny _ _ (callAny (.type "set") _) _ _ _
  refine wpAny_pure ⟨Code.quiet_builtin _ (by decide +kernel), codeAny_builtin PySem.F.entry_type_call ?_⟩
  rw [Around.under_plain (weight_type_call_type "set" [.ref l] []) rfl]
  have n1 := PySem.F.called_set.notType
  have n2 := PySem.F.called_set.canCreate
  have n3 := PySem.F.typeCall_set_1 (.ref l)
  repeat (any_goals (first | assumption | wp_step))

  refine codeAny_mono (code_set_led1 (.ref l) (E := E) (Q₁ := fun x s₁ => x = .ref s.heap.objs.size ∧ s₁ = { s with heap := s.heap.push (newSet w) }) ⟨rfl, rfl⟩) fun r s₁ hr => ?_
  cases r with
  | error e => exact hr
  | ok fl =>
    cases fl with
    | ret obj =>
      obtain ⟨rfl, rfl⟩ := hr
      have gS : (s.heap.push (newSet w)).get? s.heap.objs.size = some (newSet w) := Heap.get?_push_size _ rfl
      have tS : Shared.TypeIs { s with heap := s.heap.push (newSet w) } (.ref s.heap.objs.size) "set" := ⟨_, gS, rfl⟩
      have i1 := PySem.F.called_set.init.lookup
      have i2 := PySem.F.called_set.init.bind (.ref s.heap.objs.size)
      repeat (any_goals (first | assumption | wp_step))

      refine codeAny_mono (codeAny_call_builtin (R := wants (fun r s₂ => r = .none ∧ ∃ h' tk D m, s₂ = { s with heap := h', toks := tk } ∧ SX P w D m ∧ (∀ x, x ∈ m ↔ x ∈ xs) ∧ m.length ≤ xs.length ∧
          h'.get? s.heap.objs.size = some (sObj "set" D) ∧ (∀ b o, s.heap.get? b = some o → h'.get? b = some o)) E) PySem.F.called_set.init.plain PySem.F.entry_set_init (check_set_init_1 tS ?_)) fun r₂ s₂ hr₂ => ?_
      · obtain ⟨ol, ho, hc, nl, hd⟩ := hl
        obtain ⟨cl_, dc_, dt_, sl_⟩ := ol
        simp only at hc hd
        subst hc; subst hd
        have ho' : (s.heap.push (newSet w)).get? l = some { cls := .type "tuple", dict := dc_, data := .seq items nl, slots := sl_ } := Heap.get?_push_of_some _ ho
        have s1 := PySem.F.sub_tuple_set
        have s2 := PySem.F.sub_tuple_frozenset
        have s3 : (Value.type "tuple" == Value.type "dict") = false := by decide
        have il : (s.heap.push (newSet w)).IsTuple l items := ⟨_, ho', rfl, nl, rfl⟩
        unfold Builtin.«set.__init__» noKeywords Builtin.Frozenset.updateFrom
        generalize hPI : pyIter = PI
        wp_walk
        subst hPI

        refine wpAny_pyIter_tuple il ?_
        refine wpAny_bind (wpAny_runValue ?_)
        have lS : l < s.heap.objs.size := Heap.lt_size ho
        have c3 : A.in1.in1.in1.handled = none := by simp [calm]
        have nI : l ≠ (s.heap.push (newSet w)).objs.size := by
          rw [Heap.size_push]; exact Nat.ne_of_lt (Nat.lt_succ_of_lt lS)
        have nS : s.heap.objs.size ∉ [(s.heap.push (newSet w)).objs.size, l] := by
          rw [Heap.size_push]; simp only [List.mem_cons, List.mem_singleton, List.not_mem_nil, or_false, not_or]
          exact ⟨Nat.ne_of_lt (Nat.lt_succ_self _), Nat.ne_of_gt lS⟩
        have val : ∀ (i : Nat) (v : Value), items[i]? = some v → ∃ x t, xs[i]? = some x ∧ v = .str x t := fun i v hv => by
          have hi : i < xs.length := by rw [← isz]; exact (Array.getElem?_eq_some_iff.mp hv).1
          obtain ⟨t, e⟩ := SS.strs_at hit i v (by rw [Array.getElem?_toList]; exact hv)
          refine ⟨xs[i], t, List.getElem?_eq_getElem hi, ?_⟩
          rw [e, List.getD_eq_getElem?_getD, List.getElem?_eq_getElem hi] <;> rfl
        refine set_fill ((Walks.tuple c3 _ l nI items).toS) s.heap.objs.size nS xs isz few val (items.size - 0) 0 _ (by omega) (Nat.zero_le _) ⟨⟨_, Heap.get?_push_size _ rfl, rfl, rfl⟩, (il.push _)⟩ ?at0 ?end0
        case at0 =>
          have g0 : ((s.heap.push (newSet w)).push { cls := .type "tuple_iterator", data := .fields #[.ref l, .int 0 0] }).get? s.heap.objs.size = some (newSet w) := Heap.get?_push_of_some _ gS
          refine ⟨(#[], 0, .fresh 0 0 (!w.params.followText "set-order")), [], Nat.le_refl 0, fun x => by simp, sx_new ?_, g0⟩
          cases w.params.followText "set-order"
          · exact .inr rfl
          · exact .inl rfl
        case end0 =>
          intro s' D m mv hm hlen F hS
          obtain ⟨h', g', d', tk', os'⟩ := s'
          have eg : g' = s.gens := mv.gens
          have ed : d' = s.drawn := mv.drawn
          have eo : os' = s.os := mv.os
          subst eg; subst ed; subst eo
          show wpAny _ _ _ _ _ _
          refine wpAny_pure ?_
          show wpAny _ _ (ret Value.none) _ _ _
          refine wpAny_pure ⟨rfl, h', tk', D, m, rfl, F, hm, by rw [← isz]; exact hlen, hS, fun b o e => ?_⟩
          have b0 : b < s.heap.objs.size := Heap.lt_size e
          have b2 : b ≠ (s.heap.push (newSet w)).objs.size := by
            rw [Heap.size_push]; exact Nat.ne_of_lt (Nat.lt_succ_of_lt b0)
          exact mv.heap b o (by simp only [List.mem_cons, List.mem_singleton, List.not_mem_nil, or_false, not_or]; exact ⟨Nat.ne_of_lt b0, b2⟩) (Heap.get?_push_of_some _ (Heap.get?_push_of_some _ e))
      · cases r₂ with
        | error e => exact hr₂
        | ok fl₂ =>
          cases fl₂ with
          | ret r =>
            obtain ⟨rfl, h', tk, D, m, rfl, F, hm, hlen, hS, hk⟩ := hr₂
            repeat (any_goals (first | assumption | wp_step))
            exact fin _ _ D m F hm hlen hS hk
          | _ => exact hr₂.elim
    | _ => exact hr.elim
theorem elems_strs {l : List (Int × Value)} (g : ElemsOf (strKind P w) l) : ∀ v ∈ l.map (·.2), ∃ k t, v = Value.str k t := fun v hv => by
  obtain ⟨e, he, rfl⟩ := List.mem_map.mp hv
  obtain ⟨⟨k, h1, _⟩, _⟩ := g e he
  obtain ⟨t, ev⟩ := Value.isStrOf_shape (x := k) (v := e.2) h1
  exact ⟨k, t, ev⟩
theorem strs_all : ∀ {vs : List Value}, (∀ v ∈ vs, ∃ k t, v = Value.str k t) → ∃ ks, StrsAre vs ks
  | [], _ => ⟨[], .nil⟩
  | v :: r, h => by
    obtain ⟨k, t, rfl⟩ := h v List.mem_cons_self
    obtain ⟨ks, hk⟩ := strs_all (vs := r) fun u hu => h u (List.mem_cons_of_mem _ hu)
    exact ⟨k :: ks, .cons k t hk⟩
theorem mem_strs {k : Str} : ∀ {vs : List Value} {ks : List Str}, StrsAre vs ks → (k ∈ ks ↔ ∃ t, Value.str k t ∈ vs)
  | _, _, .nil => ⟨fun h => (by cases h), fun ⟨_, h⟩ => (by cases h)⟩
  | _, _, .cons x t h => by
    rw [List.mem_cons, mem_strs h]
    constructor
    · rintro (e | ⟨u, e⟩)
      · exact ⟨t, by rw [e]; exact List.mem_cons_self⟩
      · exact ⟨u, List.mem_cons_of_mem _ e⟩
    · rintro ⟨u, e⟩
      rcases List.mem_cons.mp e with e | e
      · injection e with e1 e2
        exact .inl e1
      · exact .inr ⟨u, e⟩
/-- sorted of a set of fewer than 64 texts -/
theorem sorted_of_set {a : Addr} {D : SD} {l : List Str} {Q : Value → Shared → Prop} (ho : s.heap.get? a = some (sObj "set" D)) (F : SX P w D l) (calm : A.handled = none) (few : l.length < 64)
    (fin : ∀ s' p (out : Array Value) (c : Nat), (∀ b o, s.heap.get? b = some o → s'.heap.get? b = some o) → s'.gens = s.gens → s'.os = s.os → s.heap.objs.size ≤ p →
      s'.heap.get? p = some (seqObj "list" out c) → StrsAre out.toList (sortT l) → Q (.ref p) s') :
    wpAny (model P w) A (call (.builtin "sorted") [.ref a]) Q E s := by
  obtain ⟨es, ep, t⟩ := D
  have sz : es.size = l.length := F.ok.sz
  refine Calls.call_function_entry kind_sorted plain_sorted entry_sorted (args_sorted1 _) ?_
  unfold Builtin.«sorted»
  refine wpAny_bind (m := checkCount "sorted" 1 1 _) (wpAny_pure ?_)
  refine wpAny_bind (collect_set (A := A.in1) calm ⟨_, ho, rfl, rfl⟩ F.ok.fit (by rw [sz]; unfold scanBound; omega) F.od.1 F.od.2 fun s1 vs k1 hz g1 o1 pm => ?_)
  have vl : vs.length = l.length := by rw [pm.length_eq, List.length_map, Array.length_toList]; exact sz
  obtain ⟨ks, hS⟩ := strs_all (vs := vs) fun v hv => elems_strs F.ok.el v (pm.mem_iff.mp hv)
  have kl : ks.length = l.length := by rw [← StrsAre.len_eq hS]; exact vl
  have kp : ks.Perm l := by
    refine perm_of_len F.nd (fun x hx => ?_) (Nat.le_of_eq kl)
    obtain ⟨e, he, z⟩ := (F.ok.mem x).mp hx
    obtain ⟨t', ev⟩ := Value.isStrOf_shape (x := x) (v := e.2) z
    exact (mem_strs hS).mpr ⟨t', pm.mem_iff.mpr (List.mem_map.mpr ⟨e, he, ev⟩)⟩
  refine wpAny_bind (wpAny_newList ?_ (by rw [vl, sizeLine_eq]; omega))
  have oL : (s1.heap.push (seqObj "list" vs.toArray 0)).get? s1.heap.objs.size = some (seqObj "list" vs.toArray 0) := Heap.get?_push_size _ rfl
  refine wpAny_bind (wpAny_holding (wpAny_call_entry slot_list_sort ⟨_, oL, rfl⟩ entry_list_sort
    (list_sort_treeK strKind_oneLt oL hS.keysOf (fun v₁ v₂ rest e => keyKind_strs (by rw [← e]; exact hS)) (by rw [vl]; exact few) fun st' hp hs => ⟨_, rfl, ?_⟩) (args_list_sort _)))
  obtain ⟨ys, g2, g3, g4⟩ := sorted_out_str hS hp hs
  have ey : ys = sortT l := sortT_of (g3.trans kp) (sorted_leT g4)
  rw [ey] at g2
  obtain ⟨c, hc⟩ := sortedHeap_at (vs := vs) (out := (arrOf st').map (·.2)) oL
  refine wpAny_pure ⟨_, rfl, fin _ s1.heap.objs.size _ c (fun b u e => ?_) g1 o1 hz hc g2⟩
  have q := k1 b u e
  have lt := Heap.lt_size q
  show (sortedHeap (s1.heap.push (seqObj "list" vs.toArray 0)) s1.heap.objs.size vs _).get? b = some u
  rw [sortedHeap_old (Nat.ne_of_lt lt) (by rw [size_push']; exact Nat.lt_succ_of_lt lt)]
  exact Heap.get?_push_of_some _ q
end
/-- sorted(set(a)), a a list or a tuple of fewer than 64 texts -/
def rSortSet (K : PySem.W.Frag) : V → Hp → VK → Prop := fun x H Q => ∃ l, ∃ xs : List Str, x = .ref l ∧ (SqL K H l (xs.map V.str) ∨ SqT K H l (xs.map V.str)) ∧ xs.length < 64 ∧ ∀ p, H p = none → Q (.ref p) (upd H p (.lst ((ssetT xs).map V.str)))
def tSortSet (K : PySem.W.Frag) (ta : TE) : TE := fun σ H Q => ta σ H fun x H1 => rSortSet K x H1 Q
section
variable {X : Cx}
theorem pe_sortSet {a : Expr} {ta : TE} {p p2 q pos : Pos} (calm : X.calm = true) (hg : Gl X "sorted") (hm : X.mg "sorted" = none) (hg2 : Gl X "set") (hm2 : X.mg "set" = none) (ha : PE X a ta)
    (na : starEach [a] X.env = (false, eval a X.env) :: starEach [] X.env := by rfl) : PE X (.Call (.Name "sorted" p) [.Call (.Name "set" p2) [a] [] q] [] pos) (tSortSet X.K ta) := by
  have bs : bootBuiltins "set" = some (.type "set") := by decide +kernel
  have bo : bootBuiltins "sorted" = some (.builtin "sorted") := by decide +kernel
  refine ⟨fun pins s σ H Q I h => ?_⟩
  refine Call_ (ld_blt I hg hm bo ?_)
  refine PyProof.Rows.callWith_builtin1 (PyProof.Rows.args_cons ?_ rfl) rfl rfl
  refine Call_ (ld_blt I hg2 hm2 bs ?_)
  refine PyProof.Rows.callWith_type1 (PyProof.Rows.args_cons (thn (ha.run pins s σ H _ I h) fun v s1 ⟨x, H1, I1, r1, q1⟩ => PyProof.Rows.args_nil ?_) na) na rfl
  obtain ⟨l, xs, rfl, hq, few, q1⟩ := q1
  cases r1
  have fin : ∀ (h' : Heap) (tk : Nat) (D : SD) (m : List Str), SX X.prog X.w D m → (∀ x, x ∈ m ↔ x ∈ xs) → m.length ≤ xs.length → h'.get? s1.heap.objs.size = some (sObj "set" D) →
      (∀ b o, s1.heap.get? b = some o → h'.get? b = some o) →
      wpAny (model X.prog X.w) X.A (spliced (backTo pos (starEach [] X.env))) (fun vs s₂ => wpAny (model X.prog X.w) X.A (call (.builtin "sorted") (Value.ref s1.heap.objs.size :: vs)) (EP X pins σ Q) X.xe s₂) X.xe { s1 with heap := h', toks := tk } := fun h' tk D m F mem ml hS same => by
    refine PyProof.Rows.args_nil ?_
    have I2 : Inv X pins σ H1 { s1 with heap := h', toks := tk } := I1.kept same
    refine sorted_of_set (s := { s1 with heap := h', toks := tk }) hS F (I1.ok.hd calm) (by omega) fun s' p out c k g o hz hp hs => ?_
    have em : sortT m = ssetT xs := sortT_congr (perm_same F.nd nodup_onceL fun x => (mem x).trans mem_onceL.symm)
    rw [em] at hs
    have fresh : H1 p = none := I2.hok.fresh hz
    have len : ((ssetT xs).map V.str).length ≤ sizeLine := by
      have z : (ssetT xs).length = m.length := by rw [← em]; exact (sortT_perm m).length_eq
      rw [List.length_map, z, sizeLine_eq]
      omega
    have J : Inv X pins σ (upd H1 p (.lst ((ssetT xs).map V.str))) { ({ s1 with heap := h', toks := tk } : Shared) with heap := s'.heap, gens := s'.gens, drawn := s'.drawn, toks := s'.toks } :=
      I2.call (ch := []) (Un.laid k hz fresh) (I2.hok.laid k hz ⟨len, out.toList, c, vals_of_strs hs, hp⟩) (by rw [g]; exact I2.bare) (fun _ z => nomatch z)
    have e : s' = { ({ s1 with heap := h', toks := tk } : Shared) with heap := s'.heap, gens := s'.gens, drawn := s'.drawn, toks := s'.toks } := by
      cases s'
      cases s1
      cases o
      rfl
    rw [e]
    exact ⟨.ref p, _, J, rfl, q1 p fresh⟩
  rcases hq with hq | hq
  · obtain ⟨its, r, pl, hz⟩ := I1.list hq
    exact set_of_list xs (I1.ok.hd calm) pl.isList (by simpa using strsAre_of r) (by unfold scanBound; omega) fin
  · obtain ⟨its, r, pl, hz⟩ := I1.tuple hq
    exact set_of_tuple xs (I1.ok.hd calm) pl (by simpa using strsAre_of r) (by unfold scanBound; omega) fin
end
end L2
namespace L2
open PySem PySem.Spec PyProof.Rows Ml
section
variable {X : Cx}
theorem pe_sortSetK {a : Expr} {ta : TE} {p p2 q pos : Pos} (K : PySem.W.Frag) (calm : X.calm = true) (hg : Gl X "sorted") (hm : X.mg "sorted" = none) (hg2 : Gl X "set") (hm2 : X.mg "set" = none) (ha : PE X a ta) (hK : X.K = K := by rfl)
    (na : starEach [a] X.env = (false, eval a X.env) :: starEach [] X.env := by rfl) : PE X (.Call (.Name "sorted" p) [.Call (.Name "set" p2) [a] [] q] [] pos) (tSortSet K ta) := by
  subst hK
  exact pe_sortSet calm hg hm hg2 hm2 ha na
theorem sortedSK (K : PySem.W.Frag) (hK : X.K = K := by rfl) : CallR X (.builtin "sorted") (rSortedS K) := by subst hK; exact cr_sortedS
theorem pe_revLK {e : Expr} {te : TE} {k : Nat} {p1 p2 p3 pos : Pos} (K : PySem.W.Frag) (he : PE X e te) (hK : X.K = K := by rfl) :
    PE X (.Subscript e (.Slice none none (some (.UnaryOp .USub (.Constant (.int 1) k p1) p2)) p3) pos) (tRevL K te) := by subst hK; exact pe_revL he
end
end L2
namespace Ml
open PySem PySem.Spec PyProof.Rows L2
variable {G : Gx} {σ : L2.St} {H : Hp} {L : List (Asn G)} {Q : VK} {te : TE} {D : Ends}
def sortSetK (K : PySem.W.Frag) (Q : VK) : VK := fun x H1 => rSortSet K x H1 Q
theorem c_sortSet {K : PySem.W.Frag} (h : te σ H (sortSetK K Q)) : tSortSet K te σ H Q := h
theorem k_sortSet {a : Addr} {xs : List Str} (hS : Sep H L) (hq : SqL G.K H a (xs.map (Fv.enc G)) ∨ SqT G.K H a (xs.map (Fv.enc G))) (few : xs.length < 64) (k : ∀ p H', Sep H' (lstA p (ssetT xs) :: L) → Q (.ref p) H') : sortSetK G.K Q (.ref a) H :=
  ⟨a, xs, rfl, hq, few, fun p hp => k p _ (hS.newL hp (imL_strs _))⟩
theorem imL_ofStr : ∀ {vs : List V} {ss : List Str}, imL (G := G) H vs (ss.map Any.str) → vs = ss.map V.str
  | [], [], _ => rfl
  | v :: vs, s :: ss, h => by rw [any_str.mp h.1, imL_ofStr h.2]; rfl
theorem strs_at {v : V} {x : Any} {ss : List Str} (h : Im.im G H v x) (e : x = .lst (ss.map Any.str) ∨ x = .tup (ss.map Any.str)) : ∃ a, v = .ref a ∧ (SqL G.K H a (ss.map (Fv.enc G)) ∨ SqT G.K H a (ss.map (Fv.enc G))) := by
  rcases e with e | e
  · subst e
    obtain ⟨a, vs, rfl, ⟨o, ho⟩, m⟩ := any_lsts.mp h
    rw [imL_ofStr m] at ho
    exact ⟨a, rfl, .inl (.inl (.inr ⟨o, ho⟩))⟩
  · subst e
    obtain ⟨a, vs, rfl, ho, m⟩ := any_tup.mp h
    rw [imL_ofStr m] at ho
    exact ⟨a, rfl, .inr (.inl (.inl ho))⟩
theorem k_sorted {a : Addr} {xs : List Str} (hS : Sep H L) (hq : SqL G.K H a (xs.map (Fv.enc G))) (few : xs.length < 64) (k : ∀ p H', Sep H' (lstA p (sortT xs) :: L) → Q (.ref p) H') : rSortedS G.K [.ref a] H Q :=
  ⟨a, xs, rfl, hq, few, fun ys p pm up hp => by rw [sortT_of pm (sorted_leT up)]; exact k p _ (hS.newL hp (imL_strs _))⟩
theorem imL.rev {α : Type} [Im G α] : ∀ {vs : List V} {xs : List α}, imL (G := G) H vs xs → imL (G := G) H vs.reverse xs.reverse
  | [], [], _ => True.intro
  | v :: vs, x :: xs, h => by
    rw [List.reverse_cons, List.reverse_cons]
    exact (imL.rev h.2).app (ws := [v]) (ys := [x]) ⟨h.1, True.intro⟩
def revK (K : PySem.W.Frag) (Q : VK) : VK := fun x H1 => ∃ a xs, x = .ref a ∧ SqL K H1 a xs ∧ ∀ p, H1 p = none → Q (.ref p) (upd H1 p (.lst xs.reverse))
theorem c_rev {K : PySem.W.Frag} (h : te σ H (revK K Q)) : tRevL K te σ H Q := h
theorem k_rev {α : Type} [Im G α] {a : Addr} {xs : List α} (hS : Sep H L) (hq : ∃ vs, SqL G.K H a vs ∧ imL (G := G) H vs xs) (k : ∀ p H', Sep H' (lstA p xs.reverse :: L) → Q (.ref p) H') : revK G.K Q (.ref a) H := by
  obtain ⟨vs, h, m⟩ := hq
  exact ⟨a, vs, rfl, h, fun p hp => k p _ (hS.newL hp m.rev)⟩
theorem Sep.rdL {α : Type} [Im G α] {i : Nat} {a : Addr} {xs : List α} (hS : Sep H L) (e : L[i]? = some (lstA a xs)) : ∃ vs, Rd H a (.lst vs) ∧ imL (G := G) H vs xs := by
  obtain ⟨vs, h, m⟩ := hS.lst e
  exact ⟨vs, .inl h, m⟩
end Ml
namespace L2
open PySem PySem.Spec PyProof.Rows PySem.W
end L2
namespace Ml
open PySem PySem.Spec PyProof.Rows L2
variable {G : Gx} {σ : L2.St} {H H' : Hp} {L L' : List (Asn G)} {Q : VK} {te td ty : TE} {D : Ends}
structure Kt where
  l : List Str
  deriving DecidableEq
def Kt.ks (k : Kt) : List Key := k.l.map Sum.inr
theorem Kt.kv (k : Kt) : k.ks.map kV = k.l.map V.str := by unfold Kt.ks; rw [List.map_map]; rfl
theorem inr_inj : ∀ {xs ys : List Str}, xs.map (Sum.inr : Str → Key) = ys.map Sum.inr → xs = ys
  | [], [], _ => rfl
  | [], _ :: _, h => by cases h
  | _ :: _, [], h => by cases h
  | x :: xs, y :: ys, h => by
    simp only [List.map_cons, List.cons.injEq] at h
    rw [Sum.inr.inj h.1, inr_inj h.2]
theorem Kt.inj {a b : Kt} (h : a.ks = b.ks) : a = b := by
  obtain ⟨xs⟩ := a
  obtain ⟨ys⟩ := b
  have : xs = ys := inr_inj h
  rw [this]
instance imKt : Im G Kt := ⟨fun H v x => ∃ a, v = .ref a ∧ H a = some (.tup (x.l.map V.str)), fun ⟨a, e, h⟩ s => ⟨a, e, s.1 a _ h rfl⟩⟩
instance : IsRef G Kt := ⟨fun h => by obtain ⟨a, e, _⟩ := h; exact ⟨a, e⟩⟩
theorem kt_at {a : Addr} {k : Kt} (h : Im.im G H (.ref a) k) : H a = some (.tup (k.l.map V.str)) := by
  obtain ⟨b, e, h⟩ := h
  cases e
  exact h
instance : Lay Kt := ⟨fun x => layAllB x.l⟩
theorem dpStrs {K : PySem.W.Frag} : ∀ xs : List Str, DpAll K H (xs.map V.str) (xs.map PyData.str)
  | [] => .nil
  | x :: r => .cons (.str x) (dpStrs r)
theorem depStrs : ∀ xs : List Str, PyData.depthAll (xs.map PyData.str) = 0
  | [] => rfl
  | x :: r => by
    show max (PyData.depth (.str x)) (PyData.depthAll (r.map PyData.str)) = 0
    rw [depStrs r]; rfl
def pdKt (k : Kt) : PyData := .tuple (k.l.map PyData.str)
theorem canStrs : ∀ xs : List Str, layAllB xs = true → PyData.canLayAll0 (xs.map PyData.str) = true
  | [], _ => rfl
  | x :: r, h => by
    have h : (Lay.lay x && layAllB r) = true := h
    rw [Bool.and_eq_true] at h
    show ((PyData.str x).canLay0 && PyData.canLayAll0 (r.map PyData.str)) = true
    rw [canStrs r h.2, show (PyData.str x).canLay0 = true from h.1]; rfl
theorem eqvStrs : ∀ xs ys : List Str, PyData.eqvAll (xs.map PyData.str) (ys.map PyData.str) = decide (xs = ys)
  | [], [] => rfl
  | [], _ :: _ => rfl
  | _ :: _, [] => rfl
  | x :: xs, y :: ys => by
    show (PyData.eqv (.str x) (.str y) && PyData.eqvAll (xs.map PyData.str) (ys.map PyData.str)) = _
    rw [eqvStrs xs ys, show PyData.eqv (.str x) (.str y) = decide (x = y) from str_beq x y]
    simp
instance pdKtI : Pd G Kt where
  pd := pdKt
  dep := 1
  dp := fun {H v x} h => by
    obtain ⟨a, rfl, g⟩ := h
    exact .tup (SqT.of g) (dpStrs x.l)
  lay_ok := fun x h => canStrs x.l h
  dep_ok := fun x => by
    show PyData.depthAll (x.l.map PyData.str) + 1 ≤ 1
    rw [depStrs]
    exact Nat.le_refl _
  eqv := fun x y => by
    show PyData.eqvAll (x.l.map PyData.str) (y.l.map PyData.str) = _
    rw [eqvStrs]
    obtain ⟨a⟩ := x; obtain ⟨b⟩ := y
    simp
end Ml
namespace Ml
open PySem PySem.Spec PyProof.Rows L2
variable {G : Gx}
section
variable {β : Type} [Im G β]
def imDT (H : Hp) : List (List Key × V) → List (Kt × β) → Prop
  | [], [] => True
  | p :: ps, q :: qs => (p.1 = q.1.ks ∧ Im.im G H p.2 q.2 ∧ ∃ b, H b = some (.tup (q.1.ks.map kV))) ∧ imDT H ps qs
  | _, _ => False
variable {H H' : Hp}
theorem imDT.st : ∀ {ps : List (List Key × V)} {qs : List (Kt × β)}, imDT (G := G) H ps qs → Stab G H H' → imDT (G := G) H' ps qs
  | [], [], _, _ => True.intro
  | _ :: _, _ :: _, h, s => ⟨⟨h.1.1, Im.st h.1.2.1 s, by obtain ⟨b, e⟩ := h.1.2.2; exact ⟨b, s.1 b _ e rfl⟩⟩, imDT.st h.2 s⟩
  | [], _ :: _, h, _ => h
  | _ :: _, [], h, _ => h
theorem imDT.len : ∀ {ps : List (List Key × V)} {qs : List (Kt × β)}, imDT (G := G) H ps qs → ps.length = qs.length
  | [], [], _ => rfl
  | _ :: _, _ :: _, h => by rw [List.length_cons, List.length_cons, imDT.len h.2]
  | [], _ :: _, h => h.elim
  | _ :: _, [], h => h.elim
theorem kt_dec (a b : Kt) : decide (a.ks = b.ks) = decide (a = b) := by
  by_cases h : a = b
  · subst h; simp
  · have : ¬ a.ks = b.ks := fun e => h (Kt.inj e)
    simp [h, this]
theorem imDT.val : ∀ {ps : List (List Key × V)} {qs : List (Kt × β)} (k : Kt), imDT (G := G) H ps qs → (∀ y, dget qs k = some y → ∃ v, valV ps k.ks = some v ∧ Im.im G H v y) ∧ (dget qs k = none → valV ps k.ks = none)
  | [], [], _, _ => ⟨fun y e => (by cases (show (none : Option β) = some y from e)), fun _ => rfl⟩
  | p :: ps, q :: qs, k, ⟨⟨e1, e2, _⟩, h⟩ => by
    have ih := imDT.val k h
    by_cases c : q.1 = k
    · have c1 : p.1 = k.ks := by rw [e1, c]
      have d : dget (q :: qs) k = some q.2 := by simp [dget, List.find?_cons, c]
      rw [d, valV_pos c1]
      exact ⟨fun y e => ⟨p.2, rfl, by cases e; exact e2⟩, fun e => by cases e⟩
    · have c1 : ¬ p.1 = k.ks := fun z => c (Kt.inj (e1.symm.trans z))
      have d : dget (q :: qs) k = dget qs k := by simp [dget, List.find?_cons, c]
      rw [d, valV_neg c1]
      exact ih
  | [], _ :: _, _, h => h.elim
  | _ :: _, [], _, h => h.elim
theorem imDT.any : ∀ {ps : List (List Key × V)} {qs : List (Kt × β)} (k : Kt), imDT (G := G) H ps qs → (ps.any fun kv => decide (kv.1 = k.ks)) = qs.any fun kv => decide (kv.1 = k)
  | [], [], _, _ => rfl
  | p :: ps, q :: qs, k, ⟨⟨e1, _⟩, h⟩ => by
    rw [List.any_cons, List.any_cons, imDT.any k h, e1, kt_dec]
  | [], _ :: _, _, h => h.elim
  | _ :: _, [], _, h => h.elim
theorem imDT.app : ∀ {ps rs : List (List Key × V)} {qs ts : List (Kt × β)}, imDT (G := G) H ps qs → imDT (G := G) H rs ts → imDT (G := G) H (ps ++ rs) (qs ++ ts)
  | [], _, [], _, _, h => h
  | _ :: _, _, _ :: _, _, h, k => ⟨h.1, imDT.app h.2 k⟩
  | [], _, _ :: _, _, h, _ => h.elim
  | _ :: _, _, [], _, h, _ => h.elim
theorem imDT.rep : ∀ {ps : List (List Key × V)} {qs : List (Kt × β)} {k : Kt} {v : V} {y : β}, imDT (G := G) H ps qs → Im.im G H v y →
    imDT (G := G) H (ps.map fun kv => if kv.1 = k.ks then (kv.1, v) else kv) (qs.map fun kv => if kv.1 = k then (kv.1, y) else kv)
  | [], [], _, _, _, _, _ => True.intro
  | p :: ps, q :: qs, k, v, y, ⟨⟨e1, e2, e3⟩, h⟩, hv => by
    refine ⟨?_, imDT.rep h hv⟩
    dsimp only
    by_cases c : q.1 = k
    · have c1 : p.1 = k.ks := by rw [e1, c]
      rw [if_pos c, if_pos c1]; exact ⟨e1, hv, e3⟩
    · have c1 : ¬ p.1 = k.ks := fun z => c (Kt.inj (e1.symm.trans z))
      rw [if_neg c, if_neg c1]; exact ⟨e1, e2, e3⟩
  | [], _ :: _, _, _, _, h, _ => h.elim
  | _ :: _, [], _, _, _, h, _ => h.elim
theorem imDT.put {ps : List (List Key × V)} {qs : List (Kt × β)} {k : Kt} {v : V} {y : β} (h : imDT (G := G) H ps qs) (hv : Im.im G H v y) (hb : ∃ b, H b = some (.tup (k.ks.map kV))) : imDT (G := G) H (putK ps k.ks v) (dput qs k y) := by
  unfold putK dput
  rw [h.any k]
  split
  · exact h.rep hv
  · exact h.app (rs := [(k.ks, v)]) (ts := [(k, y)]) ⟨⟨rfl, hv, hb⟩, True.intro⟩
theorem imDT.at : ∀ {ps : List (List Key × V)} {qs : List (Kt × β)} {j : Nat} {k : List Key} {v : V} {x : Kt}, imDT (G := G) H ps qs → ps[j]? = some (k, v) → (qs.map (·.1))[j]? = some x → k = x.ks
  | p :: _, q :: _, 0, k, v, x, h, e1, e2 => by
    have e1 : p = (k, v) := by simpa using e1
    have e2 : q.1 = x := by simpa using e2
    have := h.1.1
    rw [e1, e2] at this
    exact this
  | _ :: ps, _ :: qs, j + 1, k, v, x, h, e1, e2 => imDT.at (ps := ps) (qs := qs) (j := j) h.2 (by simpa using e1) (by simpa using e2)
  | [], _, _, _, _, _, _, e1, _ => by simp at e1
  | _ :: _, [], _, _, _, _, h, _, _ => h.elim
def dictT (a : Addr) (kvs : List (Kt × β)) : Asn G := ⟨fun H fp => fp = [a] ∧ ∃ ps, H a = some (.dT ps) ∧ imDT (G := G) H ps kvs,
  fun H H' fp ⟨e, ps, h, m⟩ k s => ⟨e, ps, by rw [k a (by rw [e]; simp)]; exact h, m.st s⟩⟩
variable {L L' : List (Asn G)} {σ : L2.St} {Q : VK} {te td ty tx : TE} {k : Kt} {a b : Addr} {xs : List (Kt × β)} {i : Nat}
theorem Sep.dictT (h : Sep H L) (e : L[i]? = some (dictT a xs)) : ∃ ps, H a = some (.dT ps) ∧ imDT (G := G) H ps xs := by
  obtain ⟨fp, _, x⟩ := h.at e
  exact x
theorem Sep.newT (h : Sep H L) {p : Addr} (hp : H p = none) : Sep (upd H p (.dT [])) (Ml.dictT p ([] : List (Kt × β)) :: L) :=
  (h.new (o := .dT []) hp rfl).view fun fp ⟨q, r⟩ => ⟨q, [], r, True.intro⟩
theorem Sep.turnT {o : HO} {ps : List (List Key × V)} {A : Asn G} (h : Sep H L) (e : L[i]? = some A) (hA : ∀ fp, A.sat H fp → fp = [a] ∧ H a = some o) (n : per G o = false) (o' : HO) (n' : per G o' = false) (kd : kindOf o' = kindOf o) (B : Asn G)
    (hB : ∀ H', Stab G H H' → H' a = some o' → B.sat H' [a]) : Sep (upd H a o') (L.set i B) := by
  have h1 : Sep H (L.set i (cell a o)) := h.viewAt e fun fp s => ⟨(hA fp s).1, (hA fp s).2⟩
  have e1 := get_set (y := cell (G := G) a o) e
  have h2 := h1.put (o' := o') e1 n' kd
  rw [set_set] at h2
  have st : Stab G H (upd H a o') := stab_put (h1.getCell e1) n kd
  have h3 := h2.viewAt (B := B) (get_set e) fun fp ⟨q, r⟩ => by subst q; exact hB _ st r
  rw [set_set] at h3
  exact h3
theorem Sep.putT {ys : List (Kt × β)} {ps : List (List Key × V)} (h : Sep H L) (e : L[i]? = some (Ml.dictT a xs)) (m : imDT (G := G) H ps ys) : Sep (upd H a (.dT ps)) (L.set i (Ml.dictT a ys)) := by
  obtain ⟨us, e0, mu⟩ := h.dictT e
  exact h.turnT (ps := ps) (o := .dT us) e (fun fp ⟨q, _⟩ => ⟨q, e0⟩) rfl (.dT ps) rfl rfl _ fun H' st r => ⟨rfl, ps, r, m.st st⟩
theorem k_dnewT (hS : Sep H L) (q : ∀ p H', Sep H' (dictT p ([] : List (Kt × β)) :: L) → Q (.ref p) H') : tDNewT σ H Q := fun p hp => q p _ (hS.newT hp)
theorem kt_kv (hk : Im.im G H (.ref b) k) : H b = some (.tup (k.ks.map kV)) := by rw [k.kv]; exact kt_at hk
theorem dget_atT (hS : Sep H L) (e : L[i]? = some (dictT a xs)) (hk : Im.im G H (.ref b) k) : ∃ r, DGet H a (.ref b) r ∧ (∀ y, dget xs k = some y → ∃ v, r = some v ∧ Im.im G H v y) ∧ (dget xs k = none → r = none) := by
  obtain ⟨ps, h, m⟩ := hS.dictT e
  obtain ⟨v1, v2⟩ := m.val k
  exact ⟨_, DGet.t h (kt_kv hk), v1, v2⟩
theorem dget_someT {y : β} (hS : Sep H L) (e : L[i]? = some (dictT a xs)) (hk : Im.im G H (.ref b) k) (h : dget xs k = some y) : ∃ v, DGet H a (.ref b) (some v) ∧ Im.im G H v y := by
  obtain ⟨r, g, h1, _⟩ := dget_atT hS e hk
  obtain ⟨v, rfl, m⟩ := h1 y h
  exact ⟨v, g, m⟩
def dniK2 (y : V) (Q : VK) : VK := fun x H2 => ∃ a o, x = .ref a ∧ DGet H2 a y o ∧ Q (.bl (!o.isSome)) H2
def dniK (td : TE) (σ : L2.St) (Q : VK) : VK := fun y H1 => td σ H1 (dniK2 y Q)
def dgetK2 (x : V) (Q : VK) : VK := fun y H2 => ∃ a v, x = .ref a ∧ DGet H2 a y (some v) ∧ Q v H2
def dgetK (ty : TE) (σ : L2.St) (Q : VK) : VK := fun x H1 => ty σ H1 (dgetK2 x Q)
theorem c_dni (h : ty σ H (dniK td σ Q)) : tDNotIn ty td σ H Q := h
theorem c_dget (h : td σ H (dgetK ty σ Q)) : tDGet td ty σ H Q := h
theorem k_dni1 {y : V} (h : td σ H (dniK2 y Q)) : dniK td σ Q y H := h
theorem k_dget1 {x : V} (h : ty σ H (dgetK2 x Q)) : dgetK ty σ Q x H := h
theorem k_setDT {v : V} {y : β} {P : Hp → Prop} (hS : Sep H L) (e : L[i]? = some (dictT a xs)) (hk : Im.im G H (.ref b) k) (hv : Im.im G H v y) (hl : xs.length < sizeLine) (e2 : L.set i (dictT a (dput xs k y)) = L') (q : ∀ H', Sep H' L' → P H') : rSetD (.ref a) (.ref b) v H P := by
  obtain ⟨ps, h, m⟩ := hS.dictT e
  refine ⟨a, _, rfl, DPut.t h (kt_kv hk) (by rw [m.len]; exact hl), q _ ?_⟩
  subst e2
  exact hS.putT e (m.put hv ⟨b, kt_kv hk⟩)
def keysK (R : It → Hp → Prop) : VK := fun x H1 => ∃ d o, x = .ref d ∧ ((∃ kvs, H1 d = some (.frz o (.dK kvs)) ∧ R (Itk d o kvs) H1) ∨ ∃ kvs, H1 d = some (.frz o (.dT kvs)) ∧ R (Itkt d o kvs) H1)
theorem c_keys {R : It → Hp → Prop} (h : td σ H (keysK R)) : iKeys td σ H R := h
end
end Ml
namespace Ml
open PySem PySem.Spec PyProof.Rows L2
variable {G : Gx} {σ : L2.St} {H : Hp} {M L : List (Asn G)} {Q : VK}
theorem wp_dgetG {κ β ρ : Type} [DecidableEq κ] {xs : List (κ × β)} {k : κ} {q : ρ → Prop} {e : Exc → Prop} {f : β → R ρ} (h : R.wp ((dgetR xs k).bind f) q e) : ∃ y, dget xs k = some y ∧ R.wp (f y) q e := by
  unfold dgetR at h
  cases c : dget xs k with
  | none => rw [c] at h; exact h.elim
  | some y => rw [c] at h; exact ⟨y, rfl, h⟩
theorem k_tupKt {xs : List Str} (hS : Sep H L) (z : xs.length ≤ sizeLine) (k : ∀ p H', Sep H' (imA (.ref p) (⟨xs⟩ : Kt) :: L) → Q (.ref p) H') : tupK Q (xs.map V.str) H :=
  ⟨by rw [List.length_map]; exact z, fun p hp => k p _ ((hS.more (same_new hp)).addIm ⟨p, rfl, upd_same⟩)⟩
end Ml
namespace L2
open PySem PySem.Spec PyProof.Rows
end L2
namespace Ml
open PySem PySem.Spec PyProof.Rows L2
variable {G : Gx}
section
variable {κ β : Type} [Kx κ] [DecidableEq κ] {H : Hp} {M L : List (Asn G)} {σ : L2.St} {Q : VK} {td ty : TE} {k : κ} {a : Addr} {kvs : List (κ × β)} {E : Addr → β → Asn G}
theorem dget_idx {κ β : Type} [DecidableEq κ] {k : κ} {kvs : List (κ × β)} {y : β} (h : dget kvs k = some y) : ∃ j : Nat, kvs[j]? = some (k, y) := by
  unfold dget at h
  obtain ⟨p, hp, e⟩ := Option.map_eq_some_iff.mp h
  have h1 := List.find?_some hp
  have h1 : p.1 = k := of_decide_eq_true h1
  obtain ⟨j, hj⟩ := List.getElem?_of_mem (List.mem_of_find?_eq_some hp)
  refine ⟨j, ?_⟩
  rw [hj, ← h1, ← e]
end
end Ml
namespace L2
open PySem PySem.Spec PyProof.Rows
def Dsp (P : Program) (w : World) (K : PySem.W.Frag) (mg : Str → Option Value) (base : Heap) (CX : CXT) (k : Nat) (fam : Nat → Bool) (cl : Nat → Addr) (m : Str) (ps : List Str) (sp : Nat → Sp) : Prop :=
  ∀ i, fam i = true → ∃ f fd, Cls K (cl i) ∧ Meth K (cl i) m f ∧ Binds K fd ps [] ∧ FnOk P w K mg base CX k f fd ps (sp i)
theorem Dsp.mono {P : Program} {w : World} {K : PySem.W.Frag} {mg : Str → Option Value} {base : Heap} {CX : CXT} {j k : Nat} {fam : Nat → Bool} {cl : Nat → Addr} {m : Str} {ps : List Str} {sp : Nat → Sp} (D : Dsp P w K mg base CX j fam cl m ps sp) (h : j ≤ k) : Dsp P w K mg base CX k fam cl m ps sp := fun i hi => by
  obtain ⟨f, fd, a, b, c, F⟩ := D i hi
  exact ⟨f, fd, a, b, c, F.mono h⟩
end L2
namespace L2
open PySem PySem.Spec PyProof.Rows
end L2
namespace Ml
open PySem PySem.Spec PyProof.Rows L2
end Ml
namespace Ml
open PySem PySem.Spec PyProof.Rows L2
variable {G : Gx} {σ : L2.St} {H : Hp} {L L' : List (Asn G)} {Q : VK} {te : TE} {D : Ends}
theorem R.wp_ifY {α : Type} {c : Prop} [Decidable c] {a b : R α} {q : α → Prop} {e : Exc → Prop} (h : R.wp (if c then a else b) q e) (x : c) : R.wp a q e := (R.wp_if h).1 x
theorem R.wp_ifN {α : Type} {c : Prop} [Decidable c] {a b : R α} {q : α → Prop} {e : Exc → Prop} (h : R.wp (if c then a else b) q e) (x : ¬ c) : R.wp b q e := (R.wp_if h).2 x
theorem len62 {n : Nat} (h : n ≤ sizeLine) : -(2 ^ 62) ≤ (n : Int) ∧ (n : Int) < 2 ^ 62 := by
  have : sizeLine < 2 ^ 62 := by decide
  exact ⟨by omega, by omega⟩
end Ml
namespace Ml
open PySem PySem.Spec PyProof.Rows L2
end Ml
namespace Ml
open PySem PySem.Spec PyProof.Rows L2
variable {G : Gx} {σ : L2.St} {H : Hp} {L L' : List (Asn G)} {Q : VK} {te ta tb : TE} {D : Ends}
theorem ev_notNr {a : Addr} (ha : Ev ta σ H (.ref a)) : Ev (tNotN ta) σ H (.bl true) := fun Q q => ha _ q
end Ml
namespace Ml
open PySem L2
end Ml
namespace Ml
open PySem PySem.Spec PyProof.Rows L2
end Ml
namespace L2
open PySem PySem.Spec PyProof.Rows
end L2
namespace Ml
open PySem PySem.Spec PyProof.Rows L2
end Ml
namespace Ml
open PySem L2
section
variable {G : Gx} {H : Hp} {σ σ' : L2.St} {tt : TT} {te : TE} {vs : List Nat} {Q : VK} {α β τ ρ : Type} {g : TG}
/-- a comprehension over any target -/
theorem lc_sepG [Im G β] {J : It} {im : Hp → V → α → Prop} {xs : List α} {f : τ → α → R (τ × Option β)} {rest : τ × List β → R ρ} {q : ρ → Prop} {e : Exc → Prop} {s : τ} (M : τ → List (Asn G))
    (hS : Sep H (M s)) (w : ∀ (Dr : Addr) (s : τ) (ys : List β), Wk J (fun (_ : St) H => Sep H (lstA Dr ys :: M s)) im xs) (hl : xs.length ≤ sizeLine) (hm : R.wp ((compR f xs s).bind rest) q e)
    (turn : ∀ (Dr : Addr) (s : τ) (ys : List β) (x : α) (v : V) (H : Hp) (q : τ × Option β → Prop) (Nx : Hp → Prop), Sep H (lstA Dr ys :: M s) → im H v x → R.wp (f s x) q e →
      (∀ s' y u H', q (s', some y) → Im.im G H' u y → Sep H' (lstA Dr ys :: M s') → ∃ acc, H' Dr = some (.lst acc) ∧ acc.length < sizeLine ∧ Nx (upd H' Dr (.lst (acc ++ [u])))) → (∀ s' H', q (s', none) → Sep H' (lstA Dr ys :: M s') → Nx H') →
      g v (wipe σ vs) H fun σ2 H2 => wipe σ2 vs = wipe σ vs ∧ tt σ2 H2 fun b H3 => if b = true then te σ2 H3 fun y H4 => ∃ acc, H4 Dr = some (.lst acc) ∧ acc.length < sizeLine ∧ Nx (upd H4 Dr (.lst (acc ++ [y]))) else Nx H3)
    (done : ∀ (Dr : Addr) (t : τ × List β) H, R.wp (rest t) q e → Sep H (lstA Dr t.2 :: M t.1) → Q (.ref Dr) H) :
    lcK g tt te vs σ Q J H := fun Dr hD =>
  lc_walk (G := G) (I := fun Dr s ys H => Sep H (lstA Dr ys :: M s)) (im := im) (xs := xs) (f := f) (k := fun t => R.wp (rest t) q e) (e := e) (s := s) (w Dr)
    (hS.newL (vs := []) (xs := ([] : List β)) hD True.intro) (R.wp_bind hm) hl
    (fun s ys x v H q Nx hI hv hw _ k1 k2 => turn Dr s ys x v H q Nx hI hv hw k1 k2)
    (fun s ys y u H hI hu => lc_app hI hu)
    (fun s ys H hk hI => done Dr (s, ys) H hk hI)
theorem c_gLT {P : Bool → Hp → Prop} (hw : wipe σ' vs = wipe σ vs) (h : tt σ' H P) : wipe σ' vs = wipe σ vs ∧ tt σ' H P := ⟨hw, h⟩
end
end Ml
namespace L2
open PySem PySem.Spec PyProof.Rows
end L2
namespace Ml
open PySem L2
end Ml
namespace L2
open PySem PySem.Spec PyProof.Rows
end L2
namespace Ml
open PySem L2
end Ml
namespace Ml
open PySem L2
end Ml
namespace L2
open PySem PySem.Spec PyProof.Rows
end L2
namespace Ml
open PySem L2
end Ml
namespace Ml
open PySem L2
end Ml
namespace Ml
open PySem PySem.Spec PyProof.Rows L2
end Ml
namespace Ml
open PySem PySem.Spec PyProof.Rows L2
/-- a tuple, its values told -/
structure TupV where
  vs : List V
section
variable {G : Gx} {α β : Type} {H : Hp} {L M : List (Asn G)} {Q : VK} {p : Addr}
instance imTupV : Im G TupV := ⟨fun H v x => ∃ a, v = .ref a ∧ H a = some (.tup x.vs), fun ⟨a, e, h⟩ s => ⟨a, e, s.1 a _ h rfl⟩⟩
variable [Im G α] [Im G β]
end
end Ml
namespace Ml
open PySem PySem.Spec PyProof.Rows L2
end Ml
namespace Ml
open PySem L2
/-- a field, within a comprehension: its fragment told -/
theorem pe_fldK {X : Cx} {e : Expr} {f : Str} {pos : Pos} {ta : TE} (K : PySem.W.Frag) (he : PE X e ta) (hb : attributeBase e f X.env (eval e X.env) = eval e X.env := by rfl) (hK : X.K = K := by rfl) : PE X (.Attribute e f pos) (tFld K ta f) := by
  subst hK; exact pe_fld he hb
end Ml
namespace Ml
open PySem PySem.Spec PyProof.Rows L2
variable {G : Gx}
section
variable {κ β : Type} [DecidableEq κ] [Kx κ] [Im G β] {H : Hp} {L L' : List (Asn G)} {σ : L2.St} {Q : VK} {te td ty tx : TE} {k : κ} {a : Addr} {xs : List (κ × β)} {i : Nat}
theorem k_dniA (hS : Sep H L) (e : L[i]? = some (dictA a xs)) (q : Q (.bl (!dhas xs k)) H) : dniK2 (kV (Kx.key k)) Q (.ref a) H :=
  ev_dnotin (σ := []) (ty := fun _ H P => P (kV (Kx.key k)) H) (td := fun _ H P => P (.ref a) H) hS e (fun _ q => q) (fun _ q => q) Q q
def get2K (ty tx : TE) (σ : L2.St) (Q : VK) : VK := fun x H1 => ∃ a, x = .ref a ∧ IsD H1 a ∧ ty σ H1 fun y H2 => tx σ H2 fun z H3 => ∃ o, DGet H3 a y o ∧ Q (o.getD z) H3
def get2K2 (a : Addr) (tx : TE) (σ : L2.St) (Q : VK) : VK := fun y H2 => tx σ H2 fun z H3 => ∃ o, DGet H3 a y o ∧ Q (o.getD z) H3
def get2K3 (a : Addr) (y : V) (Q : VK) : VK := fun z H3 => ∃ o, DGet H3 a y o ∧ Q (o.getD z) H3
theorem c_dget2 (h : td σ H (get2K ty tx σ Q)) : tDGet2 td ty tx σ H Q := h
theorem k_get2a (d : IsD H a) (h : ty σ H (get2K2 a tx σ Q)) : get2K ty tx σ Q (.ref a) H := ⟨a, rfl, d, h⟩
theorem k_get2b {y : V} (h : tx σ H (get2K3 a y Q)) : get2K2 a tx σ Q y H := h
theorem k_get2A {z : V} {y : β} (hS : Sep H L) (e : L[i]? = some (dictA a xs)) (hz : Im.im G H z y) (q : ∀ v, Sep H (imA v ((dget xs k).getD y) :: L) → Q v H) : get2K3 a (kV (Kx.key k)) Q z H := by
  obtain ⟨r, g, h1, h2⟩ := dget_at hS e (k := k) rfl
  refine ⟨r, g, ?_⟩
  cases c : dget xs k with
  | none =>
    rw [h2 c]
    exact q z (by rw [c]; exact hS.addIm hz)
  | some w =>
    obtain ⟨v, rfl, m⟩ := h1 w c
    exact q v (by rw [c]; exact hS.addIm m)
def pop1K (ty : TE) (σ : L2.St) (Q : VK) : VK := fun x H1 => ∃ a, x = .ref a ∧ IsD H1 a ∧ ty σ H1 fun y H2 => ∃ kvs k v, H2 a = some (.dK kvs) ∧ y = kV k ∧ valV kvs k = some v ∧ Q v (upd H2 a (.dK (dropK kvs k)))
def pop1K2 (a : Addr) (Q : VK) : VK := fun y H2 => ∃ kvs k v, H2 a = some (.dK kvs) ∧ y = kV k ∧ valV kvs k = some v ∧ Q v (upd H2 a (.dK (dropK kvs k)))
theorem c_dpop1 (h : td σ H (pop1K ty σ Q)) : tDPop1 td ty σ H Q := h
theorem k_pop1a (d : IsD H a) (h : ty σ H (pop1K2 a Q)) : pop1K ty σ Q (.ref a) H := ⟨a, rfl, d, h⟩
theorem k_pop1A {y : β} (hS : Sep H L) (e : L[i]? = some (dictA a xs)) (h : dget xs k = some y) (e2 : L.set i (dictA a (ddrop xs k)) = L') (q : ∀ v H', Sep H' (imA v y :: L') → Q v H') : pop1K2 a Q (kV (Kx.key k)) H := by
  obtain ⟨ps, hp, m⟩ := hS.dict e
  obtain ⟨v, hv, hm⟩ := (m.val k).1 y h
  refine ⟨ps, Kx.key k, v, hp, rfl, hv, q v _ ?_⟩
  subst e2
  have h1 := (hS.addIm hm).putD (i := i + 1) (a := a) (xs := xs) (ys := ddrop xs k) (ps := dropK ps (Kx.key k)) (by simpa using e) (m.drop k)
  simpa using h1
def pop2K (ty tx : TE) (σ : L2.St) (Q : VK) : VK := fun x H1 => ∃ a, x = .ref a ∧ IsD H1 a ∧ ty σ H1 fun y H2 => tx σ H2 fun z H3 => ∃ kvs k, H3 a = some (.dK kvs) ∧ y = kV k ∧
  (∀ v, valV kvs k = some v → Q v (upd H3 a (.dK (dropK kvs k)))) ∧ (valV kvs k = none → Q z H3)
def pop2K2 (a : Addr) (tx : TE) (σ : L2.St) (Q : VK) : VK := fun y H2 => tx σ H2 fun z H3 => ∃ kvs k, H3 a = some (.dK kvs) ∧ y = kV k ∧
  (∀ v, valV kvs k = some v → Q v (upd H3 a (.dK (dropK kvs k)))) ∧ (valV kvs k = none → Q z H3)
def pop2K3 (a : Addr) (y : V) (Q : VK) : VK := fun z H3 => ∃ kvs k, H3 a = some (.dK kvs) ∧ y = kV k ∧
  (∀ v, valV kvs k = some v → Q v (upd H3 a (.dK (dropK kvs k)))) ∧ (valV kvs k = none → Q z H3)
theorem c_dpop2 (h : td σ H (pop2K ty tx σ Q)) : tDPop2 td ty tx σ H Q := h
theorem k_pop2a (d : IsD H a) (h : ty σ H (pop2K2 a tx σ Q)) : pop2K ty tx σ Q (.ref a) H := ⟨a, rfl, d, h⟩
theorem k_pop2b {y : V} (h : tx σ H (pop2K3 a y Q)) : pop2K2 a tx σ Q y H := h
theorem ddrop_no (h : dget xs k = none) : ddrop xs k = xs := by
  unfold dget at h
  unfold ddrop
  refine List.filter_eq_self.mpr fun p hp => ?_
  rw [Option.map_eq_none_iff] at h
  have := List.find?_eq_none.mp h p hp
  simpa using this
/-- .. what it hands back not looked at -/
theorem k_pop2A {z : V} (hS : Sep H L) (e : L[i]? = some (dictA a xs)) (e2 : L.set i (dictA a (ddrop xs k)) = L') (q : ∀ v H', Sep H' L' → Q v H') : pop2K3 a (kV (Kx.key k)) Q z H := by
  obtain ⟨ps, hp, m⟩ := hS.dict e
  obtain ⟨v1, v2⟩ := m.val k
  subst e2
  refine ⟨ps, Kx.key k, hp, rfl, fun v hv => q v _ (hS.putD e (m.drop k)), fun hn => q z _ ?_⟩
  have : dget xs k = none := by
    cases c : dget xs k with
    | none => rfl
    | some y => obtain ⟨v, e, _⟩ := v1 y c; rw [e] at hn; cases hn
  rw [ddrop_no this]
  have : L.set i (dictA a xs) = L := by
    obtain ⟨h1, h2⟩ := List.getElem?_eq_some_iff.mp e
    rw [← h2]; exact List.set_getElem_self h1
  rw [this]; exact hS
def setdK (ty tx : TE) (σ : L2.St) (Q : VK) : VK := fun x H1 => ∃ a, x = .ref a ∧ IsD H1 a ∧ ty σ H1 fun y H2 => tx σ H2 fun z H3 => ∃ (kvs : List (Key × V)) (k : Key), H3 a = some (.dK kvs) ∧ y = kV k ∧ kvs.length < sizeLine ∧
  (∀ v, valV kvs k = some v → Q v H3) ∧ (valV kvs k = none → Q z (upd H3 a (.dK (putK kvs k z))))
def setdK2 (a : Addr) (tx : TE) (σ : L2.St) (Q : VK) : VK := fun y H2 => tx σ H2 fun z H3 => ∃ (kvs : List (Key × V)) (k : Key), H3 a = some (.dK kvs) ∧ y = kV k ∧ kvs.length < sizeLine ∧
  (∀ v, valV kvs k = some v → Q v H3) ∧ (valV kvs k = none → Q z (upd H3 a (.dK (putK kvs k z))))
def setdK3 (a : Addr) (y : V) (Q : VK) : VK := fun z H3 => ∃ (kvs : List (Key × V)) (k : Key), H3 a = some (.dK kvs) ∧ y = kV k ∧ kvs.length < sizeLine ∧
  (∀ v, valV kvs k = some v → Q v H3) ∧ (valV kvs k = none → Q z (upd H3 a (.dK (putK kvs k z))))
theorem c_dsetd (h : td σ H (setdK ty tx σ Q)) : tDSetd td ty tx σ H Q := h
theorem k_setda (d : IsD H a) (h : ty σ H (setdK2 a tx σ Q)) : setdK ty tx σ Q (.ref a) H := ⟨a, rfl, d, h⟩
theorem k_setdb {y : V} (h : tx σ H (setdK3 a y Q)) : setdK2 a tx σ Q y H := h
def dsetd (xs : List (κ × β)) (k : κ) (y : β) : List (κ × β) := if dhas xs k then xs else dput xs k y
theorem k_setdA {z : V} {y : β} (hS : Sep H L) (e : L[i]? = some (dictA a xs)) (hz : Im.im G H z y) (hl : xs.length < sizeLine) (e2 : L.set i (dictA a (dsetd xs k y)) = L')
    (q : ∀ v H', Sep H' (imA v ((dget xs k).getD y) :: L') → Q v H') : setdK3 a (kV (Kx.key k)) Q z H := by
  obtain ⟨ps, h, m⟩ := hS.dict e
  obtain ⟨v1, v2⟩ := m.val k
  unfold dsetd at e2
  refine ⟨ps, Kx.key k, h, rfl, by rw [m.len]; exact hl, fun v hv => q v _ ?_, fun hn => q z _ ?_⟩
  · cases c : dget xs k with
    | none => rw [v2 c] at hv; cases hv
    | some y2 =>
      have : dhas xs k = true := by unfold dhas; rw [c]; rfl
      rw [this] at e2
      subst e2
      have : L.set i (dictA a xs) = L := by
        obtain ⟨h1, h2⟩ := List.getElem?_eq_some_iff.mp e
        rw [← h2]; exact List.set_getElem_self h1
      obtain ⟨v', ev, iv⟩ := v1 y2 c
      rw [ev] at hv; cases hv
      rw [if_pos rfl, this]; exact hS.addIm iv
  · have c : dget xs k = none := by
      cases c : dget xs k with
      | none => rfl
      | some y => obtain ⟨v, e, _⟩ := v1 y c; rw [e] at hn; cases hn
    have : dhas xs k = false := by unfold dhas; rw [c]; rfl
    rw [this] at e2
    subst e2
    rw [if_neg Bool.false_ne_true, c]
    have h1 := (hS.addIm hz).putD (i := i + 1) (a := a) (xs := xs) (ys := dput xs k y) (ps := putK ps (Kx.key k) z) (by simpa using e) (m.put hz)
    simpa using h1
def lockA (a : Addr) (od : Obj) (ps : List (Key × V)) (kvs : List (κ × β)) : Asn G := ⟨fun H fp => fp = [a] ∧ H a = some (.frz od (.dK ps)) ∧ imD (G := G) H ps kvs,
  fun H H' fp ⟨e, h, m⟩ k s => ⟨e, by rw [k a (by rw [e]; simp)]; exact h, m.st s⟩⟩
theorem Sep.turnX {o : HO} {A : Asn G} (h : Sep H L) (e : L[i]? = some A) (hA : ∀ fp, A.sat H fp → fp = [a] ∧ H a = some o) (n : per G o = false) (o' : HO) (n' : per G o' = false) (kd : kindOf o' = kindOf o) (B : Asn G)
    (hB : ∀ H', Stab G H H' → H' a = some o' → B.sat H' [a]) : Sep (upd H a o') (L.set i B) := by
  have h1 : Sep H (L.set i (cell a o)) := h.viewAt e fun fp s => ⟨(hA fp s).1, (hA fp s).2⟩
  have e1 := get_set (y := cell (G := G) a o) e
  have h2 := h1.put (o' := o') e1 n' kd
  rw [set_set] at h2
  have st : Stab G H (upd H a o') := stab_put (h1.getCell e1) n kd
  have h3 := h2.viewAt (B := B) (get_set e) fun fp ⟨q, r⟩ => by subst q; exact hB _ st r
  rw [set_set] at h3
  exact h3
def unlKA (a : Addr) (od : Obj) (ps : List (Key × V)) (Q : VK) : VK := fun v H' => H' a = some (.frz od (.dK ps)) ∧ Q v (upd H' a (.dK ps))
theorem k_lockA (hS : Sep H L) (e : L[i]? = some (dictA a xs)) (k : ∀ od ps H', Sep H' (L.set i (lockA a od ps xs)) → te σ H' (unlKA a od ps Q)) : tLockE te σ H Q := by
  obtain ⟨ps, h, m⟩ := hS.dict e
  exact ⟨a, .dK ps, h, True.intro, fun od => k od ps _ (hS.turnX (o := .dK ps) e (fun fp ⟨q, _⟩ => ⟨q, h⟩) rfl (.frz od (.dK ps)) rfl rfl _ fun H' st r => ⟨rfl, r, m.st st⟩)⟩
theorem k_unlA {od : Obj} {ps : List (Key × V)} {v : V} (hS : Sep H L) (e : L[i]? = some (lockA a od ps xs)) (k : ∀ H', Sep H' (L.set i (dictA a xs)) → Q v H') : unlKA a od ps Q v H := by
  obtain ⟨fp, q0, h, m⟩ := hS.at e
  exact ⟨h, k _ (hS.turnX (o := .frz od (.dK ps)) e (fun fp ⟨q, r, _⟩ => ⟨q, r⟩) rfl (.dK ps) rfl rfl _ fun H' st r => ⟨rfl, ps, r, m.st st⟩)⟩
theorem Sep.lockA {od : Obj} {ps : List (Key × V)} (hS : Sep H L) (e : L[i]? = some (Ml.lockA a od ps xs)) : H a = some (.frz od (.dK ps)) ∧ imD (G := G) H ps xs := by
  obtain ⟨fp, _, x⟩ := hS.at e
  exact x
/-- a statement whose dict is locked: its ends -/
def lockD (a : Addr) (od : Obj) (u : HO) (D : Ends) : Ends := ⟨fun σ' H' => H' a = some (.frz od u) ∧ D.nx σ' (upd H' a u), fun v H' => H' a = some (.frz od u) ∧ D.rt v (upd H' a u), fun σ' H' => H' a = some (.frz od u) ∧ D.bk σ' (upd H' a u), fun σ' H' => H' a = some (.frz od u) ∧ D.ct σ' (upd H' a u)⟩
theorem k_lockSA {t : TS} {D : Ends} (hS : Sep H L) (e : L[i]? = some (dictA a xs)) (k : ∀ od ps H', Sep H' (L.set i (Ml.lockA a od ps xs)) → t (lockD a od (.dK ps) D) σ H') : tLock t D σ H := by
  obtain ⟨ps, h, m⟩ := hS.dict e
  exact ⟨a, .dK ps, h, True.intro, fun od => k od ps _ (hS.turnX (o := .dK ps) e (fun fp ⟨q, _⟩ => ⟨q, h⟩) rfl (.frz od (.dK ps)) rfl rfl _ fun H' st r => ⟨rfl, r, m.st st⟩)⟩
theorem k_unlSA {D : Ends} {od : Obj} {ps : List (Key × V)} (hS : Sep H L) (e : L[i]? = some (Ml.lockA a od ps xs)) (k : ∀ H', Sep H' (L.set i (dictA a xs)) → D.nx σ H') : (lockD a od (.dK ps) D).nx σ H := by
  obtain ⟨fp, q0, h, m⟩ := hS.at e
  exact ⟨h, k _ (hS.turnX (o := .frz od (.dK ps)) e (fun fp ⟨q, r, _⟩ => ⟨q, r⟩) rfl (.dK ps) rfl rfl _ fun H' st r => ⟨rfl, ps, r, m.st st⟩)⟩
theorem k_keysA {od : Obj} {ps : List (Key × V)} {R : It → Hp → Prop} (e : H a = some (.frz od (.dK ps))) (k : R (Itk a od ps) H) : keysK R (.ref a) H := ⟨a, od, rfl, .inl ⟨ps, e, k⟩⟩
def itemsK (R : It → Hp → Prop) : VK := fun x H1 => ∃ d o kvs, x = .ref d ∧ H1 d = some (.frz o (.dK kvs)) ∧ R (Iti d o kvs) H1
theorem c_items {R : It → Hp → Prop} (h : td σ H (itemsK R)) : iItems td σ H R := h
theorem k_itemsA {od : Obj} {ps : List (Key × V)} {R : It → Hp → Prop} (e : H a = some (.frz od (.dK ps))) (k : R (Iti a od ps) H) : itemsK R (.ref a) H := ⟨a, od, ps, rfl, e, k⟩
end
section
variable {β : Type} [Im G β] {H : Hp} {a : Addr} {xs : List (Str × β)}
theorem imD.atS : ∀ {ps : List (Key × V)} {qs : List (Str × β)} {j : Nat} {k : Key} {v : V} {x : Str × β}, imD (G := G) H ps qs → ps[j]? = some (k, v) → qs[j]? = some x → kV k = .str x.1 ∧ Im.im G H v x.2
  | p :: ps, q :: qs, 0, k, v, x, h, e1, e2 => by
    simp only [List.getElem?_cons_zero, Option.some.injEq] at e1 e2
    subst e1; subst e2
    exact ⟨by rw [show k = Kx.key q.1 from h.1.1]; rfl, h.1.2⟩
  | _ :: ps, _ :: qs, j + 1, k, v, x, h, e1, e2 => imD.atS (ps := ps) (qs := qs) (j := j) h.2 (by simpa using e1) (by simpa using e2)
  | [], _, _, _, _, _, _, e1, _ => by simp at e1
  | _ :: _, [], _, _, _, _, h, _, _ => h.elim
theorem wk_keysA {od : Obj} {ps : List (Key × V)} {I : L2.St → Hp → Prop} (f : ∀ σ H, I σ H → H a = some (.frz od (.dK ps)) ∧ imD (G := G) H ps xs) : Wk (Itk a od ps) I (fun _ v (x : Str) => v = .str x) (xs.map (·.1)) where
  go := fun j σ H h l => by
    obtain ⟨h1, m⟩ := f σ H h
    rw [List.length_map] at l
    exact ⟨h1, by rw [m.len]; exact l⟩
  yl := fun j σ H v H' x h e y => by
    obtain ⟨h1, m⟩ := f σ H h
    obtain ⟨rfl, k, w, e1, rfl⟩ := y
    rw [List.getElem?_map] at e
    cases c : xs[j]? with
    | none => rw [c] at e; cases e
    | some z =>
      rw [c] at e
      cases e
      exact ⟨h, (m.atS e1 c).1⟩
  sp := fun σ H h => by
    obtain ⟨h1, m⟩ := f σ H h
    exact ⟨h1, by rw [List.length_map, m.len]; exact Nat.le_refl _⟩
/-- pairs (key, value) walked: each a new tuple -/
theorem wk_itemsA {od : Obj} {ps : List (Key × V)} {I : L2.St → Hp → Prop} (f : ∀ σ H, I σ H → H a = some (.frz od (.dK ps)) ∧ imD (G := G) H ps xs) (mo : ∀ σ H H', I σ H → Same H H' → I σ H') : Wk (Iti a od ps) I (Im.im G) xs where
  go := fun j σ H h l => by
    obtain ⟨h1, m⟩ := f σ H h
    exact ⟨h1, by rw [m.len]; exact l⟩
  yl := fun j σ H v H' x h e y => by
    obtain ⟨h1, m⟩ := f σ H h
    obtain ⟨T, k, w, e1, rfl, hT, rfl⟩ := y
    obtain ⟨e2, im⟩ := m.atS e1 e
    rw [e2]
    have sm := same_new (o := HO.tup [V.str x.1, w]) hT
    refine ⟨mo _ _ _ h sm, ?_⟩
    exact mk2 (H := H) rfl im upd_same (Stab.of_same sm)
  sp := fun σ H h => by
    obtain ⟨h1, m⟩ := f σ H h
    exact ⟨h1, by rw [m.len]; exact Nat.le_refl _⟩
end
section
variable {κ β : Type} [DecidableEq κ] [Kx κ] {H : Hp} {M : List (Asn G)} {σ : L2.St} {Q : VK} {te td ty tx : TE} {k : κ} {a : Addr} {kvs : List (κ × β)} {E : Addr → β → Asn G}
/-- the dict's own cell (locked or not), and all it holds -/
def dictX (u : HO → HO) (E : Addr → β → Asn G) (a : Addr) (ps : List Addr) (kvs : List (κ × β)) : Asn G := star (cell a (u (.dK (refsD kvs ps))) :: elemsE E (ps.zip (kvs.map (·.2))))
def dictXH (u : HO → HO) (E : Addr → β → Asn G) (a : Addr) (ps : List Addr) (kvs : List (κ × β)) (j : Nat) : Asn G := star (cell a (u (.dK (refsD kvs ps))) :: elemsE E ((ps.zip (kvs.map (·.2))).eraseIdx j))
theorem refs_get {ps : List Addr} {j : Nat} {y : β} (hl : ps.length = kvs.length) (hn : (kvs.map (·.1)).Nodup) (hj : kvs[j]? = some (k, y)) : ∃ p, ps[j]? = some p ∧ valV (refsD kvs ps) (Kx.key k) = some (.ref p) := by
  have hlt : j < kvs.length := (List.getElem?_eq_some_iff.mp hj).1
  have hp : ps[j]? = some ps[j] := List.getElem?_eq_getElem (by omega)
  exact ⟨ps[j], hp, refs_val hl hn hj hp⟩
theorem dictE_X (h : Sep H (dictE E a kvs :: M)) : ∃ ps, (ps.length = kvs.length ∧ (kvs.map (·.1)).Nodup) ∧ Sep H (dictX id E a ps kvs :: M) := by
  obtain ⟨ps, h⟩ := Sep.ex h
  obtain ⟨hl, h⟩ := Sep.and h
  exact ⟨ps, hl, h⟩
theorem dictX_E {ps : List Addr} (hl : ps.length = kvs.length ∧ (kvs.map (·.1)).Nodup) (h : Sep H (dictX id E a ps kvs :: M)) : Sep H (dictE E a kvs :: M) := Sep.exI ps (Sep.andI hl h)
theorem dictX_cell {u : HO → HO} {ps : List Addr} (h : Sep H (dictX u E a ps kvs :: M)) : H a = some (u (.dK (refsD kvs ps))) := (Sep.star1 h).getCell (i := 0) rfl
theorem dictE_cell (h : Sep H (dictE E a kvs :: M)) : ∃ ps, (ps.length = kvs.length ∧ (kvs.map (·.1)).Nodup) ∧ H a = some (.dK (refsD kvs ps)) := by
  obtain ⟨ps, hl, h⟩ := dictE_X h
  exact ⟨ps, hl, dictX_cell h⟩
theorem isD_E (h : Sep H (dictE E a kvs :: M)) : IsD H a := by
  obtain ⟨ps, _, hc⟩ := dictE_cell h
  exact .inl ⟨_, .inl hc⟩
theorem outX {u : HO → HO} {ps : List Addr} {j : Nat} {y : β} {p : Addr} (h : Sep H (dictX u E a ps kvs :: M)) (hj : kvs[j]? = some (k, y)) (hp : ps[j]? = some p) : Sep H (E p y :: dictXH u E a ps kvs j :: M) := by
  have h := Sep.star1 h
  have hz : (ps.zip (kvs.map (·.2)))[j]? = some (p, y) := by
    rw [List.getElem?_zip_eq_some]; exact ⟨hp, by rw [List.getElem?_map, hj]; rfl⟩
  have hz2 : (elemsE E (ps.zip (kvs.map (·.2))))[j]? = some (E p y) := by unfold elemsE; rw [List.getElem?_map, hz]; rfl
  have e : (elemsE E (ps.zip (kvs.map (·.2)))).eraseIdx j = elemsE E ((ps.zip (kvs.map (·.2))).eraseIdx j) := by unfold elemsE; rw [erase_map]
  have P := perm_out hz2
  rw [e] at P
  have h2 : Sep H (E p y :: ((cell a (u (.dK (refsD kvs ps))) :: elemsE E ((ps.zip (kvs.map (·.2))).eraseIdx j)) ++ M)) := by
    refine h.perm ?_
    have := (P.symm.cons (cell (G := G) a (u (.dK (refsD kvs ps))))).append_right M
    exact this.trans (by exact List.Perm.swap _ _ _)
  have h3 : Sep H ((cell a (u (.dK (refsD kvs ps))) :: elemsE E ((ps.zip (kvs.map (·.2))).eraseIdx j)) ++ (E p y :: M)) := h2.perm (List.perm_middle.symm)
  exact (Sep.unstar1 h3).perm (List.Perm.swap _ _ _)
theorem set_keys {j : Nat} {y z : β} (hj : kvs[j]? = some (k, y)) : (kvs.set j (k, z)).map (·.1) = kvs.map (·.1) := by
  have hlt : j < kvs.length := (List.getElem?_eq_some_iff.mp hj).1
  have hget : kvs[j] = (k, y) := by rw [List.getElem?_eq_getElem hlt] at hj; exact Option.some.inj hj
  rw [List.map_set]
  have : (kvs.map (·.1))[j]'(by simpa using hlt) = k := by rw [List.getElem_map, hget]
  rw [← this]
  exact List.set_getElem_self _
theorem refs_same : ∀ {l l' : List (κ × β)} {qs : List Addr}, l.map (·.1) = l'.map (·.1) → refsD l qs = refsD l' qs
  | [], [], _, _ => rfl
  | x :: l, y :: l', [], _ => rfl
  | x :: l, y :: l', q :: qs, h => by
    rw [List.map_cons, List.map_cons] at h
    injection h with h1 h2
    show (Kx.key x.1, V.ref q) :: refsD l qs = (Kx.key y.1, V.ref q) :: refsD l' qs
    rw [h1, refs_same h2]
  | [], _ :: _, _, h => by simp at h
  | _ :: _, [], _, h => by simp at h
theorem inX {u : HO → HO} {ps : List Addr} {j : Nat} {y z : β} {p : Addr} (hl : ps.length = kvs.length ∧ (kvs.map (·.1)).Nodup) (hj : kvs[j]? = some (k, y)) (hp : ps[j]? = some p) (h : Sep H (E p z :: dictXH u E a ps kvs j :: M)) : Sep H (dictX u E a ps (dput kvs k z) :: M) := by
  rw [put_at hl.2 hj]
  have hlt : j < kvs.length := (List.getElem?_eq_some_iff.mp hj).1
  have er : refsD (kvs.set j (k, z)) ps = refsD kvs ps := refs_same (set_keys hj)
  have ez : (kvs.set j (k, z)).map (·.2) = (kvs.map (·.2)).set j z := by rw [List.map_set]
  have h2 : Sep H (dictXH u E a ps kvs j :: (E p z :: M)) := h.perm (List.Perm.swap _ _ _)
  have h3 := Sep.star1 h2
  have hz : (ps.zip ((kvs.set j (k, z)).map (·.2)))[j]? = some (p, z) := by
    rw [ez, List.getElem?_zip_eq_some]
    exact ⟨hp, by rw [List.getElem?_set_self (by simpa using hlt)]⟩
  have hz2 : (elemsE E (ps.zip ((kvs.set j (k, z)).map (·.2))))[j]? = some (E p z) := by unfold elemsE; rw [List.getElem?_map, hz]; rfl
  have e : (elemsE E (ps.zip ((kvs.set j (k, z)).map (·.2)))).eraseIdx j = elemsE E ((ps.zip (kvs.map (·.2))).eraseIdx j) := by
    unfold elemsE
    rw [erase_map, ez, zip_hole (by rw [List.length_map]; exact hl.1)]
  have P := perm_out hz2
  rw [e] at P
  unfold dictX
  rw [er]
  refine Sep.unstar1 (h3.perm ?_)
  have q1 : ((cell a (u (.dK (refsD kvs ps))) :: elemsE E ((ps.zip (kvs.map (·.2))).eraseIdx j)) ++ (E p z :: M)).Perm (E p z :: ((cell a (u (.dK (refsD kvs ps))) :: elemsE E ((ps.zip (kvs.map (·.2))).eraseIdx j)) ++ M)) := List.perm_middle
  refine q1.trans ?_
  have := (P.cons (cell (G := G) a (u (.dK (refsD kvs ps))))).append_right M
  exact (List.Perm.swap _ _ _).trans this
theorem keys_put {j : Nat} {y z : β} (hn : (kvs.map (·.1)).Nodup) (hj : kvs[j]? = some (k, y)) : (dput kvs k z).map (·.1) = kvs.map (·.1) := by rw [put_at hn hj, set_keys hj]
/-- d[k], an own thing: taken out -/
theorem k_dgetE (h : Sep H (dictE E a kvs :: M)) {y : β} (hk : dget kvs k = some y) (q : ∀ ps p j, (ps.length = kvs.length ∧ (kvs.map (·.1)).Nodup) → kvs[j]? = some (k, y) → ps[j]? = some p → Sep H (E p y :: dictXH id E a ps kvs j :: M) → Q (.ref p) H) : dgetK2 (.ref a) Q (kV (Kx.key k)) H := by
  obtain ⟨ps, hl, h⟩ := dictE_X h
  obtain ⟨j, hj⟩ := dget_idx hk
  obtain ⟨p, hp, e⟩ := refs_get hl.1 hl.2 hj
  exact ⟨a, .ref p, rfl, .inl ⟨_, Kx.key k, .inl (dictX_cell h), rfl, e.symm⟩, q ps p j hl hj hp (outX h hj hp)⟩
theorem unfocDE {ps : List Addr} {j : Nat} {y z : β} {p : Addr} (hl : ps.length = kvs.length ∧ (kvs.map (·.1)).Nodup) (hj : kvs[j]? = some (k, y)) (hp : ps[j]? = some p) (h : Sep H (E p z :: dictXH id E a ps kvs j :: M)) : Sep H (dictE E a (dput kvs k z) :: M) :=
  dictX_E ⟨by rw [hl.1, ← List.length_map (·.1), ← keys_put (z := z) hl.2 hj, List.length_map], by rw [keys_put hl.2 hj]; exact hl.2⟩ (inX hl hj hp h)
theorem put_same {j : Nat} {y : β} (hn : (kvs.map (·.1)).Nodup) (hj : kvs[j]? = some (k, y)) : dput kvs k y = kvs := by
  rw [put_at hn hj]
  obtain ⟨h1, h2⟩ := List.getElem?_eq_some_iff.mp hj
  rw [← h2]; exact List.set_getElem_self h1
theorem unfocDE0 {ps : List Addr} {j : Nat} {y : β} {p : Addr} (hl : ps.length = kvs.length ∧ (kvs.map (·.1)).Nodup) (hj : kvs[j]? = some (k, y)) (hp : ps[j]? = some p) (h : Sep H (E p y :: dictXH id E a ps kvs j :: M)) : Sep H (dictE E a kvs :: M) := by
  have := unfocDE hl hj hp h
  rw [put_same hl.2 hj] at this; exact this
theorem drop_map {γ : Type} (f : κ × β → γ) : ∀ {l : List (κ × β)} {j : Nat} {y : β}, (l.map (·.1)).Nodup → l[j]? = some (k, y) → ddrop l k = l.eraseIdx j
  | [], _, _, _, h => by simp at h
  | x :: r, 0, y, hn, h => by
    have e : x = (k, y) := by simpa using h
    rw [List.map_cons, List.nodup_cons] at hn
    unfold ddrop
    rw [List.filter_cons_of_neg (by simp [e])]
    refine List.filter_eq_self.mpr fun z hz => ?_
    have : z.1 ≠ k := fun ez => hn.1 (by rw [e]; exact List.mem_map.mpr ⟨z, hz, ez⟩)
    simpa using this
  | x :: r, j + 1, y, hn, h => by
    have h2 : r[j]? = some (k, y) := by simpa using h
    rw [List.map_cons, List.nodup_cons] at hn
    have ne : x.1 ≠ k := fun z => hn.1 (by rw [z]; exact List.mem_map.mpr ⟨(k, y), List.mem_of_getElem? h2, rfl⟩)
    have ih := drop_map f hn.2 h2
    unfold ddrop at ih ⊢
    rw [List.filter_cons_of_pos (by simpa using ne), ih]
    rfl
theorem dropK_refs : ∀ {l : List (κ × β)} {qs : List Addr} {j : Nat} {y : β}, qs.length = l.length → (l.map (·.1)).Nodup → l[j]? = some (k, y) → dropK (refsD l qs) (Kx.key k) = refsD (l.eraseIdx j) (qs.eraseIdx j)
  | [], _, _, _, _, _, h => by simp at h
  | x :: r, [], _, _, hl, _, _ => by simp at hl
  | x :: r, q :: qs, 0, y, hl, hn, h => by
    have e : x = (k, y) := by simpa using h
    rw [List.map_cons, List.nodup_cons] at hn
    show dropK ((Kx.key x.1, V.ref q) :: refsD r qs) (Kx.key k) = refsD r qs
    unfold dropK
    rw [List.filter_cons_of_neg (by simp [e])]
    refine List.filter_eq_self.mpr fun z hz => ?_
    have : z.1 ∈ r.map (fun kv => Kx.key kv.1) := by
      have : ∀ {l : List (κ × β)} {qs : List Addr} {z : Key × V}, z ∈ refsD l qs → z.1 ∈ l.map (fun kv => Kx.key kv.1) := by
        intro l
        induction l with
        | nil => intro qs z hz; cases qs <;> cases hz
        | cons a l ih =>
          intro qs z hz
          cases qs with
          | nil => cases hz
          | cons b qs =>
            rcases List.mem_cons.mp (show z ∈ (Kx.key a.1, V.ref b) :: refsD l qs from hz) with rfl | hz
            · simp
            · rw [List.map_cons]; exact List.mem_cons_of_mem _ (ih hz)
      exact this hz
    obtain ⟨w, hw, ew⟩ := List.mem_map.mp this
    have : z.1 ≠ Kx.key k := fun ez => hn.1 (by rw [e]; exact List.mem_map.mpr ⟨w, hw, Kx.inj (ew.trans ez)⟩)
    simpa using this
  | x :: r, q :: qs, j + 1, y, hl, hn, h => by
    have h2 : r[j]? = some (k, y) := by simpa using h
    rw [List.map_cons, List.nodup_cons] at hn
    have ne : x.1 ≠ k := fun z => hn.1 (by rw [z]; exact List.mem_map.mpr ⟨(k, y), List.mem_of_getElem? h2, rfl⟩)
    have ne2 : ¬ Kx.key x.1 = Kx.key k := fun z => ne (Kx.inj z)
    have ih := dropK_refs (l := r) (qs := qs) (by simpa using hl) hn.2 h2
    show dropK ((Kx.key x.1, V.ref q) :: refsD r qs) (Kx.key k) = (Kx.key x.1, V.ref q) :: refsD (r.eraseIdx j) (qs.eraseIdx j)
    unfold dropK at ih ⊢
    rw [List.filter_cons_of_pos (by simpa using ne2), ih]
theorem zip_erase {α γ : Type} : ∀ {l : List α} {m : List γ} {j : Nat}, l.length = m.length → (l.zip m).eraseIdx j = (l.eraseIdx j).zip (m.eraseIdx j)
  | [], [], _, _ => rfl
  | x :: l, y :: m, 0, _ => rfl
  | x :: l, y :: m, j + 1, h => by
    show (x, y) :: (l.zip m).eraseIdx j = (x, y) :: (l.eraseIdx j).zip (m.eraseIdx j)
    rw [zip_erase (by simpa using h)]
  | [], _ :: _, _, h => by simp at h
  | _ :: _, [], _, h => by simp at h
/-- d.pop(k), an own thing -/
theorem k_pop1E (h : Sep H (dictE E a kvs :: M)) {y : β} (hk : dget kvs k = some y) (q : ∀ p H', Sep H' (E p y :: dictE E a (ddrop kvs k) :: M) → Q (.ref p) H') : pop1K2 a Q (kV (Kx.key k)) H := by
  obtain ⟨ps, hl, h⟩ := dictE_X h
  obtain ⟨j, hj⟩ := dget_idx hk
  obtain ⟨p, hp, e⟩ := refs_get hl.1 hl.2 hj
  refine ⟨refsD kvs ps, Kx.key k, .ref p, dictX_cell h, rfl, e, q p _ ?_⟩
  have h2 : Sep H (dictXH id E a ps kvs j :: E p y :: M) := (outX h hj hp).perm (List.Perm.swap _ _ _)
  have h3 := Sep.star1 h2
  have h4 := h3.put (i := 0) (a := a) (o := .dK (refsD kvs ps)) (o' := .dK (dropK (refsD kvs ps) (Kx.key k))) rfl rfl rfl
  have ed : ddrop kvs k = kvs.eraseIdx j := drop_map (fun z => z) hl.2 hj
  have lj : j < kvs.length := (List.getElem?_eq_some_iff.mp hj).1
  have er := dropK_refs hl.1 hl.2 hj
  rw [er] at h4 ⊢
  rw [ed]
  refine Sep.perm (Sep.exI (ps.eraseIdx j) (Sep.andI ⟨by rw [List.length_eraseIdx, List.length_eraseIdx, hl.1], ?_⟩ (Sep.unstar1 ?_)) : Sep _ (dictE E a (kvs.eraseIdx j) :: E p y :: M)) (List.Perm.swap _ _ _)
  · rw [← erase_map]
    exact hl.2.sublist (List.eraseIdx_sublist ..)
  · have ez : (ps.eraseIdx j).zip ((kvs.eraseIdx j).map (·.2)) = (ps.zip (kvs.map (·.2))).eraseIdx j := by
      rw [← erase_map, zip_erase (by rw [List.length_map]; exact hl.1)]
    rw [ez]
    exact h4
theorem k_newE' (h : Sep H (dictE E a kvs :: E p y :: M)) (hk : dhas kvs k = false) (hz : kvs.length < sizeLine) {P : Hp → Prop} (q : ∀ H', Sep H' (dictE E a (kvs ++ [(k, y)]) :: M) → P H') : rSetD (.ref a) (kV (Kx.key k)) (.ref p) H P :=
  k_newE h (fun hm => by
    obtain ⟨z, hz, e⟩ := List.mem_map.mp hm
    unfold dhas dget at hk
    rw [Option.isSome_map] at hk
    have : (kvs.find? fun kv => decide (kv.1 = k)).isSome = true := List.find?_isSome.mpr ⟨z, hz, by simpa using e⟩
    rw [this] at hk; cases hk) hz q
theorem newE0 {p : Addr} (hp : H p = none) (hS : Sep H M) : Sep (upd H p (.dK [])) (dictE E p ([] : List (κ × β)) :: M) :=
  Sep.exI [] (Sep.andI ⟨rfl, List.nodup_nil⟩ (Sep.unstar1 (L := [cell p (.dK [])]) (hS.new (o := .dK []) hp rfl)))
theorem k_dnewE (hS : Sep H M) (q : ∀ p H', Sep H' (dictE E p ([] : List (κ × β)) :: M) → Q (.ref p) H') : tDNewK σ H Q := fun p hp => q p _ (newE0 hp hS)
end
section
variable {β : Type} {H : Hp} {L : List (Asn G)} {Q : VK} {a : Addr} {i : Nat}
def rSortD : List V → Hp → VK → Prop := fun xs H Q => ∃ (a : Addr) (kvs : List (Key × V)) (ks : List Str), xs = [.ref a] ∧ Rd H a (.dK kvs) ∧ kvs.map (·.1) = ks.map Sum.inr ∧ ks.length < 64 ∧
    ∀ ys p, ys.Perm ks → sortedS ys = true → H p = none → Q (.ref p) (upd H p (.lst (ys.map V.str)))
theorem cr_sortD {X : Cx} (hc : X.calm = true) : CallR X (.builtin "sorted") rSortD := call_sortedD hc
theorem k_sortRd {ks : List (Key × V)} {ss : List Str} (hS : Sep H L) (hc : Rd H a (.dK ks)) (e : ks.map (·.1) = ss.map Sum.inr) (h : ss.length < 64) (k : ∀ p H', Sep H' (lstA p (sortT ss) :: L) → Q (.ref p) H') : rSortD [.ref a] H Q :=
  ⟨a, ks, ss, rfl, hc, e, h, fun ys p pm srt hp => k p _ (hS.newL hp (imL.flat.mpr (by rw [sortT_of pm (sorted_leT srt)]; rfl)))⟩
theorem k_sortDA [Im G β] {xs : List (Str × β)} (hS : Sep H L) (e : L[i]? = some (dictA a xs)) (h : xs.length < 64) (k : ∀ p H', Sep H' (lstA p (sortT (xs.map (·.1))) :: L) → Q (.ref p) H') : rSortD [.ref a] H Q := by
  obtain ⟨ps, hc, m⟩ := hS.dict e
  exact k_sortRd hS (.inl hc) (by rw [m.keys, List.map_map]; rfl) (by rw [List.length_map]; exact h) k
end
section
variable {β : Type} [Im G β] {H : Hp} {L L' : List (Asn G)} {Q : VK} {a b : Addr} {i : Nat} {xs : List (Kt × β)} {k : Kt}
theorem isD_T (hS : Sep H L) (e : L[i]? = some (dictT a xs)) : IsD H a := by
  obtain ⟨ps, h, _⟩ := hS.dictT e
  exact .inr ⟨ps, .inl h⟩
theorem k_get2T {z : V} {y : β} (hS : Sep H L) (e : L[i]? = some (dictT a xs)) (hk : Im.im G H (.ref b) k) (hz : Im.im G H z y) (q : ∀ v, Sep H (imA v ((dget xs k).getD y) :: L) → Q v H) : get2K3 a (.ref b) Q z H := by
  obtain ⟨r, g, h1, h2⟩ := dget_atT hS e hk
  refine ⟨r, g, ?_⟩
  cases c : dget xs k with
  | none =>
    rw [h2 c]
    exact q z (by rw [c]; exact hS.addIm hz)
  | some w =>
    obtain ⟨v, rfl, m⟩ := h1 w c
    exact q v (by rw [c]; exact hS.addIm m)
theorem imDT.drop : ∀ {ps : List (List Key × V)} {qs : List (Kt × β)} (k : Kt), imDT (G := G) H ps qs → imDT (G := G) H (dropK ps k.ks) (ddrop qs k)
  | [], [], _, _ => True.intro
  | p :: ps, q :: qs, k, ⟨⟨e1, e2⟩, h⟩ => by
    have ih := imDT.drop k h
    unfold dropK ddrop at ih ⊢
    rw [List.filter_cons, List.filter_cons]
    by_cases c : q.1 = k
    · have c1 : p.1 = k.ks := by rw [e1, c]
      simp only [c, c1, ne_eq, not_true_eq_false, decide_false, Bool.false_eq_true, if_false]
      exact ih
    · have c1 : ¬ p.1 = k.ks := fun z => c (Kt.inj (e1.symm.trans z))
      simp only [c, c1, ne_eq, not_false_eq_true, decide_true, if_true]
      exact ⟨⟨e1, e2⟩, ih⟩
  | [], _ :: _, _, h => h.elim
  | _ :: _, [], _, h => h.elim
def rPopT1 : V → List V → Hp → VK → Prop := fun x xs H Q => ∃ (a : Addr) (kvs : List (List L2.Key × V)) (k : List L2.Key) (b : Addr) (v : V), x = .ref a ∧ xs = [.ref b] ∧ H a = some (.dT kvs) ∧ H b = some (.tup (k.map kV)) ∧ valV kvs k = some v ∧
  Q v (upd H a (.dT (dropK kvs k)))
theorem k_pop1T {y : β} (hS : Sep H L) (e : L[i]? = some (dictT a xs)) (hk : Im.im G H (.ref b) k) (h : dget xs k = some y) (e2 : L.set i (dictT a (ddrop xs k)) = L') (q : ∀ v H', Sep H' (imA v y :: L') → Q v H') : rPopT1 (.ref a) [.ref b] H Q := by
  obtain ⟨ps, hp, m⟩ := hS.dictT e
  obtain ⟨v, hv, hm⟩ := (m.val k).1 y h
  refine ⟨a, ps, k.ks, b, v, rfl, rfl, hp, kt_kv hk, hv, q v _ ?_⟩
  subst e2
  have h1 := (hS.addIm hm).putT (i := i + 1) (a := a) (xs := xs) (ys := ddrop xs k) (ps := dropK ps k.ks) (by simpa using e) (m.drop k)
  simpa using h1
end
end Ml
namespace Ml
open PySem PySem.W PySem.Calls PyProof.Rows PyProof.V PySem.Spec
section
open DT
variable {K : Type} [DecidableEq K] {prog : Program} {w : World} {knd : HeapKind prog w K}
theorem meetsPop1 {d b : Addr} {k : K} (hd : (d == sysModules) = false) :
    MeetsIn prog w (Builtin.«dict.pop» ⟨[.ref d, .ref b], []⟩) (fun A R s => ∃ xs, knd.room A.in1 ∧ knd.is s.heap k b ∧ s.heap.DictOfH knd d xs ∧ xs.length ≤ sizeLine ∧
      atKey xs k ≠ none ∧
      ∀ p, atKey xs k = some p → ∀ h' tk, h'.DictOfH knd d (dropH xs k) → Heap.SameBut d s.heap h' → R (.ok (.ret p.2)) { s with heap := h', toks := tk }) :=
  .of_wp fun A R s ⟨xs, hu, hkey, hm, hsz, hnone, hsome⟩ => by
    obtain ⟨o, es, ep, ho, hc, hdat, he, his, hn⟩ := id hm
    have hes : es.size = xs.length := size_of_entries he
    have hpart : (keyPart (Value.ref b)).isSome = false := rfl
    unfold Builtin.«dict.pop»
    refine wpAny_bind ?_
    unfold Builtin.Dict.keyAndDefault
    refine wpAny_bind (wpAny_notOrdered_dict hm.typeIs ?_)
    show wpAny _ _ (pure (d, Value.ref b, none)) _ _ s
    refine wpAny_pure ?_
    simp only [hpart, Bool.false_eq_true, if_false]
    refine wpAny_bind (wpAny_dictEntries ho hdat (wpAny_bind (wpAny_pure ?_)))
    cases hem : es.isEmpty with
    | true =>
      have h0 : xs = [] := by
        have z : es.size = 0 := by simpa using hem
        exact List.length_eq_zero_iff.mp (by omega)
      exact absurd (by rw [h0]; rfl) hnone
    | false =>
      simp only [Bool.false_eq_true, if_false]
      refine wpAny_bind (takeH hu hkey hm hsz (fun hno => absurd hno hnone) fun p e hp hev h' hm' hs' => ?_)
      simp only [Option.isNone_some, Bool.false_eq_true, if_false]
      exact wpAny_bind (wpAny_letGo (wpAny_pure ⟨e.val, rfl, by rw [hev]; exact hsome p hp h' _ hm' hs'⟩))
end
end Ml
namespace Ml
open PySem PySem.Spec PyProof.Rows L2 L2.DX
section
variable {X : Cx}
theorem mt_popT1 (hu : X.A.units + 1 < cLine) : MtR X "dict.pop" rPopT1 := by
  intro pins s σ H x xs v us Q I rx rxs h
  obtain ⟨a, kvs, k, b, v1, rfl, rfl, ha, hb, hv, q1⟩ := h
  cases rx
  obtain ⟨u1, rfl, r1⟩ := vals1 rxs
  cases r1
  obtain ⟨z, hd, xs', rel, dd⟩ := dt_of I.hok ha
  have hz : xs'.length ≤ sizeLine := by rw [← Paired.length rel]; exact z
  have r0 := rel.val k
  refine call_meetsIn PySem.F.slot_dict_pop dd.typeIs PySem.F.entry_dict_pop (PySem.F.args_dict_pop_2 _ _) (meetsPop1 (knd := tupleKind (mixKind X.prog X.w)) (k := k) hd)
    ⟨xs', tupleKind_room_in1 hu, key_of I.hok hb, dd, hz, fun hn => ?_, fun p hp h' tk dd' hs => ?_⟩
  · rw [hn, hv] at r0
    exact r0
  · have r := rel.val k
    rw [hp, hv] at r
    obtain ⟨o, es, ep, hq, h2, h3, h4, _, h5⟩ := dd'
    have I2 : Inv X pins σ (upd H a (.dT (dropK kvs k))) { s with heap := h', toks := tk } :=
      d_write I (by rw [ha]; exact True.intro) hs ⟨o, hq⟩ ⟨Nat.le_trans (dropK_le kvs k) z, hd, _, (KT_drop k rel).keeps (fun c ys ec => (by rw [upd_ne (ne_of ec ha (fun z => nomatch z))]; exact ec)), o, es, ep, hq, h2, h3, h4, h5⟩
    show EP X pins σ Q p.2 _
    exact ⟨v1, _, I2, r, q1⟩
end
end Ml
namespace Ml
open PySem PySem.Spec PyProof.Rows L2
variable {G : Gx}
section
variable {κ β : Type} [DecidableEq κ] [Kx κ] {H : Hp} {L : List (Asn G)} {σ : L2.St} {Q : VK} {td ty : TE} {k : κ} {a : Addr} {i : Nat} {kvs : List (κ × β)} {E : Addr → β → Asn G}
theorem sat_front {A : Asn G} (h : Sep H L) (e : L[i]? = some A) : ∃ M, Sep H (A :: M) := ⟨_, h.perm (pull_perm e)⟩
theorem isD_Ei (h : Sep H L) (e : L[i]? = some (dictE E a kvs)) : IsD H a := by
  obtain ⟨M, h⟩ := sat_front h e
  exact isD_E h
theorem k_dgetV {y v : V} (g : DGet H a y (some v)) (q : Q v H) : dgetK2 (.ref a) Q y H := ⟨a, v, rfl, g, q⟩
theorem wp_dgetX {ρ β : Type} {kvs : List (κ × β)} {q : ρ → Prop} {e : Exc → Prop} {f : β → R ρ} (h : R.wp ((dgetR kvs k).bind f) q e) : ∃ y, dget kvs k = some y ∧ R.wp (f y) q e := by
  unfold dgetR at h
  cases c : dget kvs k with
  | none => rw [c] at h; exact h.elim
  | some y => rw [c] at h; exact ⟨y, rfl, h⟩
end
end Ml
namespace Ml
open PySem PySem.Spec PyProof.Rows L2
end Ml
namespace Ml
open PySem PySem.Spec PyProof.Rows L2
variable {G : Gx}
section
variable {κ β : Type} [DecidableEq κ] [Kx κ] {H : Hp} {M L : List (Asn G)} {σ : L2.St} {td ty : TE} {k : κ} {a : Addr} {i : Nat} {kvs : List (κ × β)} {E : Addr → β → Asn G}
theorem prefocD (h : Sep H (dictE E a kvs :: M)) {y : β} (hk : dget kvs k = some y) : ∃ ps p j, (ps.length = kvs.length ∧ (kvs.map (·.1)).Nodup) ∧ kvs[j]? = some (k, y) ∧ ps[j]? = some p ∧ Sep H (E p y :: dictXH id E a ps kvs j :: M) := by
  obtain ⟨ps, hl, h⟩ := dictE_X h
  obtain ⟨j, hj⟩ := dget_idx hk
  obtain ⟨p, hp, e⟩ := refs_get hl.1 hl.2 hj
  exact ⟨ps, p, j, hl, hj, hp, outX h hj hp⟩
theorem hole_get {ps : List Addr} {p : Addr} {j : Nat} {y : β} (h : Sep H L) (e : L[i]? = some (dictXH id E a ps kvs j)) (hl : ps.length = kvs.length ∧ (kvs.map (·.1)).Nodup) (hj : kvs[j]? = some (k, y)) (hp : ps[j]? = some p) : DGet H a (kV (Kx.key k)) (some (.ref p)) := by
  obtain ⟨M, h⟩ := sat_front h e
  have hc : H a = some (.dK (refsD kvs ps)) := (Sep.star1 h).getCell (i := 0) rfl
  exact .inl ⟨_, Kx.key k, .inl hc, rfl, (refs_val hl.1 hl.2 hj hp).symm⟩
theorem ev_dgetV {v y : V} (hd : Ev td σ H (.ref a)) (hy : Ev ty σ H y) (g : DGet H a y (some v)) : Ev (tDGet td ty) σ H v := fun Q q => hd _ (hy _ ⟨a, v, rfl, g, q⟩)
end
end Ml
namespace Ml
open PySem PySem.Spec PyProof.Rows L2
variable {G : Gx}
theorem m1 {X : Cx} {o : Expr} {m : Str} {apos : Pos} {e : Expr} {cpos : Pos} (base : attributeBase o m X.env (eval o X.env) = eval o X.env := by rfl)
  (few : ((backTo cpos (starEach [e] X.env)).all (fun x => !x.1) && (backToKw cpos (keywordEach [] X.env)).all (fun x => x.1.isSome)
    && decide (([e] : List Expr).length + ([] : List Keyword).length + (if ([] : List Keyword).isEmpty then 0 else 1) < 30)) = true := by rfl)
  (line : (apos.endLine == cpos.line) = true := by rfl) (trees : backTo cpos (starEach [e] X.env) = [(false, eval e X.env)] := by rfl) : M1 X o m apos e cpos := ⟨base, few, line, trees⟩
theorem tyDT {β : Type} [Im G β] {H : Hp} {L : List (Asn G)} {i : Nat} {a : Addr} {xs : List (Kt × β)} (hS : Sep H L) (e : L[i]? = some (dictT a xs)) : tyV G.K "dict" (.ref a) H := by
  obtain ⟨ps, h, _⟩ := hS.dictT e
  exact .inr (.inr (.inl ⟨rfl, .inr ⟨_, h⟩⟩))
end Ml
namespace Ml
open PySem PySem.Spec PyProof.Rows L2
end Ml
namespace Ml
open PySem PySem.Spec PyProof.Rows L2
variable {G : Gx} {H : Hp}
def sii (x : T3 Str Int Int) : Any := .tup [.str x.a, .int x.b, .int x.c]
theorem im_sii {v : V} {x : T3 Str Int Int} (h : Im.im G H v x) : Im.im G H v (sii x) := by
  obtain ⟨a, rfl⟩ := isref h
  obtain ⟨u1, u2, u3, hT, h1, h2, h3⟩ := im3 h
  exact any_tup.mpr ⟨_, _, rfl, hT, any_str.mpr h1, any_int.mpr h2, any_int.mpr h3, True.intro⟩
theorem imL_sii : ∀ {vs : List V} {xs : List (T3 Str Int Int)}, imL (G := G) H vs xs → imL (G := G) H vs (xs.map sii)
  | [], [], _ => True.intro
  | v :: vs, x :: xs, h => ⟨im_sii h.1, imL_sii h.2⟩
  | [], _ :: _, h => h.elim
  | _ :: _, [], h => h.elim
theorem any_lstSII {v : V} {xs : List (T3 Str Int Int)} (h : Im.im G H v xs) : Im.im G H v (Any.lst (xs.map sii)) := by
  obtain ⟨a, vs, e, g, m⟩ := h
  exact any_lsts.mpr ⟨a, vs, e, g, imL_sii m⟩
end Ml
namespace Ml
open PySem PySem.Spec PyProof.Rows L2
end Ml
namespace Ml
open PySem PySem.Spec PyProof.Rows L2
structure Opq where
variable {G : Gx} {H : Hp}
instance imOpq : Im G Opq := ⟨fun _ _ _ => True, fun _ _ => trivial⟩
theorem opq_i {v : V} : Im.im G H v (Opq.mk) := trivial
end Ml
namespace L2
open PySem PySem.Spec PyProof.Rows Ml
def tStepL (K : PySem.W.Frag) (te ts : TE) : TE := fun σ H Q => te σ H fun x H1 => ts σ H1 fun y H2 => ∃ a xs i, x = .ref a ∧ y = .int i ∧ SqL K H2 a xs ∧ (i = 1 ∨ i = -1) ∧ ∀ p, H2 p = none → Q (.ref p) (upd H2 p (.lst (if i = 1 then xs else xs.reverse)))
section
variable {X : Cx}
theorem pick_one (items : Array Value) : slicePick items none none (some 1) = items := slicePick_all items
theorem pe_stepLK {e e2 : Expr} {te ts : TE} {p3 pos : Pos} (K : PySem.W.Frag) (he : PE X e te) (h2 : PE X e2 ts) (hK : X.K = K := by rfl) : PE X (.Subscript e (.Slice none none (some e2) p3) pos) (tStepL K te ts) := by
  subst hK
  refine ⟨fun pins s σ H Q I h => ?_⟩
  refine Subscript_ (thn (he.run pins s σ H _ I h) fun v s1 ⟨x, H1, I1, r1, q1⟩ => ?_)
  refine wpAny_Slice (thn (po_none.run pins s1 σ H1 (fun o H2 => o = none ∧ H2 = H1) I1 ⟨rfl, rfl⟩) fun vl s2 ⟨l, H2, I2, pl, el, e2⟩ => ?_)
  subst el e2
  refine thn (po_none.run pins s2 σ H2 (fun o H3 => o = none ∧ H3 = H2) I2 ⟨rfl, rfl⟩) fun vu s3 ⟨u, H3, I3, pu, eu, e3⟩ => ?_
  subst eu e3
  rw [evalPart_some]
  refine thn (h2.run pins s3 σ H3 _ I3 q1) fun vs s4 ⟨y, H4, I4, ry, q4⟩ => ?_
  obtain ⟨a, xs, i, rfl, rfl, hx, hi, q⟩ := q4
  cases r1
  obtain ⟨tk, rfl⟩ := ry
  have I5 : Inv X pins σ H4 { s4 with heap := s4.heap.push { cls := .type "slice", data := .fields #[vl, vu, .int i tk] } } := I4.kept (t' := s4.toks) fun b ob q => Heap.get?_push_of_some _ q
  obtain ⟨its, r, ht, hz⟩ := I5.list hx
  have hlen := r.length
  show wpAny (model X.prog X.w) X.A (subscriptTail e (.Slice none none (some e2) p3) (.ref a) (.ref s4.heap.objs.size)) (EP X pins σ Q) X.xe { s4 with heap := s4.heap.push { cls := .type "slice", data := .fields #[vl, vu, .int i tk] } }
  refine tail_any (ops := [.ref a, .ref s4.heap.objs.size]) ht.isList.typeIs (PySem.slot_list_getitem.lookup) ?_ (by with_unfolding_all rfl)
  refine wpAny_getItem_list_slice ht.isList (Heap.IsSliceOf.new _ vl vu (.int i tk)) pl pu (.int i tk) (by rcases hi with rfl | rfl <;> decide) ?_ (by rw [List.size_toArray]; omega)
  rcases hi with rfl | rfl
  · rw [pick_one]
    refine ⟨.ref _, _, I5.laid (t' := s4.toks) (o := .lst xs) (fun b ob q => Heap.get?_push_of_some _ q) (Nat.le_refl _) ?_, rfl, q _ (I5.hok.fresh (Nat.le_refl _))⟩
    exact ⟨hz, _, 0, r, Heap.get?_push_size _ rfl⟩
  · rw [PySem.W.krv_pick]
    refine ⟨.ref _, _, I5.laid (t' := s4.toks) (o := .lst xs.reverse) (fun b ob q => Heap.get?_push_of_some _ q) (Nat.le_refl _) ?_, rfl, q _ (I5.hok.fresh (Nat.le_refl _))⟩
    exact ⟨by rw [List.length_reverse]; exact hz, _, 0, r.reverse, Heap.get?_push_size _ rfl⟩
end
end L2
namespace Ml
open PySem PySem.Spec PyProof.Rows L2
variable {G : Gx} {σ : L2.St} {H : Hp} {L : List (Asn G)} {Q : VK} {te ts : TE}
def stepK2 (K : PySem.W.Frag) (x : V) (Q : VK) : VK := fun y H2 => ∃ a xs i, x = .ref a ∧ y = .int i ∧ SqL K H2 a xs ∧ (i = 1 ∨ i = -1) ∧ ∀ p, H2 p = none → Q (.ref p) (upd H2 p (.lst (if i = 1 then xs else xs.reverse)))
def stepK (K : PySem.W.Frag) (ts : TE) (σ : L2.St) (Q : VK) : VK := fun x H1 => ts σ H1 (stepK2 K x Q)
theorem c_step {K : PySem.W.Frag} (h : te σ H (stepK K ts σ Q)) : tStepL K te ts σ H Q := h
theorem k_step1 {K : PySem.W.Frag} {x : V} (h : ts σ H (stepK2 K x Q)) : stepK K ts σ Q x H := h
theorem k_step2 {α : Type} [Im G α] {a : Addr} {xs : List α} {i : Int} (hS : Sep H L) (hq : ∃ vs, SqL G.K H a vs ∧ imL (G := G) H vs xs) (hi : i = 1 ∨ i = -1) (k : ∀ p H', Sep H' (lstA p (if i = 1 then xs else xs.reverse) :: L) → Q (.ref p) H') : stepK2 G.K (.ref a) Q (.int i) H := by
  obtain ⟨vs, h, m⟩ := hq
  refine ⟨a, vs, i, rfl, rfl, h, hi, fun p hp => k p _ (hS.newL hp ?_)⟩
  rcases hi with rfl | rfl
  · exact m
  · exact m.rev
end Ml
namespace Ml
open PySem PySem.Spec PyProof.Rows L2
section
variable {G : Gx} {κ β : Type} [DecidableEq κ] [Kx κ] [Im G β] {H : Hp} {L : List (Asn G)} {i : Nat} {a : Addr} {xs : List (κ × β)} {k : κ}
/-- d[k], d locked -/
theorem dgetL_some {od : Obj} {ps : List (Key × V)} {y : β} (hS : Sep H L) (e : L[i]? = some (lockA a od ps xs)) (h : dget xs k = some y) : ∃ v, DGet H a (kV (Kx.key k)) (some v) ∧ Im.im G H v y := by
  obtain ⟨ho, m⟩ := hS.lockA e
  obtain ⟨v, hv, hm⟩ := (m.val k).1 y h
  exact ⟨v, .inl ⟨ps, Kx.key k, .inr ⟨od, ho⟩, rfl, hv.symm⟩, hm⟩
end
end Ml
namespace Lw
open PySem PySem.Spec PyProof.Rows L2 Ml
def top (i : Nat) : Stmt := PySem.Challenge.pw_mailroom_k33_whole_by_any_road.main.body.getD i (.Pass ⟨0, 0, 0, 0⟩)
abbrev s_Folders___init__ : Stmt := inClass (top 5) 0
abbrev s_Folders_need : Stmt := inClass (top 5) 1
abbrev s_Folders_tally : Stmt := inClass (top 5) 2
abbrev s_Folders_shift : Stmt := inClass (top 5) 3
abbrev s_Folders_add : Stmt := inClass (top 5) 4
abbrev s_Folders_take_out : Stmt := inClass (top 5) 5
abbrev s_Folders_place : Stmt := inClass (top 5) 6
abbrev s_Folders_mark : Stmt := inClass (top 5) 7
abbrev s_Folders_unmark : Stmt := inClass (top 5) 8
abbrev s_Folders_folder : Stmt := inClass (top 5) 9
abbrev s_Folders_marks : Stmt := inClass (top 5) 10
abbrev s_Folders_counts : Stmt := inClass (top 5) 11
abbrev s_Folders_marked : Stmt := inClass (top 5) 12
abbrev s_Folders_names : Stmt := inClass (top 5) 13
abbrev s_Folders_folders : Stmt := inClass (top 5) 14
abbrev s_law_row : Stmt := top 7
abbrev s_law_word : Stmt := top 8
abbrev s_law_some : Stmt := top 13
abbrev s_law_road : Stmt := top 14
abbrev s_law_counted_plainly : Stmt := top 15
abbrev s_law_seen : Stmt := top 16
abbrev s_law : Stmt := top 17
def asM : List Addr := ([3, 24, 37, 151, 2, 23, 36, 150, 53, 60, 67, 74, 82, 89, 96, 103, 110, 117, 124, 131, 138, 143, 148, 162, 167, 196, 203, 208, 213, 218, 15, 22, 28, 35, 47, 49, 50, 54, 56, 57] : List Addr) ++ ([61, 63, 64, 68, 70, 71, 75, 76, 78, 79, 83, 85, 86, 90, 92, 93, 97, 99, 100, 104, 106, 107, 111, 113, 114, 118, 120, 121, 125, 127, 128, 132, 134, 135, 139, 144, 149, 156, 158, 159] : List Addr) ++ ([163, 192, 197, 199, 200, 204, 209, 214, 25, 52, 59, 66, 73, 81, 88, 95, 102, 109, 116, 123, 130, 137, 142, 147, 152, 153, 161, 166, 195, 202, 207, 212, 217] : List Addr)
def conS (K : PySem.W.Frag) (x : Str) (i : Str) : Bool := match PySem.W.nsIn K mainGlobals x with
  | some (some (.str j _)) => decide (j = i)
  | _ => false
theorem conS_ok {K : PySem.W.Frag} {x : Str} {i : Str} (c : conS K x i = true) : ∃ t, PySem.W.nsIn K mainGlobals x = some (some (.str i t)) := by
  unfold conS at c
  split at c
  · rename_i j t e
    have ej : j = i := of_decide_eq_true c
    exact ⟨t, by rw [e, ej]⟩
  · cases c
theorem fxM {l : List Bool} (h : l.all id = true) (i : Nat) {b : Bool} (e : l[i]? = some b) : b = true := List.all_eq_true.mp h b (List.mem_of_getElem? e)
def fb0 (K : PySem.W.Frag) : List Bool := [
  decide (PySem.W.nsIn K mainGlobals "MailError" = some (some (.ref 24))),
  decide (PySem.W.nsIn K mainGlobals "NoName" = some (some (.ref 37))),
  decide (PySem.W.nsIn K mainGlobals "Folders" = some (some (.ref 151))),
  decide (PySem.W.findIn K (.ref 151) "__init__" = some (some (.ref 53))),
  decide (PySem.W.isFn K (.ref 53) = true),
  decide (PySem.W.makesIn K 151 = true),
  decide (PySem.W.keepIn K (.ref 151) = true),
  decide (PySem.W.findIn K (.ref 151) "need" = some (some (.ref 60))),
  decide (PySem.W.isFn K (.ref 60) = true),
  decide (PySem.W.findIn K (.ref 151) "tally" = some (some (.ref 67))),
  decide (PySem.W.isFn K (.ref 67) = true),
  decide (PySem.W.findIn K (.ref 151) "shift" = some (some (.ref 74))),
  decide (PySem.W.isFn K (.ref 74) = true),
  decide (PySem.W.findIn K (.ref 151) "add" = some (some (.ref 82))),
  decide (PySem.W.isFn K (.ref 82) = true),
  decide (PySem.W.findIn K (.ref 151) "take_out" = some (some (.ref 89))),
  decide (PySem.W.isFn K (.ref 89) = true),
  decide (PySem.W.findIn K (.ref 151) "place" = some (some (.ref 96))),
  decide (PySem.W.isFn K (.ref 96) = true),
  decide (PySem.W.findIn K (.ref 151) "mark" = some (some (.ref 103))),
  decide (PySem.W.isFn K (.ref 103) = true),
  decide (PySem.W.findIn K (.ref 151) "unmark" = some (some (.ref 110))),
  decide (PySem.W.isFn K (.ref 110) = true),
  decide (PySem.W.findIn K (.ref 151) "folder" = some (some (.ref 117))),
  decide (PySem.W.isFn K (.ref 117) = true),
  decide (PySem.W.findIn K (.ref 151) "marks" = some (some (.ref 124))),
  decide (PySem.W.isFn K (.ref 124) = true),
  decide (PySem.W.findIn K (.ref 151) "counts" = some (some (.ref 131))),
  decide (PySem.W.isFn K (.ref 131) = true),
  decide (PySem.W.findIn K (.ref 151) "marked" = some (some (.ref 138))),
  decide (PySem.W.isFn K (.ref 138) = true),
  decide (PySem.W.findIn K (.ref 151) "names" = some (some (.ref 143))),
  decide (PySem.W.isFn K (.ref 143) = true),
  decide (PySem.W.findIn K (.ref 151) "folders" = some (some (.ref 148))),
  decide (PySem.W.isFn K (.ref 148) = true),
  decide (PySem.W.nsIn K mainGlobals "_law_row" = some (some (.ref 162))),
  decide (PySem.W.nsIn K mainGlobals "_law_word" = some (some (.ref 167))),
  decide (PySem.W.nsIn K mainGlobals "_law_some" = some (some (.ref 196))),
  decide (PySem.W.nsIn K mainGlobals "_law_road" = some (some (.ref 203))),
  decide (PySem.W.nsIn K mainGlobals "_law_counted_plainly" = some (some (.ref 208)))]
def fb1 (K : PySem.W.Frag) : List Bool := [
  decide (PySem.W.nsIn K mainGlobals "_law_seen" = some (some (.ref 213))),
  decide (PySem.W.nsIn K mainGlobals "law" = some (some (.ref 218))),
  decide (PySem.W.excIn K 37 [.type "ValueError", .type "Exception", .type "BaseException", .type "object"] "ValueError.__new__" = true),
  decide (PySem.W.keepIn K (.ref 37) = true),
  decide (PySem.W.subIn K (.ref 37) (.type "BaseException") = some true),
  decide (PySem.W.typeIn K (.ref 37) = some (.type "type")),
  decide (PySem.W.plainGet K 151 Str.empty = true),
  decide (PySem.W.hasDictIn K 151 = true),
  decide (PySem.W.plainOver K 151 = true),
  decide (PySem.W.findIn K (.ref 151) "__setattr__" = some (some (.builtin "object.__setattr__"))),
  decide (PySem.W.findIn K (.ref 151) "boxes" = some none),
  decide (PySem.W.findIn K (.ref 151) "tags" = some none),
  decide (PySem.W.findIn K (.ref 151) "sums" = some none),
  decide (PySem.W.findIn K (.ref 151) "tallies" = some none),
  decide (PySem.W.nsIn K mainGlobals "int" = some none),
  decide (PySem.W.nsIn K mainGlobals "len" = some none),
  decide (PySem.W.nsIn K mainGlobals "range" = some none),
  decide (PySem.W.nsIn K mainGlobals "set" = some none),
  decide (PySem.W.nsIn K mainGlobals "sorted" = some none),
  decide (PySem.W.nsIn K mainGlobals "str" = some none),
  conS K "SEEN" ("seen" : Str)]
def dfn0 : He5.DefA := ⟨fun _ => 53, "__init__", "Folders.__init__", defArgs s_Folders___init__, defBody s_Folders___init__, defScope s_Folders___init__, [], []⟩
def dfn1 : He5.DefA := ⟨fun _ => 60, "need", "Folders.need", defArgs s_Folders_need, defBody s_Folders_need, defScope s_Folders_need, [], []⟩
def dfn2 : He5.DefA := ⟨fun _ => 67, "tally", "Folders.tally", defArgs s_Folders_tally, defBody s_Folders_tally, defScope s_Folders_tally, [], []⟩
def dfn3 : He5.DefA := ⟨fun _ => 74, "shift", "Folders.shift", defArgs s_Folders_shift, defBody s_Folders_shift, defScope s_Folders_shift, [], []⟩
def dfn4 : He5.DefA := ⟨fun _ => 82, "add", "Folders.add", defArgs s_Folders_add, defBody s_Folders_add, defScope s_Folders_add, [.str ("inbox" : Str), .non], []⟩
def dfn5 : He5.DefA := ⟨fun _ => 89, "take_out", "Folders.take_out", defArgs s_Folders_take_out, defBody s_Folders_take_out, defScope s_Folders_take_out, [], []⟩
def dfn6 : He5.DefA := ⟨fun _ => 96, "place", "Folders.place", defArgs s_Folders_place, defBody s_Folders_place, defScope s_Folders_place, [], []⟩
def dfn7 : He5.DefA := ⟨fun _ => 103, "mark", "Folders.mark", defArgs s_Folders_mark, defBody s_Folders_mark, defScope s_Folders_mark, [], []⟩
def dfn8 : He5.DefA := ⟨fun _ => 110, "unmark", "Folders.unmark", defArgs s_Folders_unmark, defBody s_Folders_unmark, defScope s_Folders_unmark, [], []⟩
def dfn9 : He5.DefA := ⟨fun _ => 117, "folder", "Folders.folder", defArgs s_Folders_folder, defBody s_Folders_folder, defScope s_Folders_folder, [], []⟩
def dfn10 : He5.DefA := ⟨fun _ => 124, "marks", "Folders.marks", defArgs s_Folders_marks, defBody s_Folders_marks, defScope s_Folders_marks, [], []⟩
def dfn11 : He5.DefA := ⟨fun _ => 131, "counts", "Folders.counts", defArgs s_Folders_counts, defBody s_Folders_counts, defScope s_Folders_counts, [], []⟩
def dfn12 : He5.DefA := ⟨fun _ => 138, "marked", "Folders.marked", defArgs s_Folders_marked, defBody s_Folders_marked, defScope s_Folders_marked, [], []⟩
def dfn13 : He5.DefA := ⟨fun _ => 143, "names", "Folders.names", defArgs s_Folders_names, defBody s_Folders_names, defScope s_Folders_names, [], []⟩
def dfn14 : He5.DefA := ⟨fun _ => 148, "folders", "Folders.folders", defArgs s_Folders_folders, defBody s_Folders_folders, defScope s_Folders_folders, [], []⟩
def dfn15 : He5.DefA := ⟨fun _ => 162, "_law_row", "_law_row", defArgs s_law_row, defBody s_law_row, defScope s_law_row, [], []⟩
def dfn16 : He5.DefA := ⟨fun _ => 167, "_law_word", "_law_word", defArgs s_law_word, defBody s_law_word, defScope s_law_word, [], []⟩
def dfn17 : He5.DefA := ⟨fun _ => 196, "_law_some", "_law_some", defArgs s_law_some, defBody s_law_some, defScope s_law_some, [], []⟩
def dfn18 : He5.DefA := ⟨fun _ => 203, "_law_road", "_law_road", defArgs s_law_road, defBody s_law_road, defScope s_law_road, [], []⟩
def dfn19 : He5.DefA := ⟨fun _ => 208, "_law_counted_plainly", "_law_counted_plainly", defArgs s_law_counted_plainly, defBody s_law_counted_plainly, defScope s_law_counted_plainly, [], []⟩
def dfn20 : He5.DefA := ⟨fun _ => 213, "_law_seen", "_law_seen", defArgs s_law_seen, defBody s_law_seen, defScope s_law_seen, [], []⟩
def dfn21 : He5.DefA := ⟨fun _ => 218, "law", "law", defArgs s_law, defBody s_law, defScope s_law, [], []⟩
def dfns0 : List He5.DefA := [dfn0, dfn1, dfn2, dfn3, dfn4, dfn5, dfn6, dfn7, dfn8, dfn9, dfn10, dfn11, dfn12, dfn13, dfn14, dfn15, dfn16, dfn17, dfn18, dfn19, dfn20, dfn21]
def factsK (K : PySem.W.Frag) : Bool := (fb0 K).all id && (fb1 K).all id
def obsD (ds : List He5.DefA) (K : PySem.W.Frag) : Bool × List He.FnW := (ds.all fun d => d.ok K, ds.map fun d => He5.fnA K (d.at_ K))
def valD (ds : List He5.DefA) : Bool × List He.FnW := (true, ds.map He5.DefA.val)
abbrev ObT : Type := Bool × (Bool × List He.FnW)
def obsK (K : PySem.W.Frag) : ObT := (factsK K, obsD dfns0 K)
def valK : ObT := (true, valD dfns0)
def hookM : PySem.W.Hook where
  α := ObT
  obs := fun s => obsK (He.frG s.heap.get? asM)
  val := fun _ => valK
  says := fun _ h => ∃ K : PySem.W.Frag, K.In h ∧ obsK K = valK
  of := fun _ _ e => ⟨_, He.frG_in, e⟩
  keeps := fun _ _ _ ⟨K, hK, c⟩ k => ⟨K, PySem.W.Frag.In.keeps hK k, c⟩
def obM (s : PySem.W.SharedT) : ObT := obsK (He.frG (HandSHeadRun.getT s) asM)
theorem obM_eq (s : PySem.W.SharedT) : obM s = hookM.obs s.abs := by
  have e : HandSHeadRun.getT s = s.abs.heap.get? := funext (HandSHeadRun.getT_eq s)
  show obsK (He.frG (HandSHeadRun.getT s) asM) = obsK (He.frG s.abs.heap.get? asM)
  rw [e]
theorem defM {K : PySem.W.Frag} {ds : List He5.DefA} (c : obsD ds K = valD ds) (i : Nat) {d : He5.DefA} (h : ds[i]? = some d) : ∃ fd, FunD K d.name d.qual d.params d.body d.scope (d.dvs K) (d.kws K) (d.at_ K) fd := by
  have c2 : (ds.all fun d => d.ok K) = true := congrArg (fun z : Bool × List He.FnW => z.1) c
  have e : ds.map (fun d => He5.fnA K (d.at_ K)) = ds.map He5.DefA.val := congrArg (fun z : Bool × List He.FnW => z.2) c
  have e2 : (ds.map fun d => He5.fnA K (d.at_ K))[i]? = (ds.map He5.DefA.val)[i]? := by rw [e]
  rw [List.getElem?_map, List.getElem?_map, h] at e2
  exact He5.DefA.funD (Option.some.inj e2) (List.all_eq_true.mp c2 d (List.mem_of_getElem? h))
def namesM : List PySem.Str := (["__name__", "MailError", "NoName", "SEEN", "Folders", "_law_row", "_law_word", "_law_plain", "_law_done", "_law_does", "_law_deed", "_law_some", "_law_road", "_law_counted_plainly", "_law_seen"] : List PySem.Str)
abbrev rowM : PySem.W.OpenRow := PySem.W.OpenLaw.row PySem.Challenge.rw_mailroom_k33_whole_by_any_road
open PySem.W PySem.Calls HandSHeadRun in
noncomputable abbrev endM (w : World) (os : OsState) : Option PySem.W.SharedT := HandSHeadRun.endF (HandSHeadRun.stepQ (HandSHeadRun.denQ HandSHeadRun.tabQ) rowM.prog w) 40000 rowM.prog w os
open PySem PySem.W PySem.Calls PyProof.Rows HandSHeadRun in
noncomputable abbrev seenM (w : World) (s : SharedT) := (looksF rowM.prog (boot_heap w.params) s.abs, HandSHeadRun.seenQ (view rowM.prog [17]) namesM (importedModules rowM.prog.main.body) (fun s => xlAt (view rowM.prog [17]) [] s && recOk rowM.toRowW.records s) s.abs)
theorem rc_pair {S α β : Type} {o : Option S} {f : S → α} {g : S → β} {a : α} {b : β} (h : o.map f = some a) (k : o.map g = some b) : o.map (fun s => (f s, g s)) = some (a, b) := by
  cases o with
  | none => cases h
  | some s =>
    cases h; cases k; rfl
theorem rc_top {S α β γ : Type} {o : Option S} {f : S → α × β} {g : S → γ} {a : α} {b : β} {c : γ} (h : o.map f = some (a, b)) (k : o.map g = some c) : o.map (fun s => ((f s).1, (f s).2, g s)) = some (a, b, c) := by
  cases o with
  | none => cases h
  | some s =>
    have h : f s = (a, b) := Option.some.inj h
    have k : g s = c := Option.some.inj k
    show some ((f s).1, (f s).2, g s) = _
    rw [h, k]
theorem run00 (w : World) : ∀ os : OsState, (endM w os).map (fun s => (seenM w s, factsK (He.frG (HandSHeadRun.getT s) asM))) = some ((true, PySem.W.openGood (PySem.W.view rowM.prog [17]) namesM), true) := by
  intro os
  kernel_rfl
theorem rc_l {S α β : Type} {o : Option S} {f : S → α} {g : S → β} {a : α} {b : β} (h : o.map (fun s => (f s, g s)) = some (a, b)) : o.map f = some a ∧ o.map g = some b := by
  cases o with
  | none => cases h
  | some s =>
    have h : (f s, g s) = (a, b) := Option.some.inj h
    exact ⟨congrArg (fun z : α × β => some z.1) h, congrArg (fun z : α × β => some z.2) h⟩
theorem run0 (w : World) (os : OsState) : (endM w os).map (seenM w) = some (true, PySem.W.openGood (PySem.W.view rowM.prog [17]) namesM) := (rc_l (run00 w os)).1
theorem runF (w : World) (os : OsState) : (endM w os).map (fun s => factsK (He.frG (HandSHeadRun.getT s) asM)) = some true := (rc_l (run00 w os)).2
theorem runD0 (w : World) : ∀ os : OsState, (endM w os).map (fun s => obsD dfns0 (He.frG (HandSHeadRun.getT s) asM)) = some (valD dfns0) := by
  intro os
  kernel_rfl
theorem runM (w : World) : HandSHeadRun.RunEq rowM (PySem.W.view rowM.prog [17]) hookM obM 40000 namesM w := by
  intro os
  have hs := run0 w os
  have hF := runF w os
  have h0 := runD0 w os
  revert hs hF h0
  show _ → _ → _ → (endM w os).map (fun s => ((seenM w s).1, (seenM w s).2, obM s)) = some (true, PySem.W.openGood (PySem.W.view rowM.prog [17]) namesM, valK)
  generalize endM w os = o
  intro hs hF h0
  exact rc_top hs (rc_pair hF (h0))
end Lw
namespace Lw
open PySem L2 Ml
structure Folders where
  boxes : (List (Str × Str))
  tags : (List (Str × (List (Str × Bool))))
  sums : (List (Str × (Int × Int)))
  tallies : (List (Kt × Int))
def m_Folders___init__  : R Folders :=
R.ok ((⟨([] : (List (Str × Str))), ([] : (List (Str × (List (Str × Bool))))), ([] : (List (Str × (Int × Int)))), ([] : (List (Kt × Int)))⟩ : Folders))
def m_Folders_need (v_self : Folders) (v_name : Str) : R Unit :=
if (!dhas v_self.boxes v_name) = true then (
.exc ⟨1, 0⟩) else (
R.ok (()))
def m_Folders_tally (v_self_tallies : (List (Kt × Int))) (v_box : Str) (v_word : Str) (v_step : Int) : R ((List (Kt × Int))) :=
R.need (v_self_tallies.length < sizeLine) <|
(dgetR (dput v_self_tallies (⟨[v_box, v_word]⟩ : Kt) (((dget v_self_tallies (⟨[v_box, v_word]⟩ : Kt)).getD 0) + v_step)) (⟨[v_box, v_word]⟩ : Kt)).bind fun y9 =>
(if (decide (y9 = 0)) = true then (
(dgetR (dput v_self_tallies (⟨[v_box, v_word]⟩ : Kt) (((dget v_self_tallies (⟨[v_box, v_word]⟩ : Kt)).getD 0) + v_step)) (⟨[v_box, v_word]⟩ : Kt)).bind fun y16 =>
R.ok (ddrop (dput v_self_tallies (⟨[v_box, v_word]⟩ : Kt) (((dget v_self_tallies (⟨[v_box, v_word]⟩ : Kt)).getD 0) + v_step)) (⟨[v_box, v_word]⟩ : Kt))) else (
R.ok (dput v_self_tallies (⟨[v_box, v_word]⟩ : Kt) (((dget v_self_tallies (⟨[v_box, v_word]⟩ : Kt)).getD 0) + v_step)))).bind fun (s13 : (List (Kt × Int))) =>
R.ok (s13)
def m_Folders_shift (v_self : Folders) (v_name : Str) (v_step : Int) : R Folders :=
(dgetR v_self.boxes v_name).bind fun y6 =>
R.need (v_self.sums.length < sizeLine) <|
(dgetR v_self.tags v_name).bind fun x21 =>
R.need (mulOk (v_step) (if (!dhas x21 ("seen" : Str)) = true then 1 else 0)) <|
(R.ok ((((dget v_self.sums y6).getD (0, 0)).2) + (v_step * (if (!dhas x21 ("seen" : Str)) = true then 1 else 0)) : Int)).bind fun y30 =>
R.need ((dsetd v_self.sums y6 (0, 0)).length < sizeLine) <|
(dgetR (dput (dsetd v_self.sums y6 (0, 0)) y6 ((((dget v_self.sums y6).getD (0, 0)).1) + v_step, y30)) y6).bind fun y39 =>
(if (decide (y39.1 = 0)) = true then (
(dgetR (dput (dsetd v_self.sums y6 (0, 0)) y6 ((((dget v_self.sums y6).getD (0, 0)).1) + v_step, y30)) y6).bind fun y50 =>
R.ok (ddrop (dput (dsetd v_self.sums y6 (0, 0)) y6 ((((dget v_self.sums y6).getD (0, 0)).1) + v_step, y30)) y6)) else (
R.ok (dput (dsetd v_self.sums y6 (0, 0)) y6 ((((dget v_self.sums y6).getD (0, 0)).1) + v_step, y30)))).bind fun (s49 : (List (Str × (Int × Int)))) =>
(dgetR v_self.tags v_name).bind fun x54 =>
(forR (fun (s64 : (List (Kt × Int))) (x65 : Str) =>
(m_Folders_tally s64 y6 x65 v_step).bind fun r68 =>
R.ok (r68)) (x54.map (·.1)) (v_self.tallies)).bind fun (s64 : (List (Kt × Int))) =>
R.ok ((⟨v_self.boxes, v_self.tags, s49, s64⟩ : Folders))
def m_Folders_add (v_self : Folders) (v_name : Str) (v_folder : Str) (v_marks : (List Str)) : R Folders :=
if (dhas v_self.boxes v_name) = true then (
.exc ⟨1, 0⟩) else (
R.need (v_self.boxes.length < sizeLine) <|
R.need (v_self.tags.length < sizeLine) <|
R.need (dhas v_self.tags v_name = false) <|
(forR (fun (s11 : (List (Str × (List (Str × Bool))))) (x12 : Str) =>
(dgetR s11 v_name).bind fun x15 =>
R.need (x15.length < sizeLine) <|
R.ok (dput s11 v_name (dput x15 x12 true))) (v_marks) (v_self.tags ++ [(v_name, ([] : (List (Str × Bool))))])).bind fun (s11 : (List (Str × (List (Str × Bool))))) =>
(R.noexc (m_Folders_shift (⟨dput v_self.boxes v_name v_folder, s11, v_self.sums, v_self.tallies⟩ : Folders) v_name 1)).bind fun r24 =>
R.ok (r24))
def m_Folders_add_L (v_self : Folders) (v_name : Str) (v_folder : Str) (v_marks : (List Str)) : R Folders :=
if (dhas v_self.boxes v_name) = true then (
.exc ⟨1, 0⟩) else (
R.need (v_self.boxes.length < sizeLine) <|
R.need (v_self.tags.length < sizeLine) <|
R.need (dhas v_self.tags v_name = false) <|
(forR (fun (s11 : (List (Str × (List (Str × Bool))))) (x12 : Str) =>
(dgetR s11 v_name).bind fun x15 =>
R.need (x15.length < sizeLine) <|
R.ok (dput s11 v_name (dput x15 x12 true))) (v_marks) (v_self.tags ++ [(v_name, ([] : (List (Str × Bool))))])).bind fun (s11 : (List (Str × (List (Str × Bool))))) =>
(R.noexc (m_Folders_shift (⟨dput v_self.boxes v_name v_folder, s11, v_self.sums, v_self.tallies⟩ : Folders) v_name 1)).bind fun r24 =>
R.ok (r24))
def m_Folders_take_out (v_self : Folders) (v_name : Str) : R Folders :=
(m_Folders_need v_self v_name).bind fun r6 =>
(R.noexc (m_Folders_shift v_self v_name (-1))).bind fun r12 =>
(dgetR r12.boxes v_name).bind fun y18 =>
(dgetR r12.tags v_name).bind fun y20 =>
R.ok ((⟨ddrop r12.boxes v_name, ddrop r12.tags v_name, r12.sums, r12.tallies⟩ : Folders))
def m_Folders_place (v_self : Folders) (v_name : Str) (v_folder : Str) : R Folders :=
(m_Folders_need v_self v_name).bind fun r6 =>
(R.noexc (m_Folders_shift v_self v_name (-1))).bind fun r12 =>
R.need (r12.boxes.length < sizeLine) <|
(R.noexc (m_Folders_shift (⟨dput r12.boxes v_name v_folder, r12.tags, r12.sums, r12.tallies⟩ : Folders) v_name 1)).bind fun r19 =>
R.ok (r19)
def m_Folders_mark (v_self : Folders) (v_name : Str) (v_word : Str) : R Folders :=
(m_Folders_need v_self v_name).bind fun r6 =>
(R.noexc (m_Folders_shift v_self v_name (-1))).bind fun r12 =>
(dgetR r12.tags v_name).bind fun x18 =>
R.need (x18.length < sizeLine) <|
(R.noexc (m_Folders_shift (⟨r12.boxes, dput r12.tags v_name (dput x18 v_word true), r12.sums, r12.tallies⟩ : Folders) v_name 1)).bind fun r27 =>
R.ok (r27)
def m_Folders_unmark (v_self : Folders) (v_name : Str) (v_word : Str) : R Folders :=
(m_Folders_need v_self v_name).bind fun r6 =>
(R.noexc (m_Folders_shift v_self v_name (-1))).bind fun r12 =>
(dgetR r12.tags v_name).bind fun x18 =>
(R.noexc (m_Folders_shift (⟨r12.boxes, dput r12.tags v_name (ddrop x18 v_word), r12.sums, r12.tallies⟩ : Folders) v_name 1)).bind fun r27 =>
R.ok (r27)
def m_Folders_folder (v_self : Folders) (v_name : Str) : R Str :=
(m_Folders_need v_self v_name).bind fun r6 =>
(dgetR v_self.boxes v_name).bind fun y12 =>
R.ok (y12)
def m_Folders_marks (v_self : Folders) (v_name : Str) : R ((List Str)) :=
(m_Folders_need v_self v_name).bind fun r6 =>
(dgetR v_self.tags v_name).bind fun x12 =>
R.need (x12.length < 64) <|
R.ok (sortT (x12.map (·.1)))
def m_Folders_counts (v_self : Folders) (v_folder : Str) : R ((Int × Int)) :=
R.ok ((dget v_self.sums v_folder).getD (0, 0))
def m_Folders_marked (v_self : Folders) (v_folder : Str) (v_word : Str) : R Int :=
R.ok ((dget v_self.tallies (⟨[v_folder, v_word]⟩ : Kt)).getD 0)
def m_Folders_names (v_self : Folders) (v_folder : Str) : R ((List Str)) :=
R.need ((v_self.boxes).length ≤ sizeLine) <|
(compR (fun (_ : Unit) (x10 : (Str × Str)) =>
if (decide (x10.2 = v_folder)) = true then (
R.ok ((), some (x10.1))) else R.ok ((), none)) (v_self.boxes) ()).bind fun (t21 : Unit × List Str) =>
R.need (t21.2.length < 64) <|
R.ok (sortT t21.2)
def m_Folders_folders (v_self : Folders) : R ((List (T3 Str Int Int))) :=
R.need (v_self.sums.length < 64) <|
R.need ((sortT (v_self.sums.map (·.1))).length ≤ sizeLine) <|
(compR (fun (_ : Unit) (x10 : Str) =>
(dgetR v_self.sums x10).bind fun y13 =>
(dgetR v_self.sums x10).bind fun y23 =>
R.ok ((), some ((⟨x10, y13.1, y23.2⟩ : T3 _ _ _)))) (sortT (v_self.sums.map (·.1))) ()).bind fun (t35 : Unit × List (T3 Str Int Int)) =>
R.ok (t35.2)
def m_law_row (v_law_script : Script) (v_law_many : Int) : R ((List Int)) :=
R.need (-(2 ^ 62) ≤ v_law_many ∧ v_law_many < 2 ^ 62) <|
(forR (fun (s3 : (List Int) × Int) (x4 : Int) =>
(if (decide (0 < (v_law_script.ns.length : Int))) = true then (
R.need (0 < (v_law_script.ns.length : Int)) <|
(idxR v_law_script.ns (x4 % (v_law_script.ns.length : Int))).bind fun x10 =>
R.ok (x10)) else (
R.ok (0))).bind fun (s8 : Int) =>
(R.ok ((((s3.2 * 48271) + s8) + x4) % 2147483647 : Int)).bind fun y11 =>
R.need (mulOk (y11) (y11)) <|
R.need (s3.1.length < sizeLine) <|
R.ok (s3.1 ++ [((y11 * y11) + (16807 * y11)) % 2147483629], y11)) (rngL 0 (v_law_many).toNat) (([] : (List Int)), 7)).bind fun (s3 : (List Int) × Int) =>
R.ok (s3.1)
def m_law_word (v_law_base : Int) (v_law_turn : Int) : R Str :=
(compR (fun (_ : Unit) (x2 : Int) =>
R.need (mulOk (v_law_base / 99991) (x2)) <|
(idxR (("abcdefghijklmnopqrstuvwxyz0123456789" : Str)).cps.toList ((((v_law_base / 64) + (7 * x2)) + ((v_law_base / 99991) * x2)) % 36)).bind fun c6 =>
R.ok ((), some (sg (c6)))) (rngL 0 20) ()).bind fun (t7 : Unit × List Str) =>
if ((decide ((v_law_base % 3) = 0)) && (decide (v_law_turn < 20))) = true then (
R.need (((cutL t7.2 none (some (1 + v_law_turn))).map (·.length)).sum + (cutL t7.2 none (some (1 + v_law_turn))).length * (("" : Str)).length ≤ 16777216) <|
R.ok (Txt.join ("" : Str) (cutL t7.2 none (some (1 + v_law_turn))))) else (
if ((decide ((v_law_base % 3) < 2)) || (decide (35 < v_law_turn))) = true then (
R.need (((cutL t7.2 none (some (1 + ((v_law_base / 3) % 16)))).map (·.length)).sum + (cutL t7.2 none (some (1 + ((v_law_base / 3) % 16)))).length * (("" : Str)).length ≤ 16777216) <|
R.need ((Txt.join ("" : Str) (cutL t7.2 none (some (1 + ((v_law_base / 3) % 16))))).length + (("x" : Str)).length ≤ sizeLine) <|
R.need ((v_law_turn : Int).natAbs.log2 < 1920) <|
R.need (((Txt.join ("" : Str) (cutL t7.2 none (some (1 + ((v_law_base / 3) % 16))))) ++ ("x" : Str)).length + (Str.ofString (toString (v_law_turn : Int))).length ≤ sizeLine) <|
R.ok (((Txt.join ("" : Str) (cutL t7.2 none (some (1 + ((v_law_base / 3) % 16))))) ++ ("x" : Str)) ++ (Str.ofString (toString (v_law_turn : Int))))) else (
(R.ok (1 + ((v_law_base / 3) % 20) : Int)).bind fun y17 =>
R.need (0 < y17) <|
(R.ok ((v_law_base / 61) % y17 : Int)).bind fun y19 =>
(idxR (("abcdefghijklmnopqrstuvwxyz0123456789" : Str)).cps.toList (((v_law_base / 2311) + v_law_turn) % 36)).bind fun c20 =>
(ixR t7.2 (y19)).bind fun j21 =>
R.need (((cutL (t7.2.set j21 (sg (c20))) none (some (y17))).map (·.length)).sum + (cutL (t7.2.set j21 (sg (c20))) none (some (y17))).length * (("" : Str)).length ≤ 16777216) <|
R.ok (Txt.join ("" : Str) (cutL (t7.2.set j21 (sg (c20))) none (some (y17))))))
def m_law_some (v_law_base : Int) : R ((List (List Str))) :=
(compR (fun (_ : Unit) (x3 : Int) =>
(m_law_word (v_law_base / 7) x3).bind fun r6 =>
R.ok ((), some (r6))) (rngL 0 4) ()).bind fun (t7 : Unit × List Str) =>
R.need (([("inbox" : Str)]).length + t7.2.length ≤ sizeLine) <|
(R.ok (([("inbox" : Str)]) ++ t7.2 : (List Str))).bind fun y10 =>
(compR (fun (_ : Unit) (x13 : Int) =>
(m_law_word (v_law_base / 5) x13).bind fun r16 =>
R.ok ((), some (r16))) (rngL 0 4) ()).bind fun (t17 : Unit × List Str) =>
R.need (([("seen" : Str), ("seen" : Str)]).length + t17.2.length ≤ sizeLine) <|
(R.ok (([("seen" : Str), ("seen" : Str)]) ++ t17.2 : (List Str))).bind fun y20 =>
(compR (fun (_ : Unit) (x22 : Int) =>
(m_law_word v_law_base x22).bind fun r25 =>
R.ok ((), some (r25))) (rngL 0 9) ()).bind fun (t26 : Unit × List Str) =>
R.ok ([t26.2, y10, y20])
def m_law_road (v_law_folders : Folders) (v_law_name : Str) (v_law_end : (Str × (List Str))) (v_law_row_here : (List Int)) (v_law_at : Int) (v_law_some_here : (List (List Str))) : R (Opq × Folders) :=
(idxR v_law_some_here (1)).bind fun x3 =>
(idxR v_law_row_here (v_law_at)).bind fun x11 =>
(idxR x3 (x11 % 5)).bind fun x12 =>
(idxR v_law_some_here (2)).bind fun x13 =>
(idxR v_law_row_here (v_law_at)).bind fun x22 =>
(m_Folders_add_L v_law_folders v_law_name x12 (cutL x13 none (some ((x22 / 5) % 4)))).bind fun r24 =>
(idxR v_law_row_here (v_law_at)).bind fun x25 =>
R.need (-(2 ^ 62) ≤ ((x25 / 20) % 4) ∧ ((x25 / 20) % 4) < 2 ^ 62) <|
(forR (fun (s27 : Folders) (x28 : Int) =>
(idxR v_law_some_here (2)).bind fun x32 =>
(idxR v_law_row_here (v_law_at + 1)).bind fun x41 =>
(idxR ([1, 6, 36]) (x28)).bind fun x43 =>
R.need (0 < x43 ∧ x43 < 1073741824) <|
(idxR x32 ((x41 / x43) % 6)).bind fun x45 =>
(m_Folders_mark s27 v_law_name x45).bind fun r48 =>
(idxR v_law_some_here (1)).bind fun x51 =>
(idxR v_law_row_here (v_law_at + 2)).bind fun x60 =>
(idxR ([1, 5, 25]) (x28)).bind fun x62 =>
R.need (0 < x62 ∧ x62 < 1073741824) <|
(idxR x51 ((x60 / x62) % 5)).bind fun x64 =>
(m_Folders_place r48 v_law_name x64).bind fun r65 =>
(idxR v_law_row_here (v_law_at + 1)).bind fun x66 =>
(idxR ([1, 2, 4]) (x28)).bind fun x68 =>
R.need (0 < x68 ∧ x68 < 1073741824) <|
(if (decide ((((x66 / 216) / x68) % 2) = 0)) = true then (
(m_Folders_unmark r65 v_law_name x45).bind fun r73 =>
R.ok (r73)) else (
R.ok (r65))).bind fun (s70 : Folders) =>
R.ok (s70)) (rngL 0 ((x25 / 20) % 4).toNat) (r24)).bind fun (s27 : Folders) =>
(m_Folders_marks s27 v_law_name).bind fun r76 =>
(forR (fun (s78 : Folders) (x79 : Str) =>
(if (!decide (x79 ∈ v_law_end.2)) = true then (
(m_Folders_unmark s78 v_law_name x79).bind fun r91 =>
R.ok (r91)) else (
R.ok (s78))).bind fun (s88 : Folders) =>
R.ok (s88)) (r76) (s27)).bind fun (s78 : Folders) =>
(forR (fun (s100 : Folders) (x101 : Str) =>
(m_Folders_mark s100 v_law_name x101).bind fun r106 =>
R.ok (r106)) (v_law_end.2.reverse) (s78)).bind fun (s100 : Folders) =>
(m_Folders_place s100 v_law_name v_law_end.1).bind fun r115 =>
R.ok ((Opq.mk, r115))
def m_law_counted_plainly (v_law_folders : Folders) (v_law_box : Str) (v_law_words : (List Str)) : R Bool :=
(m_Folders_names v_law_folders v_law_box).bind fun r3 =>
(forF (ρ := Bool) (fun (s5 : Unit) (x6 : Str) =>
(m_Folders_marked v_law_folders v_law_box x6).bind fun r12 =>
R.need ((r3).length ≤ sizeLine) <|
(compR (fun (_ : Unit) (x15 : Str) =>
(m_Folders_marks v_law_folders x15).bind fun r20 =>
if (decide (x6 ∈ r20)) = true then (
R.ok ((), some (x15))) else R.ok ((), none)) (r3) ()).bind fun (t23 : Unit × List Str) =>
if (!decide (r12 = (t23.2.length : Int))) = true then (
R.ok (.out (false))) else (
R.ok (.go ()))) (v_law_words) ()).bind (contF (fun (s5 : Unit) =>
R.need ((r3).length ≤ sizeLine) <|
(compR (fun (_ : Unit) (x27 : Str) =>
(m_Folders_marks v_law_folders x27).bind fun r32 =>
if (!decide (("seen" : Str) ∈ r32)) = true then (
R.ok ((), some (x27))) else R.ok ((), none)) (r3) ()).bind fun (t35 : Unit × List Str) =>
(forF (ρ := Bool) (fun (s36 : Unit) (x37 : Str) =>
(m_Folders_folder v_law_folders x37).bind fun r43 =>
if (!decide (r43 = v_law_box)) = true then (
R.ok (.out (false))) else (
R.ok (.go ()))) (r3) ()).bind (contF (fun (s36 : Unit) =>
(m_Folders_counts v_law_folders v_law_box).bind fun r47 =>
R.need (Lay.lay (r47 : (Int × Int)) = true) <|
R.need (Lay.lay (((r3.length : Int), (t35.2.length : Int)) : (Int × Int)) = true) <|
R.ok (decide ((r47 : (Int × Int)) = ((r3.length : Int), (t35.2.length : Int))))) (fun o54 => .ok o54))) (fun o55 => .ok o55))
def m_law_seen (v_law_folders : Folders) (v_law_ends : (List (Str × (Str × (List Str))))) (v_law_some_here : (List (List Str))) : R ((List Any)) :=
(m_Folders_folders v_law_folders).bind fun r3 =>
(R.ok ([(Any.lst (r3.map sii))] : (List Any))).bind fun y7 =>
R.need (v_law_ends.length < 64) <|
(forR (fun (s10 : (List Any)) (x11 : Str) =>
(m_Folders_folder v_law_folders x11).bind fun r16 =>
(m_Folders_marks v_law_folders x11).bind fun r19 =>
R.need (s10.length < sizeLine) <|
R.ok (s10 ++ [(Any.tup [(Any.str r16), (Any.lst (r19.map Any.str))])])) (sortT (v_law_ends.map (·.1))) (y7)).bind fun (s10 : (List Any)) =>
(idxR v_law_some_here (1)).bind fun x25 =>
(forR (fun (s34 : (List Any)) (x35 : Str) =>
(m_Folders_counts v_law_folders x35).bind fun r40 =>
(m_Folders_names v_law_folders x35).bind fun r45 =>
R.need (s34.length < sizeLine) <|
(idxR v_law_some_here (2)).bind fun x56 =>
R.need ((x56).length ≤ sizeLine) <|
(compR (fun (_ : Unit) (x67 : Str) =>
(m_Folders_marked v_law_folders x35 x67).bind fun r72 =>
R.ok ((), some (r72))) (x56) ()).bind fun (t73 : Unit × List Int) =>
R.need ((s34 ++ [(Any.tup [(Any.tup [(Any.int r40.1), (Any.int r40.2)]), (Any.lst (r45.map Any.str))])]).length < sizeLine) <|
R.ok ((s34 ++ [(Any.tup [(Any.tup [(Any.int r40.1), (Any.int r40.2)]), (Any.lst (r45.map Any.str))])]) ++ [(Any.lst (t73.2.map Any.int))])) (x25) (s10)).bind fun (s34 : (List Any)) =>
R.ok (s34)
def m_law (v_law_script : Script) : R Bool :=
(m_law_row v_law_script 90).bind fun r1 =>
(idxR r1 (0)).bind fun x3 =>
(m_law_some x3).bind fun r4 =>
(idxR r1 (1)).bind fun x7 =>
R.need (-(2 ^ 62) ≤ (x7 % 10) ∧ (x7 % 10) < 2 ^ 62) <|
(forR (fun (s9 : (List (Str × (Str × (List Str))))) (x10 : Int) =>
(idxR r1 (30 + x10)).bind fun x17 =>
(idxR r1 (40 + x10)).bind fun x18 =>
(R.ok (x18 % 4 : Int)).bind fun y19 =>
R.need (-(2 ^ 62) ≤ y19 ∧ y19 < 2 ^ 62) <|
R.need ((rngL 0 (y19).toNat).length ≤ sizeLine) <|
(compR (fun (_ : Unit) (x23 : Int) =>
(idxR r4 (2)).bind fun x26 =>
(idxR ([1, 5, 25]) (x23)).bind fun x36 =>
R.need (0 < x36 ∧ x36 < 1073741824) <|
(idxR x26 (1 + ((x17 / x36) % 5))).bind fun x38 =>
R.ok ((), some (x38))) (rngL 0 (y19).toNat) ()).bind fun (t39 : Unit × List Str) =>
(idxR r4 (0)).bind fun x40 =>
(idxR r1 (2 + x10)).bind fun x48 =>
(idxR x40 (x48 % 9)).bind fun x49 =>
(idxR r4 (1)).bind fun x50 =>
(idxR r1 (20 + x10)).bind fun x58 =>
(idxR x50 (x58 % 5)).bind fun x59 =>
R.need (t39.2.length < 64) <|
R.need (s9.length < sizeLine) <|
R.ok (dput s9 x49 (x59, ssetT t39.2))) (rngL 0 (x7 % 10).toNat) (([] : (List (Str × (Str × (List Str))))))).bind fun (s9 : (List (Str × (Str × (List Str))))) =>
(m_Folders___init__ ).bind fun r68 =>
(forR (fun (s71 : Folders) (x72 : Str) =>
(dgetR s9 x72).bind fun y77 =>
(dgetR s9 x72).bind fun y88 =>
(m_Folders_add s71 x72 y77.1 y88.2).bind fun r100 =>
R.ok (r100)) (s9.map (·.1)) (r68)).bind fun (s71 : Folders) =>
(m_Folders___init__ ).bind fun r103 =>
R.need (s9.length < 64) <|
(R.ok (sortT (s9.map (·.1)) : (List Str))).bind fun y106 =>
(if (decide (0 < (s9.length : Int))) = true then (
(idxR r1 (12)).bind fun x110 =>
R.need (0 < (s9.length : Int)) <|
(R.ok (x110 % (s9.length : Int) : Int)).bind fun y112 =>
R.need ((cutL y106 (some (y112)) none).length + (cutL y106 none (some (y112))).length ≤ sizeLine) <|
(idxR r1 (13)).bind fun x118 =>
(idxR ([1, -1]) (x118 % 2)).bind fun x119 =>
R.need (x119 = 1 ∨ x119 = -1) <|
(R.ok ((if x119 = 1 then (cutL y106 (some (y112)) none) ++ (cutL y106 none (some (y112))) else ((cutL y106 (some (y112)) none) ++ (cutL y106 none (some (y112)))).reverse) : (List Str))).bind fun y122 =>
R.ok (y122)) else (
R.ok (y106))).bind fun (s107 : (List Str)) =>
R.need (s107.length ≤ sizeLine) <|
(forR (fun (s124 : Folders) (x125 : Int) =>
(idxR s107 (x125)).bind fun x128 =>
(idxR s107 (x125)).bind fun x129 =>
(dgetR s9 x129).bind fun y130 =>
(m_law_road s124 x128 y130 r1 (50 + (3 * x125)) r4).bind fun r136 =>
(idxR r1 (14 + (x125 % 5))).bind fun x139 =>
(if (decide ((x139 % 3) = 0)) = true then (
(idxR r4 (0)).bind fun x141 =>
(idxR x141 (8)).bind fun x149 =>
R.ok (!dhas s9 x149)) else R.ok false).bind fun b140 =>
(if b140 = true then (
(idxR r4 (0)).bind fun x153 =>
(idxR x153 (8)).bind fun x161 =>
(idxR r4 (1)).bind fun x162 =>
(idxR r1 (80 + (x125 % 9))).bind fun x170 =>
(idxR x162 (x170 % 5)).bind fun x171 =>
(m_Folders_add_L r136.2 x161 x171 ([("seen" : Str)])).bind fun r173 =>
(idxR r4 (0)).bind fun x176 =>
(idxR x176 (8)).bind fun x184 =>
(m_Folders_take_out r173 x184).bind fun r185 =>
R.ok (r185)) else (
R.ok (r136.2))).bind fun (s150 : Folders) =>
R.ok (s150)) (rngL 0 ((s107.length : Int)).toNat) (r103)).bind fun (s124 : Folders) =>
(m_law_seen s71 s9 r4).bind fun r186 =>
(m_law_seen s124 s9 r4).bind fun r189 =>
(eqA (Any.lst r186) (Any.lst r189)).bind fun b192 =>
if (!b192) = true then (
R.ok (false)) else (
R.need (s9.length < 64) <|
R.need ((sortT (s9.map (·.1))).length ≤ sizeLine) <|
(compR (fun (_ : Unit) (x198 : Str) =>
(m_Folders_folder s124 x198).bind fun r203 =>
(m_Folders_marks s124 x198).bind fun r206 =>
R.ok ((), some ((r203, r206)))) (sortT (s9.map (·.1))) ()).bind fun (t211 : Unit × List (Str × (List Str))) =>
R.need (s9.length < 64) <|
R.need ((sortT (s9.map (·.1))).length ≤ sizeLine) <|
(compR (fun (_ : Unit) (x216 : Str) =>
(dgetR s9 x216).bind fun y219 =>
R.ok ((), some (y219))) (sortT (s9.map (·.1))) ()).bind fun (t225 : Unit × List (Str × (List Str))) =>
R.need (Lay.lay (t211.2 : (List (Str × (List Str)))) = true) <|
R.need (Lay.lay (t225.2 : (List (Str × (List Str)))) = true) <|
if (!decide ((t211.2 : (List (Str × (List Str)))) = t225.2)) = true then (
R.ok (false)) else (
(idxR r4 (1)).bind fun x229 =>
(forF (ρ := Bool) (fun (s238 : Unit) (x239 : Str) =>
(idxR r4 (2)).bind fun x243 =>
(m_law_counted_plainly s71 x239 x243).bind fun r252 =>
if (!r252) = true then (
R.ok (.out (false))) else (
(idxR r4 (2)).bind fun x254 =>
(m_law_counted_plainly s124 x239 x254).bind fun r263 =>
if (!r263) = true then (
R.ok (.out (false))) else (
R.ok (.go ())))) (x229) ()).bind (contF (fun (s238 : Unit) =>
(m_Folders_folders s124).bind fun r267 =>
(forR (fun (s269 : Int) (x270 : (T3 Str Int Int)) =>
(R.ok (s269 + x270.b : Int)).bind fun y282 =>
R.ok (y282)) (r267) (0)).bind fun (s269 : Int) =>
R.ok (decide (s269 = (s9.length : Int)))) (fun o283 => .ok o283))))
end Lw
namespace Lw
open PySem L2 Ml
theorem alph_len : ("abcdefghijklmnopqrstuvwxyz0123456789" : Str).cps.toList.length = 36 := by decide +kernel
def wsg (c : Nat) : Bool := (97 ≤ c && c ≤ 122) || (48 ≤ c && c ≤ 57)
theorem wsg_lt {c : Nat} (h : wsg c = true) : c < 128 := by
  unfold wsg at h
  simp at h
  omega
theorem alph_wsg : ∀ c, c ∈ ("abcdefghijklmnopqrstuvwxyz0123456789" : Str).cps.toList → wsg c = true := by
  have : ("abcdefghijklmnopqrstuvwxyz0123456789" : Str).cps.toList.all wsg = true := by decide +kernel
  exact fun c hc => List.all_eq_true.mp this c hc
theorem alph_at {ρ : Type} {P : ρ → Prop} {i : Int} {f : Nat → R ρ} (k : ∀ c, wsg c = true → Ok (f c) P) : Ok ((idxR ("abcdefghijklmnopqrstuvwxyz0123456789" : Str).cps.toList (i % 36)).bind f) P :=
  .idx (Int.emod_nonneg _ (by decide)) (by rw [alph_len]; exact Int.emod_lt_of_pos _ (by decide)) fun c m _ => k c (alph_wsg c m)
/-- word signs alone -/
def Wsg (x : Str) : Prop := ∀ c, c ∈ x.cps.toList → wsg c = true
theorem Wsg.asc {x : Str} (h : Wsg x) : Asc x := fun c hc => wsg_lt (h c hc)
theorem Wsg.app {a b : Str} (ha : Wsg a) (hb : Wsg b) : Wsg (a ++ b) := fun c hc => by
  rw [tl_app] at hc
  rcases List.mem_append.mp hc with h | h
  · exact ha c h
  · exact hb c h
theorem Wsg.sg {c : Nat} (h : wsg c = true) : Wsg (sg c) := fun d hd => by
  have : d = c := by simpa [Ml.sg] using hd
  rw [this]; exact h
theorem Wsg.lit {x : Str} (h : x.cps.toList.all wsg = true) : Wsg x := fun c hc => List.all_eq_true.mp h c hc
theorem Wsg.join {ys : List Str} (h : ∀ y, y ∈ ys → Wsg y) : Wsg (Txt.join ("" : Str) ys) := fun c hc => by
  rw [join_nil] at hc
  obtain ⟨l, hl, hc⟩ := List.mem_flatten.mp hc
  obtain ⟨y, hy, rfl⟩ := List.mem_map.mp hl
  exact h y hy c hc
theorem num_wd {i : Int} (h0 : 0 ≤ i) (h1 : i < 1000000) : Wsg (Str.ofString (toString i)) ∧ (Str.ofString (toString i)).length ≤ 6 ∧ 1 ≤ (Str.ofString (toString i)).length := by
  obtain ⟨n, rfl⟩ : ∃ n : Nat, i = (n : Int) := ⟨i.toNat, by omega⟩
  have hd := TL.numL_digits n
  refine ⟨fun c hc => ?_, ?_, ?_⟩
  · rw [tl_num] at hc
    have h2 : 48 ≤ c ∧ c ≤ 57 := hd c hc
    unfold wsg
    simp; omega
  · rw [len_tl, tl_num]
    exact TL.numL_len (n := n) (k := 6) (by decide) (by omega)
  · rw [len_tl, tl_num]
    have := TL.numL_ne n
    cases e : TL.numL n with
    | nil => exact absurd e this
    | cons a l => simp
theorem m_law_row_ok (s : Script) {n : Int} (h0 : 0 ≤ n) (h1 : n ≤ 1000) : Ok (m_law_row s n) fun r => r.length = n.toNat ∧ ∀ x, x ∈ r → 0 ≤ x ∧ x < 2147483629 := by
  unfold m_law_row
  refine .need (by omega) ?_
  refine .forI (fun pre (s : List Int × Int) => s.1.length = pre.length ∧ (∀ x, x ∈ s.1 → 0 ≤ x ∧ x < 2147483629) ∧ 0 ≤ s.2 ∧ s.2 < 2147483647) ⟨rfl, by simp, by decide, by decide⟩ ?_ ?_
  · rintro p x q ⟨l, m⟩ ep ⟨hl, hx, hm0, hm1⟩
    have hp := pre_lt ep
    rw [rngL_len] at hp
    refine .bind (Q := fun _ => True) (.ite (fun c => ?_) fun _ => .ret trivial) fun c _ => .lets ?_
    · have c := of_decide_eq_true c
      exact .need c (.idx (Int.emod_nonneg _ (by omega)) (Int.emod_lt_of_pos _ c) fun _ _ _ => .ret trivial)
    · dsimp only
      have hy0 : 0 ≤ (m * 48271 + c + x) % 2147483647 := Int.emod_nonneg _ (by decide)
      have hy1 : (m * 48271 + c + x) % 2147483647 < 2147483647 := Int.emod_lt_of_pos _ (by decide)
      generalize (m * 48271 + c + x) % 2147483647 = y at *
      have hl' : l.length = p.length := hl
      refine .need (show mulOk y y from .inl ⟨by omega, by omega⟩) (.need (lt_line (m := 1000) (by omega) (by decide)) (.ret ⟨by simp [hl'], fun z hz => ?_, hy0, hy1⟩))
      rcases List.mem_append.mp hz with h | h
      · exact hx z h
      · rw [List.mem_singleton.mp h]
        exact ⟨Int.emod_nonneg _ (by decide), Int.emod_lt_of_pos _ (by decide)⟩
  · rintro ⟨l, m⟩ ⟨hl, hx, _⟩
    exact .ret ⟨by rw [hl, rngL_len], hx⟩
theorem joins20 {zs : List Str} (hz : ∀ z, z ∈ zs → Wsg z ∧ z.length = 1) (hl : zs.length ≤ 20) : Wsg (Txt.join ("" : Str) zs) ∧ (Txt.join ("" : Str) zs).length = zs.length ∧ (zs.map (·.length)).sum + zs.length * ("" : Str).length ≤ 16777216 := by
  have h1 : (zs.map (·.length)).sum = zs.length := by
    clear hl
    induction zs with
    | nil => rfl
    | cons x xs ih =>
      rw [List.map_cons, List.sum_cons, ih fun z m => hz z (by simp [m]), (hz x (by simp)).2, List.length_cons]; omega
  have e0 : ("" : Str).length = 0 := by decide
  rw [e0]
  exact ⟨.join fun z m => (hz z m).1, by rw [len_join_nil, h1], by omega⟩
/-- a word of 1 to 20 signs, where the number is small -/
theorem m_law_word_ok {b t : Int} (hb : 0 ≤ b ∧ b < 2147483647) (ht : 0 ≤ t ∧ t < 1000) : Ok (m_law_word b t) fun z => Wsg z ∧ 1 ≤ z.length ∧ z.length ≤ 20 := by
  unfold m_law_word
  refine .comp (fun y => Wsg y ∧ y.length = 1) (fun x hx => ?_) fun ys hl hy => ?_
  · have hx' := rngL_mem hx
    exact .need (show mulOk (b / 99991) x from .inr ⟨by omega, by omega⟩) (alph_at fun c hc => .ret ⟨_, rfl, Wsg.sg hc, rfl⟩)
  · rw [rngL_len] at hl
    dsimp only
    have cut : ∀ (i : Int) (zs : List Str), (∀ z, z ∈ zs → Wsg z ∧ z.length = 1) → zs.length = 20 → 1 ≤ i → i ≤ 20 → (∀ z, z ∈ cutL zs none (some i) → Wsg z ∧ z.length = 1) ∧ (cutL zs none (some i)).length = i.toNat := fun i zs hz hl h1 h2 =>
      ⟨fun z m => hz z (cutL_mem m), by rw [cutL_to (by omega), List.length_take]; omega⟩
    refine .ite (fun c1 => ?_) fun c1 => .ite (fun c2 => ?_) fun c2 => ?_
    · simp at c1
      obtain ⟨h1, h2⟩ := cut (1 + t) ys hy hl (by omega) (by omega)
      obtain ⟨j1, j2, j3⟩ := joins20 h1 (by omega)
      exact .need j3 (.ret ⟨j1, by omega, by omega⟩)
    · obtain ⟨h1, h2⟩ := cut (1 + b / 3 % 16) ys hy hl (by omega) (by omega)
      obtain ⟨j1, j2, j3⟩ := joins20 h1 (by omega)
      obtain ⟨n1, n2, n3⟩ := num_wd (i := t) ht.1 (by omega)
      have n4 : (Str.ofString (toString t)).length ≤ 3 := by
        obtain ⟨n, rfl⟩ : ∃ n : Nat, t = (n : Int) := ⟨t.toNat, by omega⟩
        rw [len_tl, tl_num]
        exact TL.numL_len (n := n) (k := 3) (by decide) (by omega)
      have ex : ("x" : Str).length = 1 := by decide
      refine .need j3 (.need (le_line (by rw [ex]; omega)) (.need (log2_small (by omega) (by omega)) (.need (le_line (by rw [len_app, ex]; omega)) (.ret ⟨(j1.app (.lit (by decide +kernel))).app n1, by rw [len_app, len_app, ex]; omega, by rw [len_app, len_app, ex]; omega⟩))))
    · refine .lets (.need (by omega) (.lets (alph_at fun c hc => .ix (Int.emod_nonneg _ (by omega)) (by rw [hl]; have := Int.emod_lt_of_pos (b / 61) (show 0 < 1 + b / 3 % 20 by omega); omega) ?_)))
      have hy' : ∀ z, z ∈ ys.set (b / 61 % (1 + b / 3 % 20)).toNat (sg c) → Wsg z ∧ z.length = 1 := fun z m => by
        rcases mem_set m with h | rfl
        · exact hy z h
        · exact ⟨Wsg.sg hc, rfl⟩
      obtain ⟨h1, h2⟩ := cut (1 + b / 3 % 20) _ hy' (by rw [List.length_set]; exact hl) (by omega) (by omega)
      obtain ⟨j1, j2, j3⟩ := joins20 h1 (by omega)
      exact .need j3 (.ret ⟨j1, by omega, by omega⟩)
theorem pdA_str (s : Str) : pdA (.str s) = .str s := by rw [pdA]
theorem plA_str (s : Str) : plA (.str s) = true := by rw [plA] <;> (intro _ h; cases h)
def isWord (s : Str) : Bool := (decide (1 ≤ s.length) && decide (s.length ≤ 20)) && s.cps.toList.all wsg
theorem isWord_iff {s : Str} : isWord s = true ↔ Wsg s ∧ 1 ≤ s.length ∧ s.length ≤ 20 := by
  unfold isWord
  simp only [Bool.and_eq_true, decide_eq_true_eq, List.all_eq_true]
  exact ⟨fun ⟨⟨a, b⟩, c⟩ => ⟨c, a, b⟩, fun ⟨c, a, b⟩ => ⟨⟨a, b⟩, c⟩⟩
section
variable {κ β : Type} [DecidableEq κ]
theorem dget_nil (k : κ) : dget ([] : List (κ × β)) k = none := rfl
theorem dget_cons (p : κ × β) (d : List (κ × β)) (k : κ) : dget (p :: d) k = if p.1 = k then some p.2 else dget d k := by
  unfold dget
  by_cases h : p.1 = k
  · rw [List.find?_cons_of_pos (by simpa using h), if_pos h]; rfl
  · rw [List.find?_cons_of_neg (by simpa using h), if_neg h]
theorem dget_none {d : List (κ × β)} {k : κ} : dget d k = none ↔ ¬ k ∈ d.map (·.1) := by
  induction d with
  | nil => simp [dget_nil]
  | cons p d ih =>
    rw [dget_cons, List.map_cons, List.mem_cons]
    by_cases h : p.1 = k
    · rw [if_pos h]; simp [h]
    · rw [if_neg h, ih]
      exact ⟨fun q z => z.elim (fun e => h e.symm) q, fun q z => q (.inr z)⟩
theorem dhas_iff {d : List (κ × β)} {k : κ} : dhas d k = true ↔ k ∈ d.map (·.1) := by
  unfold dhas
  cases c : dget d k with
  | none => simp [dget_none.mp c]
  | some y =>
    refine ⟨fun _ => Classical.byContradiction fun h => ?_, fun _ => rfl⟩
    rw [dget_none.mpr h] at c; cases c
theorem dhas_false {d : List (κ × β)} {k : κ} : dhas d k = false ↔ ¬ k ∈ d.map (·.1) := by
  rw [← dhas_iff]; simp
theorem dget_app (d e : List (κ × β)) (k : κ) : dget (d ++ e) k = (dget d k).or (dget e k) := by
  induction d with
  | nil => rfl
  | cons p d ih =>
    rw [List.cons_append, dget_cons, dget_cons, ih]
    by_cases h : p.1 = k
    · rw [if_pos h, if_pos h]; rfl
    · rw [if_neg h, if_neg h]
theorem dany_iff {d : List (κ × β)} {k : κ} : (d.any fun kv => decide (kv.1 = k)) = dhas d k := by
  rw [Bool.eq_iff_iff, dhas_iff, List.any_eq_true]
  simp only [decide_eq_true_eq, List.mem_map]
theorem dput_eq (d : List (κ × β)) (k : κ) (v : β) : dput d k v = if dhas d k = true then d.map (fun kv => if kv.1 = k then (kv.1, v) else kv) else d ++ [(k, v)] := by
  unfold dput
  rw [dany_iff]
theorem dget_put (d : List (κ × β)) (k k' : κ) (v : β) : dget (dput d k v) k' = if k = k' then some v else dget d k' := by
  rw [dput_eq]
  by_cases h : dhas d k = true
  · rw [if_pos h]
    have gen : ∀ e : List (κ × β), dget (e.map fun kv => if kv.1 = k then (kv.1, v) else kv) k' = if k = k' ∧ dhas e k = true then some v else dget e k' := by
      intro e
      induction e with
      | nil => simp [dget_nil, dhas]
      | cons p e ih =>
        rw [List.map_cons, dget_cons, dget_cons, ih]
        have hc : dhas (p :: e) k = (decide (p.1 = k) || dhas e k) := by
          unfold dhas; rw [dget_cons]
          by_cases q : p.1 = k <;> simp [q]
        rw [hc]
        by_cases q : p.1 = k
        · simp only [q, if_true, decide_true, Bool.true_or, and_true]
          by_cases z : k = k' <;> simp [z]
        · simp only [q, if_false, decide_false, Bool.false_or]
          by_cases z : p.1 = k'
          · have : ¬ k = k' := fun e => q (z.trans e.symm)
            simp [z, this]
          · simp [z]
    rw [gen]
    by_cases z : k = k'
    · subst z; rw [if_pos ⟨rfl, h⟩, if_pos rfl]
    · rw [if_neg fun q => z q.1, if_neg z]
  · rw [if_neg h, dget_app, dget_cons, dget_nil]
    by_cases z : k = k'
    · subst z
      have : dget d k = none := by
        cases c : dget d k with
        | none => rfl
        | some y => exact absurd (by unfold dhas; rw [c]; rfl) h
      rw [this, if_pos rfl]; rfl
    · rw [if_neg z, if_neg z, Option.or_none]
theorem dget_drop (d : List (κ × β)) (k k' : κ) : dget (ddrop d k) k' = if k = k' then none else dget d k' := by
  unfold ddrop
  induction d with
  | nil => simp [dget_nil]
  | cons p d ih =>
    by_cases h : p.1 = k
    · rw [List.filter_cons_of_neg (by simp [h]), ih, dget_cons]
      by_cases z : k = k'
      · simp [z]
      · rw [if_neg z, if_neg z, if_neg (fun e => z (h.symm.trans e))]
    · rw [List.filter_cons_of_pos (by simpa using h), dget_cons, ih, dget_cons]
      by_cases z : p.1 = k'
      · have : ¬ k = k' := fun e => h (z.trans e.symm)
        simp [z, this]
      · simp [z]
theorem keys_dput (d : List (κ × β)) (k : κ) (v : β) : (dput d k v).map (·.1) = if dhas d k = true then d.map (·.1) else d.map (·.1) ++ [k] := by
  rw [dput_eq]
  by_cases h : dhas d k = true
  · rw [if_pos h, if_pos h, List.map_map]
    refine List.map_congr_left fun p _ => ?_
    show (if p.1 = k then (p.1, v) else p).1 = p.1
    split <;> rfl
  · rw [if_neg h, if_neg h, List.map_append]; rfl
theorem keys_ddrop (d : List (κ × β)) (k : κ) : (ddrop d k).map (·.1) = (d.map (·.1)).filter fun x => decide (x ≠ k) := by
  unfold ddrop
  rw [List.filter_map]; rfl
theorem nodup_dput {d : List (κ × β)} (h : (d.map (·.1)).Nodup) (k : κ) (v : β) : ((dput d k v).map (·.1)).Nodup := by
  rw [keys_dput]
  by_cases c : dhas d k = true
  · rw [if_pos c]; exact h
  · rw [if_neg c, List.nodup_append]
    have c' : ¬ k ∈ d.map (·.1) := fun z => c (dhas_iff.mpr z)
    exact ⟨h, by simp, fun x hx y hy e => c' (by rw [List.mem_singleton] at hy; subst hy; subst e; exact hx)⟩
theorem nodup_ddrop {d : List (κ × β)} (h : (d.map (·.1)).Nodup) (k : κ) : ((ddrop d k).map (·.1)).Nodup := by
  rw [keys_ddrop]; exact h.filter _
theorem mem_kput {d : List (κ × β)} {k x : κ} {v : β} : x ∈ (dput d k v).map (·.1) ↔ x = k ∨ x ∈ d.map (·.1) := by
  rw [keys_dput]
  by_cases c : dhas d k = true
  · rw [if_pos c]
    exact ⟨.inr, fun h => h.elim (fun e => by rw [e]; exact dhas_iff.mp c) id⟩
  · rw [if_neg c, List.mem_append, List.mem_singleton]
    exact Or.comm
theorem mem_kdrop {d : List (κ × β)} {k x : κ} : x ∈ (ddrop d k).map (·.1) ↔ x ∈ d.map (·.1) ∧ x ≠ k := by
  rw [keys_ddrop, List.mem_filter]; simp
theorem len_dput (d : List (κ × β)) (k : κ) (v : β) : (dput d k v).length ≤ d.length + 1 := by
  rw [dput_eq]; split
  · rw [List.length_map]; omega
  · simp
theorem len_ddrop (d : List (κ × β)) (k : κ) : (ddrop d k).length ≤ d.length := List.length_filter_le ..
theorem dget_mem {d : List (κ × β)} {k : κ} {v : β} (h : dget d k = some v) : (k, v) ∈ d := by
  induction d with
  | nil => cases h
  | cons p d ih =>
    rw [dget_cons] at h
    by_cases c : p.1 = k
    · rw [if_pos c] at h; cases h; subst c; simp
    · rw [if_neg c] at h; exact List.mem_cons_of_mem _ (ih h)
theorem dget_of_mem {d : List (κ × β)} (n : (d.map (·.1)).Nodup) {k : κ} {v : β} (h : (k, v) ∈ d) : dget d k = some v := by
  induction d with
  | nil => cases h
  | cons p d ih =>
    rw [List.map_cons, List.nodup_cons] at n
    rw [dget_cons]
    rcases List.mem_cons.mp h with rfl | h
    · rw [if_pos rfl]
    · have : ¬ p.1 = k := fun e => n.1 (by rw [e]; exact List.mem_map.mpr ⟨(k, v), h, rfl⟩)
      rw [if_neg this]; exact ih n.2 h
theorem dgetR_ok {d : List (κ × β)} {k : κ} {v : β} (h : dget d k = some v) : dgetR d k = .ok v := by unfold dgetR; rw [h]
theorem dget_split {d : List (κ × β)} (n : (d.map (·.1)).Nodup) {k : κ} {v : β} (h : dget d k = some v) : ∃ a b, d = a ++ (k, v) :: b ∧ ddrop d k = a ++ b ∧ ∀ w, dput d k w = a ++ (k, w) :: b := by
  induction d with
  | nil => cases h
  | cons p d ih =>
    rw [List.map_cons, List.nodup_cons] at n
    rw [dget_cons] at h
    by_cases c : p.1 = k
    · rw [if_pos c] at h
      cases h
      have nk : ¬ k ∈ d.map (·.1) := by rw [← c]; exact n.1
      have e1 : ∀ e : List (κ × β), ¬ k ∈ e.map (·.1) → e.filter (fun kv => decide (kv.1 ≠ k)) = e := fun e he => List.filter_eq_self.mpr fun z hz => by
        have : z.1 ≠ k := fun q => he (by rw [← q]; exact List.mem_map.mpr ⟨z, hz, rfl⟩)
        simpa using this
      refine ⟨[], d, by rw [← c]; rfl, ?_, fun w => ?_⟩
      · show (p :: d).filter _ = d
        rw [List.filter_cons_of_neg (by simp [c])]
        exact e1 d nk
      · rw [dput_eq, if_pos (dhas_iff.mpr (by simp [c])), List.map_cons, if_pos c]
        show (p.1, w) :: _ = (k, w) :: d
        rw [c]
        congr 1
        refine (List.map_congr_left (g := id) fun z hz => ?_).trans (List.map_id d)
        have : ¬ z.1 = k := fun q => nk (by rw [← q]; exact List.mem_map.mpr ⟨z, hz, rfl⟩)
        rw [if_neg this]; rfl
    · rw [if_neg c] at h
      obtain ⟨a, b, h1, h2, h3⟩ := ih n.2 h
      refine ⟨p :: a, b, by rw [h1]; rfl, ?_, fun w => ?_⟩
      · show (p :: d).filter _ = p :: (a ++ b)
        rw [List.filter_cons_of_pos (by simpa using c)]
        exact congrArg (p :: ·) h2
      · have hd : dhas d k = true := by unfold dhas; rw [h]; rfl
        have e3 := h3 w
        rw [dput_eq, if_pos hd] at e3
        rw [dput_eq, if_pos (dhas_iff.mpr (by rw [List.map_cons]; exact List.mem_cons_of_mem _ (dhas_iff.mp hd))), List.map_cons, if_neg c, e3]; rfl
end
theorem dhas_mid {κ β : Type} [DecidableEq κ] {A B : List (κ × β)} {k : κ} {v : β} : dhas (A ++ (k, v) :: B) k = true := dhas_iff.mpr (by simp)
theorem map_if {κ β : Type} [DecidableEq κ] {A : List (κ × β)} {k : κ} (w : β) (h : ¬ k ∈ A.map (·.1)) : A.map (fun kv => if kv.1 = k then (kv.1, w) else kv) = A := by
  refine (List.map_congr_left (g := id) fun z hz => ?_).trans (List.map_id A)
  have : ¬ z.1 = k := fun q => h (by rw [← q]; exact List.mem_map.mpr ⟨z, hz, rfl⟩)
  rw [if_neg this]; rfl
theorem dput_mid {κ β : Type} [DecidableEq κ] {A B : List (κ × β)} {k : κ} {v : β} (hA : ¬ k ∈ A.map (·.1)) (hB : ¬ k ∈ B.map (·.1)) (w : β) : dput (A ++ (k, v) :: B) k w = A ++ (k, w) :: B := by
  rw [dput_eq, if_pos dhas_mid, List.map_append, List.map_cons, map_if w hA, map_if w hB, if_pos rfl]
theorem filt_no {κ β : Type} [DecidableEq κ] {A : List (κ × β)} {k : κ} (h : ¬ k ∈ A.map (·.1)) : A.filter (fun kv => decide (kv.1 ≠ k)) = A := List.filter_eq_self.mpr fun z hz => by
  have : z.1 ≠ k := fun q => h (by rw [← q]; exact List.mem_map.mpr ⟨z, hz, rfl⟩)
  simpa using this
theorem ddrop_mid {κ β : Type} [DecidableEq κ] {A B : List (κ × β)} {k : κ} {v : β} (hA : ¬ k ∈ A.map (·.1)) (hB : ¬ k ∈ B.map (·.1)) : ddrop (A ++ (k, v) :: B) k = A ++ B := by
  unfold ddrop
  rw [List.filter_append, List.filter_cons_of_neg (by simp), filt_no hA, filt_no hB]
theorem mid_of {κ β : Type} [DecidableEq κ] {d : List (κ × β)} (n : (d.map (·.1)).Nodup) {k : κ} {v : β} (h : dget d k = some v) : ∃ A B, d = A ++ (k, v) :: B ∧ ¬ k ∈ A.map (·.1) ∧ ¬ k ∈ B.map (·.1) := by
  obtain ⟨A, B, rfl, _, _⟩ := dget_split n h
  rw [List.map_append, List.map_cons, List.nodup_append, List.nodup_cons] at n
  exact ⟨A, B, rfl, fun q => n.2.2 k q k (by simp) rfl, n.2.1.1⟩
theorem dput_no {κ β : Type} [DecidableEq κ] {d : List (κ × β)} {k : κ} (h : ¬ k ∈ d.map (·.1)) (v : β) : dput d k v = d ++ [(k, v)] := by
  rw [dput_eq, if_neg (fun q => h (dhas_iff.mp q))]
theorem dsetd_get {κ β : Type} [DecidableEq κ] (d : List (κ × β)) (k k' : κ) (v : β) : dget (dsetd d k v) k' = if k = k' then some ((dget d k).getD v) else dget d k' := by
  unfold dsetd dhas
  cases c : dget d k with
  | none =>
    simp only [Option.isSome_none, Bool.false_eq_true, if_false, Option.getD_none]
    rw [dget_put]
  | some y =>
    simp only [Option.isSome_some, if_true, Option.getD_some]
    by_cases z : k = k'
    · subst z; rw [c, if_pos rfl]
    · rw [if_neg z]
theorem nodup_dsetd {κ β : Type} [DecidableEq κ] {d : List (κ × β)} (h : (d.map (·.1)).Nodup) (k : κ) (v : β) : ((dsetd d k v).map (·.1)).Nodup := by
  unfold dsetd; split
  · exact h
  · exact nodup_dput h k v
theorem len_dsetd {κ β : Type} [DecidableEq κ] (d : List (κ × β)) (k : κ) (v : β) : (dsetd d k v).length ≤ d.length + 1 := by
  unfold dsetd; split
  · omega
  · exact len_dput d k v
structure RSf (s : List (Str × (Int × Int))) (c u : Str → Int) : Prop where
  nd : (s.map (·.1)).Nodup
  get : ∀ b, dget s b = if c b = 0 then none else some (c b, u b)
  zero : ∀ b, c b = 0 → u b = 0
theorem RSf.tell {s : List (Str × (Int × Int))} {c u : Str → Int} (h : RSf s c u) (b : Str) : (dget s b).getD (0, 0) = (c b, u b) := by
  rw [h.get b]
  by_cases z : c b = 0
  · rw [if_pos z, z, h.zero b z]; rfl
  · rw [if_neg z]; rfl
theorem RSf.keys {s : List (Str × (Int × Int))} {c u : Str → Int} (h : RSf s c u) {b : Str} : b ∈ s.map (·.1) ↔ c b ≠ 0 := by
  rw [← dhas_iff]
  unfold dhas
  rw [h.get b]
  by_cases z : c b = 0
  · rw [if_pos z]; simp [z]
  · rw [if_neg z]; simp [z]
structure RTf (s : List (Kt × Int)) (t : Str → Str → Int) : Prop where
  nd : (s.map (·.1)).Nodup
  fm : ∀ k, k ∈ s.map (·.1) → ∃ b w, k = ⟨[b, w]⟩
  get : ∀ b w, dget s (⟨[b, w]⟩ : Kt) = if t b w = 0 then none else some (t b w)
theorem RTf.tell {s : List (Kt × Int)} {t : Str → Str → Int} (h : RTf s t) (b w : Str) : (dget s (⟨[b, w]⟩ : Kt)).getD 0 = t b w := by
  rw [h.get b w]
  by_cases z : t b w = 0
  · rw [if_pos z, z]; rfl
  · rw [if_neg z]; rfl
theorem kt2 {a b c d : Str} : (⟨[a, b]⟩ : Kt) = ⟨[c, d]⟩ ↔ a = c ∧ b = d := by
  constructor
  · intro h
    have h := congrArg Kt.l h
    simpa using h
  · rintro ⟨rfl, rfl⟩; rfl
theorem tally_ok {s : List (Kt × Int)} {t t' : Str → Str → Int} {b w : Str} {st : Int} (h : RTf s t) (hl : s.length ≤ 100000) (e : t' b w = t b w + st) (o : ∀ b' w', ¬ (b = b' ∧ w = w') → t' b' w' = t b' w') :
    Ok (m_Folders_tally s b w st) fun s' => RTf s' t' ∧ s'.length ≤ s.length + 1 := by
  unfold m_Folders_tally
  rw [h.tell b w, ← e]
  refine .need (lt_line (m := 100000) hl (by decide)) (.bindE (dgetR_ok (v := t' b w) (by rw [dget_put, if_pos rfl])) ?_)
  have g1 : ∀ b' w', dget (dput s (⟨[b, w]⟩ : Kt) (t' b w)) (⟨[b', w']⟩ : Kt) = if b = b' ∧ w = w' then some (t' b w) else if t' b' w' = 0 then none else some (t' b' w') := fun b' w' => by
    rw [dget_put]
    by_cases z : b = b' ∧ w = w'
    · rw [if_pos z, if_pos (kt2.mpr z)]
    · rw [if_neg z, if_neg (fun q => z (kt2.mp q)), h.get, o b' w' z]
  have fm : ∀ k, k ∈ (dput s (⟨[b, w]⟩ : Kt) (t' b w)).map (·.1) → ∃ b w, k = ⟨[b, w]⟩ := fun k hk => by
    rcases mem_kput.mp hk with rfl | hk
    · exact ⟨b, w, rfl⟩
    · exact h.fm k hk
  refine .bind (Q := fun s' => RTf s' t' ∧ s'.length ≤ s.length + 1) (.ite (fun z => ?_) fun z => .ret ⟨⟨nodup_dput h.nd _ _, fm, fun b' w' => ?_⟩, len_dput _ _ _⟩) fun s' hs => .ret hs
  · have z := of_decide_eq_true z
    refine .bindE (dgetR_ok (v := t' b w) (by rw [dget_put, if_pos rfl])) (.ret ⟨⟨nodup_ddrop (nodup_dput h.nd _ _) _, fun k hk => fm k (mem_kdrop.mp hk).1, fun b' w' => ?_⟩, Nat.le_trans (len_ddrop _ _) (len_dput _ _ _)⟩)
    rw [dget_drop, g1]
    by_cases q : b = b' ∧ w = w'
    · obtain ⟨rfl, rfl⟩ := q
      rw [if_pos rfl, if_pos z]
    · rw [if_neg (fun k => q (kt2.mp k)), if_neg q]
  · have z : ¬ t' b w = 0 := fun q => z (by rw [q]; rfl)
    rw [g1]
    by_cases q : b = b' ∧ w = w'
    · obtain ⟨rfl, rfl⟩ := q
      rw [if_pos ⟨rfl, rfl⟩, if_neg z]
    · rw [if_neg q]
theorem tallies_ok {b : Str} {st : Int} : ∀ {ks : List Str} {s : List (Kt × Int)} {t : Str → Str → Int}, ks.Nodup → RTf s t → s.length + ks.length ≤ 100000 →
    Ok (forR (fun (s64 : List (Kt × Int)) (x65 : Str) => (m_Folders_tally s64 b x65 st).bind fun r68 => R.ok r68) ks s) fun s' => RTf s' (fun b' w' => if b' = b ∧ w' ∈ ks then t b' w' + st else t b' w')
  | [], s, t, _, h, _ => .ret (by simpa using h)
  | w :: r, s, t, nd, h, hl => by
    rw [List.nodup_cons] at nd
    rw [List.length_cons] at hl
    show Ok (((m_Folders_tally s b w st).bind fun r68 => R.ok r68).bind fun s => forR _ r s) _
    have T := tally_ok (b := b) (w := w) (st := st) (t' := fun b' w' => if b = b' ∧ w = w' then t b w + st else t b' w') h (by omega) (if_pos ⟨rfl, rfl⟩) (fun b' w' z => if_neg z)
    refine .bind (.bind T fun a ha => .ret ha) fun s1 ⟨h1, l1⟩ => ?_
    refine (tallies_ok nd.2 h1 (by omega)).mono fun s2 h2 => ?_
    have e : (fun b' w' => if b' = b ∧ w' ∈ r then (if b = b' ∧ w = w' then t b w + st else t b' w') + st else if b = b' ∧ w = w' then t b w + st else t b' w') = fun b' w' => if b' = b ∧ w' ∈ w :: r then t b' w' + st else t b' w' := by
      funext b' w'
      by_cases q : b' = b
      · subst q
        by_cases z : w = w'
        · subst z
          simp [nd.1]
        · have z2 : ¬ w' = w := fun e => z e.symm
          simp [z, z2]
      · have q2 : ¬ b = b' := fun e => q e.symm
        simp [q, q2]
    rw [e] at h2
    exact h2
theorem shift_ok {F : Folders} {n box : Str} {K : List (Str × Bool)} {c u c' u' : Str → Int} {t : Str → Str → Int} {st : Int} (hst : st = 1 ∨ st = -1) (hb : dget F.boxes n = some box) (hk : dget F.tags n = some K) (nd : (K.map (·.1)).Nodup) (ls : F.sums.length ≤ 10000) (lt : F.tallies.length ≤ 10000) (lk : K.length ≤ 1000)
    (hs : RSf F.sums c u) (ht : RTf F.tallies t) (ec : c' box = c box + st) (eu : u' box = u box + st * (if (!dhas K ("seen" : Str)) = true then 1 else 0)) (oc : ∀ b, ¬ box = b → c' b = c b ∧ u' b = u b) (z' : c' box = 0 → u' box = 0) :
    Ok (m_Folders_shift F n st) fun F' => F'.boxes = F.boxes ∧ F'.tags = F.tags ∧ RSf F'.sums c' u' ∧ RTf F'.tallies (fun b w => if b = box ∧ w ∈ K.map (·.1) then t b w + st else t b w) := by
  unfold m_Folders_shift
  refine .bindE (dgetR_ok hb) (.need (lt_line (m := 10000) ls (by decide)) (.bindE (dgetR_ok hk) (.need ?_ ?_)))
  · rcases hst with rfl | rfl <;> exact .inl ⟨by decide, by decide⟩
  rw [hs.tell box]
  refine .lets ?_
  dsimp only
  rw [← ec, ← eu]
  refine .need (lt_line (m := 10001) (Nat.le_trans (len_dsetd _ _ _) (by omega)) (by decide)) ?_
  have g0 : ∀ b, dget (dput (dsetd F.sums box (0, 0)) box (c' box, u' box)) b = if box = b then some (c' b, u' b) else if c' b = 0 then none else some (c' b, u' b) := fun b => by
    rw [dget_put, dsetd_get]
    by_cases q : box = b
    · subst q; rw [if_pos rfl, if_pos rfl]
    · rw [if_neg q, if_neg q, if_neg q, hs.get b, (oc b q).1, (oc b q).2]
  have gb : dget (dput (dsetd F.sums box (0, 0)) box (c' box, u' box)) box = some (c' box, u' box) := by rw [g0, if_pos rfl]
  have nd0 := nodup_dput (nodup_dsetd hs.nd box (0, 0)) box (c' box, u' box)
  have zz : ∀ b, c' b = 0 → u' b = 0 := fun b hb => by
    by_cases q : box = b
    · subst q; exact z' hb
    · rw [(oc b q).2]; exact hs.zero b (by rw [← (oc b q).1]; exact hb)
  refine .bindE (dgetR_ok gb) (.bind (Q := fun s => RSf s c' u') (.ite (fun z => ?_) fun z => .ret ⟨nd0, fun b => ?_, zz⟩) fun s1 h1 => ?_)
  · have z := of_decide_eq_true z
    refine .bindE (dgetR_ok gb) (.ret ⟨nodup_ddrop nd0 _, fun b => ?_, zz⟩)
    rw [dget_drop, g0]
    by_cases q : box = b
    · subst q; rw [if_pos rfl, if_pos z]
    · rw [if_neg q, if_neg q]
  · have z : ¬ c' box = 0 := fun q => z (decide_eq_true q)
    rw [g0]
    by_cases q : box = b
    · subst q; rw [if_pos rfl, if_neg z]
    · rw [if_neg q]
  · refine .bindE (dgetR_ok hk) (.bind (tallies_ok nd ht (by rw [List.length_map]; omega)) fun t1 ht1 => .ret ⟨rfl, rfl, h1, ht1⟩)
abbrev Own : Type := List (Str × (Str × List Str))
def cF (E : List (Str × List Str)) (b : Str) : Int := (E.countP fun e => decide (e.1 = b) : Nat)
def uF (E : List (Str × List Str)) (b : Str) : Int := (E.countP fun e => decide (e.1 = b) && !decide (("seen" : Str) ∈ e.2) : Nat)
def tF (E : List (Str × List Str)) (b w : Str) : Int := (E.countP fun e => decide (e.1 = b) && decide (w ∈ e.2) : Nat)
theorem cF_ins (A B : List (Str × List Str)) (e : Str × List Str) (b : Str) : cF (A ++ e :: B) b = cF (A ++ B) b + (if e.1 = b then 1 else 0) := by
  unfold cF
  rw [List.countP_append, List.countP_append, List.countP_cons]
  by_cases h : e.1 = b <;> simp [h] <;> omega
theorem uF_ins (A B : List (Str × List Str)) (e : Str × List Str) (b : Str) : uF (A ++ e :: B) b = uF (A ++ B) b + (if e.1 = b ∧ ¬ ("seen" : Str) ∈ e.2 then 1 else 0) := by
  unfold uF
  rw [List.countP_append, List.countP_append, List.countP_cons]
  by_cases h : e.1 = b <;> by_cases g : ("seen" : Str) ∈ e.2 <;> simp [h, g] <;> omega
theorem tF_ins (A B : List (Str × List Str)) (e : Str × List Str) (b w : Str) : tF (A ++ e :: B) b w = tF (A ++ B) b w + (if e.1 = b ∧ w ∈ e.2 then 1 else 0) := by
  unfold tF
  rw [List.countP_append, List.countP_append, List.countP_cons]
  by_cases h : e.1 = b <;> by_cases g : w ∈ e.2 <;> simp [h, g] <;> omega
theorem cF_zero {E : List (Str × List Str)} {b : Str} (h : cF E b = 0) : uF E b = 0 := by
  unfold cF at h
  unfold uF
  have h : E.countP (fun e => decide (e.1 = b)) = 0 := by omega
  have : E.countP (fun e => decide (e.1 = b) && !decide (("seen" : Str) ∈ e.2)) ≤ E.countP (fun e => decide (e.1 = b)) := List.countP_mono_left fun x _ hx => by simp at hx ⊢; exact hx.1
  omega
theorem cF_pos {E : List (Str × List Str)} {b : Str} : cF E b ≠ 0 ↔ b ∈ E.map (·.1) := by
  unfold cF
  constructor
  · intro h
    have : 0 < E.countP (fun e => decide (e.1 = b)) := by omega
    obtain ⟨e, he, hb⟩ := List.countP_pos_iff.mp this
    exact List.mem_map.mpr ⟨e, he, by simpa using hb⟩
  · intro h
    obtain ⟨e, he, hb⟩ := List.mem_map.mp h
    have : 0 < E.countP (fun e => decide (e.1 = b)) := List.countP_pos_iff.mpr ⟨e, he, by simpa using hb⟩
    omega
theorem tF_pos {E : List (Str × List Str)} {b w : Str} (h : tF E b w ≠ 0) : ∃ e, e ∈ E ∧ e.1 = b ∧ w ∈ e.2 := by
  unfold tF at h
  have : 0 < E.countP (fun e => decide (e.1 = b) && decide (w ∈ e.2)) := by omega
  obtain ⟨e, he, hb⟩ := List.countP_pos_iff.mp this
  exact ⟨e, he, by simpa using hb⟩
structure FR (F : Folders) (O : Own) : Prop where
  bk : F.boxes = O.map fun e => (e.1, e.2.1)
  nd : (O.map (·.1)).Nodup
  tk : F.tags.map (·.1) = O.map (·.1)
  tg : ∀ n f M, dget O n = some (f, M) → ∃ K, dget F.tags n = some K ∧ (K.map (·.1)).Nodup ∧ sortT (K.map (·.1)) = M
  rs : RSf F.sums (cF (O.map (·.2))) (uF (O.map (·.2)))
  rt : RTf F.tallies (tF (O.map (·.2)))
structure GB (O : Own) : Prop where
  few : O.length ≤ 60
  mks : ∀ e, e ∈ O → e.2.2.length ≤ 60
theorem nodup_lenG {α : Type} [DecidableEq α] : ∀ {xs ys : List α}, xs.Nodup → (∀ x, x ∈ xs → x ∈ ys) → xs.length ≤ ys.length
  | [], _, _, _ => Nat.zero_le _
  | x :: r, ys, d, m => by
    rw [List.nodup_cons] at d
    have hx : x ∈ ys := m x (by simp)
    have ih := nodup_lenG (xs := r) (ys := ys.erase x) d.2 fun y hy => (List.mem_erase_of_ne fun e => d.1 (by rw [← e]; exact hy)).mpr (m y (by simp [hy]))
    rw [List.length_erase_of_mem hx] at ih
    have : 0 < ys.length := List.length_pos_of_mem hx
    rw [List.length_cons]; omega
theorem flat_len {α β : Type} {f : α → List β} {n : Nat} : ∀ {xs : List α}, (∀ x, x ∈ xs → (f x).length ≤ n) → (xs.flatMap f).length ≤ xs.length * n
  | [], _ => Nat.zero_le _
  | x :: r, h => by
    have ih := flat_len (xs := r) fun y hy => h y (by simp [hy])
    have hx := h x (by simp)
    rw [List.flatMap_cons, List.length_append, List.length_cons, Nat.add_mul, Nat.one_mul]; omega
theorem FR.sums_len {F : Folders} {O : Own} (h : FR F O) : F.sums.length ≤ O.length := by
  have := nodup_len h.rs.nd (ys := (O.map (·.2)).map (·.1)) fun b hb => cF_pos.mp (h.rs.keys.mp hb)
  simpa using this
theorem FR.tal_len {F : Folders} {O : Own} (h : FR F O) (g : GB O) : F.tallies.length ≤ 3600 := by
  have k := nodup_lenG h.rt.nd (ys := O.flatMap fun e => e.2.2.map fun w => (⟨[e.2.1, w]⟩ : Kt)) fun k hk => by
    obtain ⟨b, w, rfl⟩ := h.rt.fm k hk
    have : dget F.tallies (⟨[b, w]⟩ : Kt) ≠ none := fun c => dget_none.mp c hk
    rw [h.rt.get] at this
    have : tF (O.map (·.2)) b w ≠ 0 := fun z => this (by rw [if_pos z])
    obtain ⟨e, he, hb, hw⟩ := tF_pos this
    obtain ⟨o, ho, rfl⟩ := List.mem_map.mp he
    exact List.mem_flatMap.mpr ⟨o, ho, List.mem_map.mpr ⟨w, hw, by rw [hb]⟩⟩
  have l := flat_len (f := fun e : Str × (Str × List Str) => e.2.2.map fun w => (⟨[e.2.1, w]⟩ : Kt)) (n := 60) (xs := O) fun e he => by rw [List.length_map]; exact g.mks e he
  have := g.few
  have : O.length * 60 ≤ 60 * 60 := Nat.mul_le_mul_right _ this
  rw [List.length_map] at k
  omega
theorem FR.box {F : Folders} {O : Own} (h : FR F O) (n : Str) : dget F.boxes n = (dget O n).map (·.1) := by
  rw [h.bk]
  have : ∀ O : Own, dget (O.map fun e => (e.1, e.2.1)) n = (dget O n).map (·.1) := by
    intro O
    induction O with
    | nil => rfl
    | cons e r ih =>
      rw [List.map_cons, dget_cons, dget_cons, ih]
      by_cases q : e.1 = n
      · rw [if_pos q, if_pos q]; rfl
      · rw [if_neg q, if_neg q]
  exact this O
theorem FR.has {F : Folders} {O : Own} (h : FR F O) (n : Str) : dhas F.boxes n = dhas O n := by
  unfold dhas; rw [h.box]; cases dget O n <;> rfl
theorem FR.hasT {F : Folders} {O : Own} (h : FR F O) (n : Str) : dhas F.tags n = dhas O n := by
  rw [Bool.eq_iff_iff, dhas_iff, dhas_iff, h.tk]
theorem sortT_len (xs : List Str) : (sortT xs).length = xs.length := (sortT_perm xs).length_eq
theorem mem_sortT {xs : List Str} {x : Str} : x ∈ sortT xs ↔ x ∈ xs := (sortT_perm xs).mem_iff
/-- a name's share taken off -/
theorem off_ok {F : Folders} {n f : Str} {M : List Str} {K : List (Str × Bool)} {X Y : List (Str × List Str)} (hb : dget F.boxes n = some f) (hk : dget F.tags n = some K) (nd : (K.map (·.1)).Nodup) (hm : sortT (K.map (·.1)) = M)
    (ls : F.sums.length ≤ 10000) (lt : F.tallies.length ≤ 10000) (lk : M.length ≤ 1000) (hs : RSf F.sums (cF (X ++ (f, M) :: Y)) (uF (X ++ (f, M) :: Y))) (ht : RTf F.tallies (tF (X ++ (f, M) :: Y))) :
    Ok (m_Folders_shift F n (-1)) fun F' => F'.boxes = F.boxes ∧ F'.tags = F.tags ∧ RSf F'.sums (cF (X ++ Y)) (uF (X ++ Y)) ∧ RTf F'.tallies (tF (X ++ Y)) := by
  have mk : ∀ w, w ∈ K.map (·.1) ↔ w ∈ M := fun w => by rw [← hm, mem_sortT]
  have lk' : K.length ≤ 1000 := by rw [← hm, sortT_len, List.length_map] at lk; exact lk
  have sn : dhas K ("seen" : Str) = decide (("seen" : Str) ∈ M) := by rw [Bool.eq_iff_iff, dhas_iff, decide_eq_true_eq, mk]
  refine (shift_ok (c' := cF (X ++ Y)) (u' := uF (X ++ Y)) (.inr rfl) hb hk nd ls lt lk' hs ht ?_ ?_ (fun b hb => ?_) cF_zero).mono fun F' ⟨h1, h2, h3, h4⟩ => ⟨h1, h2, h3, ?_⟩
  · rw [cF_ins, if_pos rfl]; omega
  · rw [uF_ins, sn]
    by_cases q : ("seen" : Str) ∈ M <;> simp [q]
    omega
  · rw [cF_ins, uF_ins, if_neg (fun q => hb q), if_neg (fun q => hb q.1)]
    exact ⟨by omega, by omega⟩
  · have e : (fun b w => if b = f ∧ w ∈ K.map (·.1) then tF (X ++ (f, M) :: Y) b w + -1 else tF (X ++ (f, M) :: Y) b w) = tF (X ++ Y) := by
      funext b w
      rw [tF_ins]
      by_cases q : f = b
      · subst q
        by_cases r : w ∈ M
        · have r' := (mk w).mpr r
          rw [if_pos ⟨rfl, r'⟩, if_pos ⟨rfl, r⟩]; try omega
        · have r' : ¬ w ∈ K.map (·.1) := fun z => r ((mk w).mp z)
          rw [if_neg (fun z => r' z.2), if_neg (fun z => r z.2)]; try omega
      · have q2 : ¬ b = f := fun e => q e.symm
        simp [q, q2]
    rw [e] at h4
    exact h4
/-- .. put on -/
theorem on_ok {F : Folders} {n f : Str} {M : List Str} {K : List (Str × Bool)} {X Y : List (Str × List Str)} (hb : dget F.boxes n = some f) (hk : dget F.tags n = some K) (nd : (K.map (·.1)).Nodup) (hm : sortT (K.map (·.1)) = M)
    (ls : F.sums.length ≤ 10000) (lt : F.tallies.length ≤ 10000) (lk : M.length ≤ 1000) (hs : RSf F.sums (cF (X ++ Y)) (uF (X ++ Y))) (ht : RTf F.tallies (tF (X ++ Y))) :
    Ok (m_Folders_shift F n 1) fun F' => F'.boxes = F.boxes ∧ F'.tags = F.tags ∧ RSf F'.sums (cF (X ++ (f, M) :: Y)) (uF (X ++ (f, M) :: Y)) ∧ RTf F'.tallies (tF (X ++ (f, M) :: Y)) := by
  have mk : ∀ w, w ∈ K.map (·.1) ↔ w ∈ M := fun w => by rw [← hm, mem_sortT]
  have lk' : K.length ≤ 1000 := by rw [← hm, sortT_len, List.length_map] at lk; exact lk
  have sn : dhas K ("seen" : Str) = decide (("seen" : Str) ∈ M) := by rw [Bool.eq_iff_iff, dhas_iff, decide_eq_true_eq, mk]
  refine (shift_ok (c' := cF (X ++ (f, M) :: Y)) (u' := uF (X ++ (f, M) :: Y)) (.inl rfl) hb hk nd ls lt lk' hs ht ?_ ?_ (fun b hb => ?_) cF_zero).mono fun F' ⟨h1, h2, h3, h4⟩ => ⟨h1, h2, h3, ?_⟩
  · rw [cF_ins, if_pos rfl]
  · rw [uF_ins, sn]
    by_cases q : ("seen" : Str) ∈ M <;> simp [q]
  · rw [cF_ins, uF_ins, if_neg (fun q => hb q), if_neg (fun q => hb q.1)]
    exact ⟨by omega, by omega⟩
  · have e : (fun b w => if b = f ∧ w ∈ K.map (·.1) then tF (X ++ Y) b w + 1 else tF (X ++ Y) b w) = tF (X ++ (f, M) :: Y) := by
      funext b w
      rw [tF_ins]
      by_cases q : f = b
      · subst q
        by_cases r : w ∈ M
        · have r' := (mk w).mpr r
          rw [if_pos ⟨rfl, r'⟩, if_pos ⟨rfl, r⟩]; try omega
        · have r' : ¬ w ∈ K.map (·.1) := fun z => r ((mk w).mp z)
          rw [if_neg (fun z => r' z.2), if_neg (fun z => r z.2)]; try omega
      · have q2 : ¬ b = f := fun e => q e.symm
        simp [q, q2]
    rw [e] at h4
    exact h4
def pB (e : Str × (Str × List Str)) : Str × Str := (e.1, e.2.1)
theorem keys_pB (O : Own) : (O.map pB).map (·.1) = O.map (·.1) := by rw [List.map_map]; rfl
theorem keys_mid (A B : Own) (n : Str) (v : Str × List Str) : (A ++ (n, v) :: B).map (·.1) = A.map (·.1) ++ n :: B.map (·.1) := by rw [List.map_append, List.map_cons]
theorem dget_mid {κ β : Type} [DecidableEq κ] {A B : List (κ × β)} {k : κ} {v : β} (hA : ¬ k ∈ A.map (·.1)) (m : κ) : dget (A ++ (k, v) :: B) m = if k = m then some v else dget (A ++ B) m := by
  rw [dget_app, dget_app, dget_cons]
  by_cases h : k = m
  · subst h; rw [if_pos rfl, if_pos rfl, dget_none.mpr hA]; rfl
  · rw [if_neg h, if_neg h]
/-- the last half of a change: a name's new share put on -/
theorem put_on {A B : Own} {n f' : Str} {M' : List Str} {K' : List (Str × Bool)} {tags0 tags' : List (Str × List (Str × Bool))} {s : List (Str × (Int × Int))} {t : List (Kt × Int)} (nd : ((A ++ (n, (f', M')) :: B).map (·.1)).Nodup)
    (tg : ∀ m f M, dget (A ++ B) m = some (f, M) → ∃ K, dget tags0 m = some K ∧ (K.map (·.1)).Nodup ∧ sortT (K.map (·.1)) = M)
    (t1 : tags'.map (·.1) = (A ++ (n, (f', M')) :: B).map (·.1)) (t2 : dget tags' n = some K') (t3 : ∀ m, m ≠ n → dget tags' m = dget tags0 m) (k1 : (K'.map (·.1)).Nodup) (k2 : sortT (K'.map (·.1)) = M')
    (ls : s.length ≤ 10000) (lt : t.length ≤ 10000) (lk : M'.length ≤ 1000) (hs : RSf s (cF ((A ++ B).map (·.2))) (uF ((A ++ B).map (·.2)))) (ht : RTf t (tF ((A ++ B).map (·.2)))) :
    Ok (m_Folders_shift ⟨(A ++ (n, (f', M')) :: B).map pB, tags', s, t⟩ n 1) fun F' => FR F' (A ++ (n, (f', M')) :: B) := by
  have nd' := nd
  rw [keys_mid, List.nodup_append, List.nodup_cons] at nd'
  have hA : ¬ n ∈ A.map (·.1) := fun q => nd'.2.2 n q n (by simp) rfl
  rw [List.map_append] at hs ht
  have hb : dget ((A ++ (n, (f', M')) :: B).map pB) n = some f' := by
    rw [List.map_append, List.map_cons, show pB (n, (f', M')) = (n, f') from rfl, dget_mid (by rw [keys_pB]; exact hA), if_pos rfl]
  refine (on_ok (X := A.map (·.2)) (Y := B.map (·.2)) (F := ⟨(A ++ (n, (f', M')) :: B).map pB, tags', s, t⟩) hb t2 k1 k2 ls lt lk hs ht).mono fun F' ⟨e1, e2, e3, e4⟩ => ?_
  refine ⟨e1, nd, by rw [e2]; exact t1, fun m f M hm => ?_, by rw [List.map_append, List.map_cons]; exact e3, by rw [List.map_append, List.map_cons]; exact e4⟩
  rw [e2]
  rw [dget_mid hA] at hm
  by_cases q : n = m
  · subst q
    rw [if_pos rfl] at hm
    cases hm
    exact ⟨K', t2, k1, k2⟩
  · rw [if_neg q] at hm
    show ∃ K, dget tags' m = some K ∧ _
    rw [t3 m (fun e => q e.symm)]
    exact tg m f M hm
theorem need_ok {F : Folders} {O : Own} (h : FR F O) {n : Str} (hn : dhas O n = true) : m_Folders_need F n = .ok () := by
  unfold m_Folders_need
  rw [h.has, hn]; rfl
theorem _root_.Ml.Ok.noexc {α ρ : Type} {m : R α} {f : α → R ρ} {Q : α → Prop} {P : ρ → Prop} (h : Ok m Q) (k : ∀ a, Q a → Ok (f a) P) : Ok ((R.noexc m).bind f) P := by
  obtain ⟨a, rfl, hq⟩ := h
  exact k a hq
/-- a name's share taken off, the name still there -/
theorem FR.off {F : Folders} {O : Own} (h : FR F O) (g : GB O) {n f : Str} {M : List Str} {A B : Own} (hO : O = A ++ (n, (f, M)) :: B) (hA : ¬ n ∈ A.map (·.1)) :
    Ok (m_Folders_shift F n (-1)) fun F' => F'.boxes = F.boxes ∧ F'.tags = F.tags ∧ RSf F'.sums (cF ((A ++ B).map (·.2))) (uF ((A ++ B).map (·.2))) ∧ RTf F'.tallies (tF ((A ++ B).map (·.2))) ∧ F'.sums.length ≤ 10000 ∧ F'.tallies.length ≤ 10000 := by
  subst hO
  have hd : dget (A ++ (n, (f, M)) :: B) n = some (f, M) := by rw [dget_mid hA, if_pos rfl]
  obtain ⟨K, k1, k2, k3⟩ := h.tg n f M hd
  have hs := h.rs; have ht := h.rt
  rw [List.map_append, List.map_cons] at hs ht
  have l1 := h.sums_len; have l2 := h.tal_len g; have l3 := g.few; have l4 := g.mks (n, (f, M)) (by simp)
  rw [List.map_append]
  refine (off_ok (X := A.map (·.2)) (Y := B.map (·.2)) (by rw [h.box, hd]; rfl) k1 k2 k3 (by omega) (by omega) (by dsimp only at l4; omega) hs ht).mono fun F' ⟨e1, e2, e3, e4⟩ => ⟨e1, e2, e3, e4, ?_, ?_⟩
  · have := nodup_len e3.nd (ys := (A ++ B).map fun e => e.2.1) fun b hb => by
      have := cF_pos.mp (e3.keys.mp hb)
      rw [← List.map_append, List.map_map] at this
      exact this
    rw [List.length_map, List.length_map] at this
    simp at this l3; omega
  · have k := nodup_lenG e4.nd (ys := (A ++ B).flatMap fun e => e.2.2.map fun w => (⟨[e.2.1, w]⟩ : Kt)) fun k hk => by
      obtain ⟨b, w, rfl⟩ := e4.fm k hk
      have : dget F'.tallies (⟨[b, w]⟩ : Kt) ≠ none := fun c => dget_none.mp c hk
      rw [e4.get] at this
      have : tF (A.map (·.2) ++ B.map (·.2)) b w ≠ 0 := fun z => this (by rw [if_pos z])
      obtain ⟨e, he, hb, hw⟩ := tF_pos this
      rw [← List.map_append] at he
      obtain ⟨o, ho, rfl⟩ := List.mem_map.mp he
      exact List.mem_flatMap.mpr ⟨o, ho, List.mem_map.mpr ⟨w, hw, by rw [hb]⟩⟩
    have l := flat_len (f := fun e : Str × (Str × List Str) => e.2.2.map fun w => (⟨[e.2.1, w]⟩ : Kt)) (n := 60) (xs := A ++ B) fun e he => by
      rw [List.length_map]
      exact g.mks e (by rcases List.mem_append.mp he with q | q <;> simp [q])
    rw [List.length_map] at k
    have : (A ++ B).length ≤ 60 := by simp at l3 ⊢; omega
    have : (A ++ B).length * 60 ≤ 60 * 60 := Nat.mul_le_mul_right _ this
    omega
theorem FR.others {F : Folders} {A B : Own} {n : Str} {v : Str × List Str} (h : FR F (A ++ (n, v) :: B)) (hA : ¬ n ∈ A.map (·.1)) (hB : ¬ n ∈ B.map (·.1)) : ∀ m f M, dget (A ++ B) m = some (f, M) → ∃ K, dget F.tags m = some K ∧ (K.map (·.1)).Nodup ∧ sortT (K.map (·.1)) = M := fun m f M hm => by
  refine h.tg m f M ?_
  rw [dget_mid hA]
  by_cases q : n = m
  · subst q
    have : dget (A ++ B) n = none := dget_none.mpr (by rw [List.map_append, List.mem_append]; exact fun z => z.elim hA hB)
    rw [this] at hm; cases hm
  · rw [if_neg q]; exact hm
theorem place_ok {F : Folders} {O : Own} (h : FR F O) (g : GB O) {n f f' : Str} {M : List Str} (hn : dget O n = some (f, M)) : Ok (m_Folders_place F n f') fun F' => FR F' (dput O n (f', M)) := by
  obtain ⟨A, B, rfl, hA, hB⟩ := mid_of h.nd hn
  have l3 := g.few; have l4 := g.mks (n, (f, M)) (by simp)
  rw [dput_mid hA hB]
  unfold m_Folders_place
  refine .bindE (need_ok h (by unfold dhas; rw [hn]; rfl)) (.noexc (h.off g rfl hA) fun F1 ⟨e1, e2, e3, e4, s1, s2⟩ => ?_)
  obtain ⟨K, k1, k2, k3⟩ := h.tg n f M hn
  rw [e1, e2, h.bk]
  have eb : dput ((A ++ (n, (f, M)) :: B).map fun e => (e.1, e.2.1)) n f' = (A ++ (n, (f', M)) :: B).map pB := by
    rw [List.map_append, List.map_cons, dput_mid (by rw [show A.map (fun e => (e.1, e.2.1)) = A.map pB from rfl, keys_pB]; exact hA) (by rw [show B.map (fun e => (e.1, e.2.1)) = B.map pB from rfl, keys_pB]; exact hB), List.map_append]; rfl
  rw [eb]
  refine .need (lt_line (m := 60) (by rw [List.length_map]; exact l3) (by decide)) (.noexc (put_on (tags0 := F.tags) ?_ (h.others hA hB) ?_ k1 (fun m _ => rfl) k2 k3 s1 s2 (by dsimp only at l4; omega) e3 e4) fun F' hF => .ret hF)
  · have := h.nd; rw [keys_mid] at this ⊢; exact this
  · have := h.tk; rw [keys_mid] at this ⊢; exact this
theorem tags_ok {F : Folders} {A B : Own} {n f : Str} {M M' : List Str} {K K' : List (Str × Bool)} (h : FR F (A ++ (n, (f, M)) :: B)) (hA : ¬ n ∈ A.map (·.1)) (hB : ¬ n ∈ B.map (·.1)) (k1 : dget F.tags n = some K) {s : List (Str × (Int × Int))} {t : List (Kt × Int)}
    (k2 : (K'.map (·.1)).Nodup) (k3 : sortT (K'.map (·.1)) = M') (s1 : s.length ≤ 10000) (s2 : t.length ≤ 10000) (lm : M'.length ≤ 1000) (e3 : RSf s (cF ((A ++ B).map (·.2))) (uF ((A ++ B).map (·.2)))) (e4 : RTf t (tF ((A ++ B).map (·.2)))) :
    Ok (m_Folders_shift ⟨F.boxes, dput F.tags n K', s, t⟩ n 1) fun F' => FR F' (A ++ (n, (f, M')) :: B) := by
  have eb : F.boxes = (A ++ (n, (f, M')) :: B).map pB := by rw [h.bk, List.map_append, List.map_cons, List.map_append, List.map_cons]; rfl
  rw [eb]
  refine put_on (tags0 := F.tags) ?_ (h.others hA hB) ?_ (by rw [dget_put, if_pos rfl]) (fun m hm => by rw [dget_put, if_neg (fun q => hm q.symm)]) k2 k3 s1 s2 lm e3 e4
  · have := h.nd; rw [keys_mid] at this ⊢; exact this
  · rw [keys_dput, if_pos (by unfold dhas; rw [k1]; rfl)]
    have := h.tk; rw [keys_mid] at this ⊢; exact this
theorem mark_ok {F : Folders} {O : Own} (h : FR F O) (g : GB O) {n f w : Str} {M : List Str} (hn : dget O n = some (f, M)) : Ok (m_Folders_mark F n w) fun F' => FR F' (dput O n (f, ssetT (M ++ [w]))) := by
  obtain ⟨A, B, rfl, hA, hB⟩ := mid_of h.nd hn
  have l3 := g.few; have l4 := g.mks (n, (f, M)) (by simp); dsimp only at l4
  rw [dput_mid hA hB]
  unfold m_Folders_mark
  refine .bindE (need_ok h (by unfold dhas; rw [hn]; rfl)) (.noexc (h.off g rfl hA) fun F1 ⟨e1, e2, e3, e4, s1, s2⟩ => ?_)
  obtain ⟨K, k1, k2, k3⟩ := h.tg n f M hn
  have lk : K.length = M.length := by rw [← k3, sortT_len, List.length_map]
  rw [e1, e2]
  refine .bindE (dgetR_ok k1) (.need (lt_line (m := 60) (by omega) (by decide)) (.noexc (tags_ok h hA hB k1 (nodup_dput k2 w true) ?_ s1 s2 ?_ e3 e4) fun F' hF => .ret hF))
  · refine ssetT_is ((sortT_perm _).nodup_iff.mpr (nodup_dput k2 w true)) (sortT_up _) fun x => ?_
    rw [mem_sortT, mem_kput, List.mem_append, List.mem_singleton, ← k3, mem_sortT]
    exact Or.comm
  · have := nodup_len (ssetT_nodup (M ++ [w])) (ys := M ++ [w]) fun x hx => mem_ssetT.mp hx
    rw [List.length_append, List.length_singleton] at this; omega
theorem unmark_ok {F : Folders} {O : Own} (h : FR F O) (g : GB O) {n f w : Str} {M : List Str} (hn : dget O n = some (f, M)) : Ok (m_Folders_unmark F n w) fun F' => FR F' (dput O n (f, M.filter fun x => decide (x ≠ w))) := by
  obtain ⟨A, B, rfl, hA, hB⟩ := mid_of h.nd hn
  have l3 := g.few; have l4 := g.mks (n, (f, M)) (by simp); dsimp only at l4
  rw [dput_mid hA hB]
  unfold m_Folders_unmark
  refine .bindE (need_ok h (by unfold dhas; rw [hn]; rfl)) (.noexc (h.off g rfl hA) fun F1 ⟨e1, e2, e3, e4, s1, s2⟩ => ?_)
  obtain ⟨K, k1, k2, k3⟩ := h.tg n f M hn
  rw [e1, e2]
  refine .bindE (dgetR_ok k1) (.noexc (tags_ok h hA hB k1 (nodup_ddrop k2 w) ?_ s1 s2 ?_ e3 e4) fun F' hF => .ret hF)
  · have up : (M.filter fun x => decide (x ≠ w)).Pairwise (fun a b => leT a b = true) := by rw [← k3]; exact (sortT_up _).filter _
    refine (sortT_of ?_ up).symm
    rw [keys_ddrop, ← k3]
    exact (sortT_perm _).filter _
  · exact Nat.le_trans (List.length_filter_le ..) (by omega)
theorem take_ok {F : Folders} {O : Own} (h : FR F O) (g : GB O) {n f : Str} {M : List Str} (hn : dget O n = some (f, M)) : Ok (m_Folders_take_out F n) fun F' => FR F' (ddrop O n) := by
  obtain ⟨A, B, rfl, hA, hB⟩ := mid_of h.nd hn
  rw [ddrop_mid hA hB]
  unfold m_Folders_take_out
  refine .bindE (need_ok h (by unfold dhas; rw [hn]; rfl)) (.noexc (h.off g rfl hA) fun F1 ⟨e1, e2, e3, e4, s1, s2⟩ => ?_)
  obtain ⟨K, k1, k2, k3⟩ := h.tg n f M hn
  rw [e1, e2]
  refine .bindE (dgetR_ok (v := f) (by rw [h.box, hn]; rfl)) (.bindE (dgetR_ok k1) (.ret ⟨?_, ?_, ?_, fun m f' M' hm => ?_, e3, e4⟩))
  · show ddrop F.boxes n = _
    rw [h.bk, List.map_append, List.map_cons, ddrop_mid (by rw [show A.map (fun e => (e.1, e.2.1)) = A.map pB from rfl, keys_pB]; exact hA) (by rw [show B.map (fun e => (e.1, e.2.1)) = B.map pB from rfl, keys_pB]; exact hB), List.map_append]
  · have := h.nd
    rw [keys_mid] at this
    rw [List.map_append]
    exact this.sublist ((List.Sublist.refl _).append (List.sublist_cons_self ..))
  · show (ddrop F.tags n).map (·.1) = _
    rw [keys_ddrop, h.tk, ← keys_ddrop, ddrop_mid hA hB]
  · show ∃ K, dget (ddrop F.tags n) m = some K ∧ _
    rw [dget_drop]
    by_cases q : n = m
    · subst q
      have : dget (A ++ B) n = none := dget_none.mpr (by rw [List.map_append, List.mem_append]; exact fun z => z.elim hA hB)
      rw [this] at hm; cases hm
    · rw [if_neg q]
      exact h.others hA hB m f' M' hm
theorem putK_fold : ∀ (ms : List Str) (K : List (Str × Bool)), (K.map (·.1)).Nodup → ((ms.foldl (fun K w => dput K w true) K).map (·.1)).Nodup ∧ (∀ x, x ∈ (ms.foldl (fun K w => dput K w true) K).map (·.1) ↔ x ∈ K.map (·.1) ∨ x ∈ ms) ∧ (ms.foldl (fun K w => dput K w true) K).length ≤ K.length + ms.length
  | [], K, h => ⟨h, fun x => by simp, by simp⟩
  | w :: r, K, h => by
    obtain ⟨h1, h2, h3⟩ := putK_fold r (dput K w true) (nodup_dput h w true)
    refine ⟨h1, fun x => ?_, ?_⟩
    · rw [List.foldl_cons, h2 x, mem_kput, List.mem_cons]
      constructor
      · rintro ((h | h) | h)
        · exact .inr (.inl h)
        · exact .inl h
        · exact .inr (.inr h)
      · rintro (h | h | h)
        · exact .inl (.inr h)
        · exact .inl (.inl h)
        · exact .inr h
    · have := len_dput K w true
      rw [List.foldl_cons, List.length_cons]; omega
theorem tags_loop {T : List (Str × List (Str × Bool))} {n : Str} (hn : ¬ n ∈ T.map (·.1)) : ∀ (ms : List Str) (K : List (Str × Bool)), K.length + ms.length ≤ 1000 →
    forR (fun (s17 : List (Str × List (Str × Bool))) (x18 : Str) =>
      (dgetR s17 n).bind fun x22 => R.need (x22.length < sizeLine) <| R.ok (dput s17 n (dput x22 x18 true))) ms (T ++ [(n, K)]) = .ok (T ++ [(n, ms.foldl (fun K w => dput K w true) K)])
  | [], K, _ => rfl
  | w :: r, K, hl => by
    rw [List.length_cons] at hl
    show ((dgetR (T ++ [(n, K)]) n).bind fun x22 => R.need (x22.length < sizeLine) <| R.ok (dput (T ++ [(n, K)]) n (dput x22 w true))).bind (fun s => forR _ r s) = _
    rw [dgetR_ok (v := K) (by rw [dget_mid (B := []) hn, if_pos rfl])]
    show (R.need (K.length < sizeLine) <| R.ok (dput (T ++ [(n, K)]) n (dput K w true))).bind (fun s => forR _ r s) = _
    rw [R.need_pos (lt_line (m := 1000) (by omega) (by decide)), dput_mid (B := []) hn (by simp)]
    show forR _ r (T ++ [(n, dput K w true)]) = _
    have := len_dput K w true
    rw [tags_loop hn r (dput K w true) (by omega)]
    rfl
/-- a name comes, its marks in its dict already -/
theorem come_ok {F : Folders} {O : Own} (h : FR F O) (g : GB O) {n f : Str} {ms : List Str} (hn : ¬ n ∈ O.map (·.1)) (hl : ms.length ≤ 60) :
    Ok (m_Folders_shift ⟨dput F.boxes n f, F.tags ++ [(n, ms.foldl (fun K w => dput K w true) [])], F.sums, F.tallies⟩ n 1) fun F' => FR F' (O ++ [(n, (f, ssetT ms))]) := by
  obtain ⟨k1, k2, k3⟩ := putK_fold ms [] List.nodup_nil
  have l1 := h.sums_len; have l2 := h.tal_len g; have l3 := g.few
  have eb : dput F.boxes n f = (O ++ (n, (f, ssetT ms)) :: []).map pB := by
    rw [dput_no (by rw [h.bk, show O.map (fun e => (e.1, e.2.1)) = O.map pB from rfl, keys_pB]; exact hn), h.bk, List.map_append]; rfl
  rw [eb]
  have hT : ¬ n ∈ F.tags.map (·.1) := by rw [h.tk]; exact hn
  have hs := h.rs; have ht := h.rt
  refine put_on (A := O) (B := []) (tags0 := F.tags) ?_ (by rw [List.append_nil]; exact h.tg) ?_ (by rw [dget_mid (B := []) hT, if_pos rfl]) (fun m hm => by rw [dget_mid (B := []) hT, if_neg (fun q => hm q.symm), List.append_nil]) k1 ?_ (by omega) (by omega) ?_ (by rw [List.append_nil]; exact hs) (by rw [List.append_nil]; exact ht)
  · rw [keys_mid, List.nodup_append]
    exact ⟨h.nd, by simp, fun x hx y hy e => hn (by simp at hy; rw [← hy, ← e]; exact hx)⟩
  · rw [keys_mid, List.map_append, h.tk]; rfl
  · refine ssetT_is ((sortT_perm _).nodup_iff.mpr k1) (sortT_up _) fun x => ?_
    rw [mem_sortT, k2]; simp
  · have := nodup_len (ssetT_nodup ms) (ys := ms) fun x hx => mem_ssetT.mp hx
    omega
theorem addL_ok {F : Folders} {O : Own} (h : FR F O) (g : GB O) {n f : Str} {ms : List Str} (hn : dhas O n = false) (hl : ms.length ≤ 60) : Ok (m_Folders_add_L F n f ms) fun F' => FR F' (O ++ [(n, (f, ssetT ms))]) := by
  have hn' := dhas_false.mp hn
  have l3 := g.few
  have hT : ¬ n ∈ F.tags.map (·.1) := by rw [h.tk]; exact hn'
  have lb : F.boxes.length = O.length := by rw [h.bk, List.length_map]
  have lt : F.tags.length = O.length := by rw [← List.length_map (·.1), h.tk, List.length_map]
  unfold m_Folders_add_L
  refine .ifF (by rw [h.has, hn]; decide) (.need (lt_line (m := 60) (by omega) (by decide)) (.need (lt_line (m := 60) (by omega) (by decide)) (.need (by rw [h.hasT]; exact hn) (.bindE (tags_loop hT ms [] (by simp; omega)) ?_))))
  exact .noexc (come_ok h g hn' hl) fun F' hF => .ret hF
theorem folder_ok {F : Folders} {O : Own} (h : FR F O) {n f : Str} {M : List Str} (hn : dget O n = some (f, M)) : m_Folders_folder F n = .ok f := by
  unfold m_Folders_folder
  rw [need_ok h (by unfold dhas; rw [hn]; rfl)]
  show (dgetR F.boxes n).bind _ = _
  rw [dgetR_ok (v := f) (by rw [h.box, hn]; rfl)]; rfl
theorem marks_ok {F : Folders} {O : Own} (h : FR F O) (g : GB O) {n f : Str} {M : List Str} (hn : dget O n = some (f, M)) : m_Folders_marks F n = .ok M := by
  obtain ⟨K, k1, k2, k3⟩ := h.tg n f M hn
  have l4 := g.mks (n, (f, M)) (dget_mem hn); dsimp only at l4
  unfold m_Folders_marks
  rw [need_ok h (by unfold dhas; rw [hn]; rfl)]
  show (dgetR F.tags n).bind _ = _
  rw [dgetR_ok k1]
  show R.need (K.length < 64) _ = _
  rw [R.need_pos (by rw [← k3, sortT_len, List.length_map] at l4; omega), k3]
def namesO (O : Own) (b : Str) : List Str := sortT (O.filterMap fun e => if e.2.1 = b then some e.1 else none)
theorem filt_len (O : Own) (b : Str) : (O.filterMap fun e => if e.2.1 = b then some e.1 else none).length ≤ O.length := List.length_filterMap_le ..
theorem names_ok {F : Folders} {O : Own} (h : FR F O) (g : GB O) (b : Str) : m_Folders_names F b = .ok (namesO O b) := by
  have l3 := g.few
  unfold m_Folders_names
  refine Ok.eq (.need (le_line (by rw [h.bk, List.length_map]; omega)) (.compF (fun x : Str × Str => if x.2 = b then some x.1 else none) (fun x _ => ?_) ?_))
  · by_cases q : x.2 = b
    · exact .ifT (by simpa using q) (.ret (by rw [if_pos q]))
    · exact .ifF (by simpa using q) (.ret (by rw [if_neg q]))
  · have e : F.boxes.filterMap (fun x : Str × Str => if x.2 = b then some x.1 else none) = O.filterMap fun e => if e.2.1 = b then some e.1 else none := by
      rw [h.bk, List.filterMap_map]; rfl
    dsimp only
    rw [e]
    have := filt_len O b
    exact .need (by omega) (.ret rfl)
theorem counts_ok {F : Folders} {O : Own} (h : FR F O) (b : Str) : m_Folders_counts F b = .ok (cF (O.map (·.2)) b, uF (O.map (·.2)) b) := by
  unfold m_Folders_counts
  rw [h.rs.tell]
theorem marked_ok {F : Folders} {O : Own} (h : FR F O) (b w : Str) : m_Folders_marked F b w = .ok (tF (O.map (·.2)) b w) := by
  unfold m_Folders_marked
  rw [h.rt.tell]
def boxesO (O : Own) : List (T3 Str Int Int) := (ssetT (O.map fun e => e.2.1)).map fun b => ⟨b, cF (O.map (·.2)) b, uF (O.map (·.2)) b⟩
theorem folders_ok {F : Folders} {O : Own} (h : FR F O) (g : GB O) : m_Folders_folders F = .ok (boxesO O) := by
  have l1 := h.sums_len; have l3 := g.few
  have e : sortT (F.sums.map (·.1)) = ssetT (O.map fun e => e.2.1) := ssetT_is ((sortT_perm _).nodup_iff.mpr h.rs.nd) (sortT_up _) fun x => by
    rw [mem_sortT, h.rs.keys, cF_pos, List.map_map]; rfl
  unfold m_Folders_folders
  rw [e]
  refine Ok.eq (.need (by omega) (.need (le_line (by rw [← e, sortT_len, List.length_map]; omega)) (.compM (fun b => ⟨b, cF (O.map (·.2)) b, uF (O.map (·.2)) b⟩) (fun x hx => ?_) (.ret rfl))))
  have : cF (O.map (·.2)) x ≠ 0 := by
    rw [cF_pos, List.map_map]; exact mem_ssetT.mp hx
  have hd : dget F.sums x = some (cF (O.map (·.2)) x, uF (O.map (·.2)) x) := by rw [h.rs.get, if_neg this]
  exact .bindE (dgetR_ok hd) (.bindE (dgetR_ok hd) (.ret rfl))
theorem init_ok : ∃ F, m_Folders___init__ = .ok F ∧ FR F [] :=
  ⟨_, rfl, ⟨rfl, List.nodup_nil, rfl, fun _ _ _ h => (nomatch h), ⟨List.nodup_nil, fun _ => rfl, fun _ _ => rfl⟩, ⟨List.nodup_nil, fun _ hk => (nomatch hk), fun _ _ => rfl⟩⟩⟩
theorem rng_pre {n : Nat} {pre q : List Int} {x : Int} (e : rngL 0 n = pre ++ x :: q) : x = (pre.length : Int) ∧ pre.length < n := by
  have h1 : pre.length < (rngL 0 n).length := pre_lt e
  rw [rngL_len] at h1
  refine ⟨?_, h1⟩
  have h2 : (rngL 0 n)[pre.length]? = some x := by rw [e]; simp
  unfold rngL at h2
  rw [List.getElem?_map, List.getElem?_range h1] at h2
  simp at h2
  omega
theorem all_lay {n : Nat} : ∀ {xs : List Any}, (∀ x, x ∈ xs → plA x = true ∧ (pdA x).canLay0 = true ∧ (pdA x).depth ≤ n) → plAL xs = true ∧ PyData.canLayAll0 (pdAL xs) = true ∧ PyData.depthAll (pdAL xs) ≤ n
  | [], _ => by
    rw [plAL, pdAL]
    simp [PyData.canLayAll0, PyData.depthAll]
  | x :: r, h => by
    obtain ⟨a1, a2, a3⟩ := h x (by simp)
    obtain ⟨b1, b2, b3⟩ := all_lay (n := n) (xs := r) fun y hy => h y (List.mem_cons_of_mem _ hy)
    rw [plAL, pdAL]
    simp only [PyData.canLayAll0, PyData.depthAll, a1, a2, b1, b2]
    exact ⟨rfl, rfl, by omega⟩
theorem tup_lay {n : Nat} {xs : List Any} (h : ∀ x, x ∈ xs → plA x = true ∧ (pdA x).canLay0 = true ∧ (pdA x).depth ≤ n) : plA (.tup xs) = true ∧ (pdA (.tup xs)).canLay0 = true ∧ (pdA (.tup xs)).depth ≤ n + 1 := by
  obtain ⟨h1, h2, h3⟩ := all_lay h
  rw [plA, pdA]
  simp only [PyData.canLay0, PyData.depth]
  exact ⟨h1, h2, by omega⟩
theorem lst_lay {n : Nat} {xs : List Any} (h : ∀ x, x ∈ xs → plA x = true ∧ (pdA x).canLay0 = true ∧ (pdA x).depth ≤ n) : plA (.lst xs) = true ∧ (pdA (.lst xs)).canLay0 = true ∧ (pdA (.lst xs)).depth ≤ n + 1 := by
  obtain ⟨h1, h2, h3⟩ := all_lay h
  rw [plA, pdA]
  simp only [PyData.canLay0, PyData.depth]
  exact ⟨h1, h2, by omega⟩
theorem eqA_self {x : Any} (h1 : plA x = true) (h2 : (pdA x).canLay0 = true) (h3 : (pdA x).depth ≤ 60) : eqA x x = .ok true := by
  have s : SeqAt.shaped (pdA x) = true := by
    unfold SeqAt.shaped
    rw [h2, decide_eq_true (show (pdA x).depth ≤ 64 by omega)]; rfl
  unfold eqA
  rw [R.need_pos ⟨h1, h1, s, s⟩, SeqAt.eqv_refl _ h2]
structure Some31 (S : List (List Str)) (ns fs ms : List Str) : Prop where
  eq : S = [ns, fs, ms]
  ln : ns.length = 9
  lf : fs.length = 5
  lm : ms.length = 6
  wn : ∀ x, x ∈ ns → isWord x = true
  wf : ∀ x, x ∈ fs → isWord x = true
  wm : ∀ x, x ∈ ms → isWord x = true
theorem word_is {b t : Int} (hb : 0 ≤ b ∧ b < 2147483647) (ht : 0 ≤ t ∧ t < 1000) : Ok (m_law_word b t) fun z => isWord z = true :=
  (m_law_word_ok hb ht).mono fun z hz => isWord_iff.mpr hz
theorem some_ok {b : Int} (hb : 0 ≤ b ∧ b < 2147483629) : Ok (m_law_some b) fun S => ∃ ns fs ms, Some31 S ns fs ms := by
  unfold m_law_some
  refine .comp (fun y => isWord y = true) (fun x hx => ?_) fun ys hl hy => ?_
  · have hx' := rngL_mem hx
    exact .bind (word_is (b := b / 7) (by omega) (by omega)) fun r hr => .ret ⟨r, rfl, hr⟩
  rw [rngL_len] at hl
  refine .need (le_line (by rw [List.length_singleton]; dsimp only; omega)) (.lets (.comp (fun y => isWord y = true) (fun x hx => ?_) fun zs hz hw => ?_))
  · have hx' := rngL_mem hx
    exact .bind (word_is (b := b / 5) (by omega) (by omega)) fun r hr => .ret ⟨r, rfl, hr⟩
  rw [rngL_len] at hz
  refine .need (le_line (by dsimp only [List.length_cons, List.length_nil]; omega)) (.lets (.comp (fun y => isWord y = true) (fun x hx => ?_) fun ws hs hv => ?_))
  · have hx' := rngL_mem hx
    exact .bind (word_is (b := b) (by omega) (by omega)) fun r hr => .ret ⟨r, rfl, hr⟩
  rw [rngL_len] at hs
  refine .ret ⟨ws, _, _, rfl, by omega, by simp; omega, by simp; omega, hv, fun x hx => ?_, fun x hx => ?_⟩
  · rcases List.mem_append.mp hx with h | h
    · rw [List.mem_singleton] at h; subst h; decide +kernel
    · exact hy x h
  · rcases List.mem_append.mp hx with h | h
    · simp only [List.mem_cons, List.not_mem_nil, or_false, or_self] at h; subst h; decide +kernel
    · exact hw x h
inductive Dd where
  | add (n f : Str) (ms : List Str) | take (n : Str) | place (n f : Str) | mark (n w : Str) | unmark (n w : Str)
def Dd.any : Dd → Any
  | .add n f ms => .tup [.str ("add" : Str), .str n, .str f, .tup (ms.map Any.str)]
  | .take n => .tup [.str ("take" : Str), .str n]
  | .place n f => .tup [.str ("place" : Str), .str n, .str f]
  | .mark n w => .tup [.str ("mark" : Str), .str n, .str w]
  | .unmark n w => .tup [.str ("unmark" : Str), .str n, .str w]
def Dd.name : Dd → Str
  | .add n _ _ => n | .take n => n | .place n _ => n | .mark n _ => n | .unmark n _ => n
def Dd.ok (ns fs ms : List Str) : Dd → Prop
  | .add n f l => n ∈ ns ∧ f ∈ fs ∧ (∀ w, w ∈ l → w ∈ ms) ∧ l.length ≤ 2 | .take n => n ∈ ns | .place n f => n ∈ ns ∧ f ∈ fs | .mark n w => n ∈ ns ∧ w ∈ ms | .unmark n w => n ∈ ns ∧ w ∈ ms
/-- names, folders and marks out of those that are drawn -/
structure GO (ns fs ms : List Str) (O : Own) : Prop where
  nd : (O.map (·.1)).Nodup
  all : ∀ e, e ∈ O → e.1 ∈ ns ∧ e.2.1 ∈ fs ∧ (∀ w, w ∈ e.2.2 → w ∈ ms) ∧ e.2.2.Nodup
theorem GO.gb {ns fs ms : List Str} {O : Own} (h : GO ns fs ms O) (l1 : ns.length = 9) (l3 : ms.length = 6) : GB O := ⟨by
    have := nodup_len h.nd (ys := ns) fun x hx => by
      obtain ⟨e, he, rfl⟩ := List.mem_map.mp hx
      exact (h.all e he).1
    rw [List.length_map] at this; omega, fun e he => by
    obtain ⟨_, _, h3, h4⟩ := h.all e he
    have := nodup_len h4 h3; omega⟩
theorem GO.few {ns fs ms : List Str} {O : Own} (h : GO ns fs ms O) (l1 : ns.length = 9) : O.length ≤ 9 := by
  have := nodup_len h.nd (ys := ns) fun x hx => by
    obtain ⟨e, he, rfl⟩ := List.mem_map.mp hx
    exact (h.all e he).1
  rw [List.length_map] at this; omega
theorem mem_dput {κ β : Type} [DecidableEq κ] {d : List (κ × β)} {k : κ} {v : β} {e : κ × β} (h : e ∈ dput d k v) : e = (k, v) ∨ e ∈ d := by
  rw [dput_eq] at h
  split at h
  · obtain ⟨p, hp, rfl⟩ := List.mem_map.mp h
    by_cases q : p.1 = k
    · rw [if_pos q, q]; exact .inl rfl
    · rw [if_neg q]; exact .inr hp
  · rcases List.mem_append.mp h with h | h
    · exact .inr h
    · rw [List.mem_singleton] at h; exact .inl h
theorem dhas_get {κ β : Type} [DecidableEq κ] {d : List (κ × β)} {k : κ} (h : dhas d k = true) : ∃ v, dget d k = some v := by
  unfold dhas at h
  exact Option.isSome_iff_exists.mp h
section
variable {ρ : Type} {P : ρ → Prop}
theorem ixB {α : Type} {i : Int} {xs : List α} {x : α} {f : α → R ρ} (h : 0 ≤ i) (e : xs[i.toNat]? = some x) (k : Ok (f x) P) : Ok ((idxR xs i).bind f) P := .bindE (idxR_ok h e) k
end
theorem a_word {x : Str} (h : isWord x = true) : Asc x := Wsg.asc (isWord_iff.mp h).1
def val (O : Own) (x : Str) : Str × List Str := (dget O x).getD (("" : Str), [])
theorem val_of {O : Own} (nd : (O.map (·.1)).Nodup) {e : Str × (Str × List Str)} (h : e ∈ O) : val O e.1 = e.2 := by
  unfold val
  rw [dget_of_mem nd (k := e.1) (v := e.2) h]; rfl
theorem val_get {O : Own} {x : Str} (h : x ∈ O.map (·.1)) : dgetR O x = .ok (val O x) := by
  obtain ⟨v, hv⟩ := dhas_get (dhas_iff.mpr h)
  rw [dgetR_ok hv]; unfold val; rw [hv]; rfl
def flO (O : Own) (b : Str) : List Str := O.filterMap fun e => if e.2.1 = b then some e.1 else none
theorem mem_flO {O : Own} {b x : Str} (h : x ∈ flO O b) : x ∈ O.map (·.1) := by
  obtain ⟨e, he, h⟩ := List.mem_filterMap.mp h
  by_cases q : e.2.1 = b
  · rw [if_pos q] at h; cases h; exact List.mem_map.mpr ⟨e, he, rfl⟩
  · rw [if_neg q] at h; cases h
theorem mem_namesO {O : Own} {b x : Str} (h : x ∈ namesO O b) : x ∈ O.map (·.1) := mem_flO (mem_sortT.mp h)
theorem countO (O : Own) (b : Str) (p : Str → Bool) : (namesO O b).countP p = O.countP fun e => decide (e.2.1 = b) && p e.1 := by
  unfold namesO
  rw [(sortT_perm _).countP_eq]
  induction O with
  | nil => rfl
  | cons e r ih =>
    by_cases q : e.2.1 = b
    · rw [List.filterMap_cons_some (by rw [if_pos q]), List.countP_cons, List.countP_cons, ih]; simp [q]
    · rw [List.filterMap_cons_none (by rw [if_neg q]), List.countP_cons, ih]; simp [q]
theorem countV {O : Own} (nd : (O.map (·.1)).Nodup) (b : Str) (p : List Str → Bool) : (namesO O b).countP (fun x => p (val O x).2) = (O.map (·.2)).countP fun e => decide (e.1 = b) && p e.2 := by
  rw [countO, List.countP_map]
  refine List.countP_congr fun e he => ?_
  rw [val_of nd he]; rfl
theorem len_cF {O : Own} (b : Str) : ((namesO O b).length : Int) = cF (O.map (·.2)) b := by
  have := countO O b fun _ => true
  rw [List.countP_true] at this
  unfold cF
  rw [this, List.countP_map]
  congr 1
  refine List.countP_congr fun e _ => ?_
  simp
/-- a kept pair: the same plain thing twice -/
def Kp (p : List Any) : Prop := ∃ x, p = [x, x] ∧ plA x = true ∧ (pdA x).canLay0 = true ∧ (pdA x).depth ≤ 60
def KL (k : List (List Any)) : Prop := ∀ p, p ∈ k → Kp p
theorem KL.add {k : List (List Any)} (h : KL k) {x : Any} (g : Kp [x, x]) : KL (k ++ [[x, x]]) := fun p hp => by
  rcases List.mem_append.mp hp with q | q
  · exact h p q
  · rw [List.mem_singleton] at q; subst q; exact g
theorem asc_pl {w : Str} (h : Asc w) : plA (Any.str w) = true ∧ (pdA (Any.str w)).canLay0 = true ∧ (pdA (Any.str w)).depth ≤ 1 := ⟨plA_str w, by rw [pdA_str]; exact h.lay, by rw [pdA_str]; exact Nat.zero_le _⟩
theorem pl_int (i : Int) : plA (Any.int i) = true ∧ (pdA (Any.int i)).canLay0 = true ∧ (pdA (Any.int i)).depth ≤ 1 := ⟨rfl, rfl, by rw [pdA]; exact Nat.zero_le _⟩
theorem strs_lay {l : List Str} (h : ∀ x, x ∈ l → Asc x) : (Lay.lay l : Bool) = true := List.all_eq_true.mpr fun x hx => (h x hx).lay
structure FP (F : Folders) (E : Own) : Prop where
  ex : ∃ O, FR F O ∧ O.Perm E
  nd : (E.map (·.1)).Nodup
  gb : GB E
theorem GB.perm {O E : Own} (g : GB E) (p : O.Perm E) : GB O := ⟨by rw [p.length_eq]; exact g.few, fun e he => g.mks e (p.mem_iff.mp he)⟩
theorem dget_perm {O E : Own} (p : O.Perm E) (nd : (E.map (·.1)).Nodup) (n : Str) : dget O n = dget E n := by
  have ndO : (O.map (·.1)).Nodup := (p.map _).nodup_iff.mpr nd
  cases h : dget E n with
  | some v => exact dget_of_mem ndO (p.mem_iff.mpr (dget_mem h))
  | none => exact dget_none.mpr fun q => dget_none.mp h ((p.map (·.1)).mem_iff.mp q)
theorem cF_perm {O E : Own} (p : O.Perm E) (b : Str) : cF (O.map (·.2)) b = cF (E.map (·.2)) b := by unfold cF; rw [(p.map _).countP_eq]
theorem uF_perm {O E : Own} (p : O.Perm E) (b : Str) : uF (O.map (·.2)) b = uF (E.map (·.2)) b := by unfold uF; rw [(p.map _).countP_eq]
theorem tF_perm {O E : Own} (p : O.Perm E) (b w : Str) : tF (O.map (·.2)) b w = tF (E.map (·.2)) b w := by unfold tF; rw [(p.map _).countP_eq]
theorem namesO_perm {O E : Own} (p : O.Perm E) (b : Str) : namesO O b = namesO E b := sortT_congr (p.filterMap _)
theorem boxesO_perm {O E : Own} (p : O.Perm E) : boxesO O = boxesO E := by
  unfold boxesO
  rw [ssetT_congr (fun x => (p.map fun e => e.2.1).mem_iff)]
  exact List.map_congr_left fun b _ => by rw [cF_perm p, uF_perm p]
theorem val_some {E : Own} {n : Str} (h : n ∈ E.map (·.1)) : dget E n = some ((val E n).1, (val E n).2) := by
  obtain ⟨v, hv⟩ := dhas_get (dhas_iff.mpr h)
  unfold val; rw [hv]; rfl
section
variable {F : Folders} {E : Own}
theorem FP.folder (h : FP F E) {n : Str} (hn : n ∈ E.map (·.1)) : m_Folders_folder F n = .ok (val E n).1 := by
  obtain ⟨O, f, p⟩ := h.ex
  exact folder_ok f (by rw [dget_perm p h.nd]; exact val_some hn)
theorem FP.marks (h : FP F E) {n : Str} (hn : n ∈ E.map (·.1)) : m_Folders_marks F n = .ok (val E n).2 := by
  obtain ⟨O, f, p⟩ := h.ex
  exact marks_ok f (h.gb.perm p) (by rw [dget_perm p h.nd]; exact val_some hn)
theorem FP.names (h : FP F E) (b : Str) : m_Folders_names F b = .ok (namesO E b) := by
  obtain ⟨O, f, p⟩ := h.ex
  rw [names_ok f (h.gb.perm p), namesO_perm p]
theorem FP.counts (h : FP F E) (b : Str) : m_Folders_counts F b = .ok (cF (E.map (·.2)) b, uF (E.map (·.2)) b) := by
  obtain ⟨O, f, p⟩ := h.ex
  rw [counts_ok f, cF_perm p, uF_perm p]
theorem FP.marked (h : FP F E) (b w : Str) : m_Folders_marked F b w = .ok (tF (E.map (·.2)) b w) := by
  obtain ⟨O, f, p⟩ := h.ex
  rw [marked_ok f, tF_perm p]
theorem FP.folders (h : FP F E) : m_Folders_folders F = .ok (boxesO E) := by
  obtain ⟨O, f, p⟩ := h.ex
  rw [folders_ok f (h.gb.perm p), boxesO_perm p]
end
def g33 (E : Own) (n : Str) : Any := .tup [.str (val E n).1, .lst ((val E n).2.map Any.str)]
def h33 (E : Own) (ms : List Str) (b : Str) : List Any := [.tup [.tup [.int (cF (E.map (·.2)) b), .int (uF (E.map (·.2)) b)], .lst ((namesO E b).map Any.str)], .lst ((ms.map fun w => tF (E.map (·.2)) b w).map Any.int)]
def seenV (E : Own) (fs ms : List Str) : List Any := ([.lst ((boxesO E).map sii)] ++ (sortT (E.map (·.1))).map (g33 E)) ++ fs.flatMap (h33 E ms)
theorem flat_h {E : Own} {ms : List Str} (l : List Str) : (l.flatMap (h33 E ms)).length = 2 * l.length := by
  induction l with
  | nil => rfl
  | cons b r ih => rw [List.flatMap_cons, List.length_append, ih, List.length_cons]; show 2 + _ = _; omega
theorem seen_ok {S : List (List Str)} {ns fs ms : List Str} (hS : Some31 S ns fs ms) {F : Folders} {E : Own} (h : FP F E) (few : E.length ≤ 9) : m_law_seen F E S = .ok (seenV E fs ms) := by
  obtain ⟨rfl, l1, l2, l3, wn, wf, wm⟩ := hS
  have lk : (sortT (E.map (·.1))).length ≤ 9 := by rw [sortT_len, List.length_map]; exact few
  refine Ok.eq ?_
  unfold m_law_seen
  refine .bindE h.folders (.lets (.need (by omega) (.forI (fun pre s => s = [.lst ((boxesO E).map sii)] ++ pre.map (g33 E)) rfl (fun p x q s ep hs => ?_) fun s hs => ?_)))
  · subst hs
    have hp := pre_lt ep
    have hx : x ∈ E.map (·.1) := mem_sortT.mp (show x ∈ sortT (E.map (·.1)) by rw [ep]; simp)
    refine .bindE (h.folder hx) (.bindE (h.marks hx) (.need (lt_line (m := 100) (by rw [List.length_append, List.length_map, List.length_singleton]; omega) (by decide)) (.ret ?_)))
    rw [List.map_append, ← List.append_assoc]; rfl
  · subst hs
    refine ixB (by decide) rfl (.forI (fun pre s => s = ([.lst ((boxesO E).map sii)] ++ (sortT (E.map (·.1))).map (g33 E)) ++ pre.flatMap (h33 E ms)) (by simp) (fun p x q s ep hs => ?_) fun s hs => .ret hs)
    subst hs
    have hp := pre_lt ep
    have ls : (([Any.lst ((boxesO E).map sii)] ++ (sortT (E.map (·.1))).map (g33 E)) ++ p.flatMap (h33 E ms)).length ≤ 100 := by
      rw [List.length_append, List.length_append, List.length_map, List.length_singleton, flat_h]; omega
    refine .bindE (h.counts x) (.bindE (h.names x) (.need (lt_line (m := 100) ls (by decide)) (ixB (by decide) rfl (.need (le_line (by omega)) (.compM (fun w => tF (E.map (·.2)) x w) (fun w _ => .bindE (h.marked x w) (.ret rfl)) (.need (lt_line (m := 101) (by rw [List.length_append, List.length_singleton]; omega) (by decide)) (.ret ?_)))))))
    rw [List.flatMap_append, List.flatMap_cons, List.flatMap_nil, List.append_nil, ← List.append_assoc, List.append_assoc _ [_] [_]]
    rfl
theorem lsts_lay {l : List Str} (h : ∀ x, x ∈ l → Asc x) : plA (.lst (l.map Any.str)) = true ∧ (pdA (.lst (l.map Any.str))).canLay0 = true ∧ (pdA (.lst (l.map Any.str))).depth ≤ 2 :=
  lst_lay (n := 1) fun x hx => by
    obtain ⟨w, hw, rfl⟩ := List.mem_map.mp hx
    exact asc_pl (h w hw)
theorem up_lay {x : Any} {n m : Nat} (h : plA x = true ∧ (pdA x).canLay0 = true ∧ (pdA x).depth ≤ n) (k : n ≤ m) : plA x = true ∧ (pdA x).canLay0 = true ∧ (pdA x).depth ≤ m := ⟨h.1, h.2.1, Nat.le_trans h.2.2 k⟩
structure GE (ns fs ms : List Str) (E : Own) : Prop where
  go : GO ns fs ms E
  st : ∀ e, e ∈ E → e.2.2 = ssetT e.2.2
theorem seen_self {S : List (List Str)} {ns fs ms : List Str} (hS : Some31 S ns fs ms) {E : Own} (g : GO ns fs ms E) : eqA (.lst (seenV E fs ms)) (.lst (seenV E fs ms)) = .ok true := by
  have an : ∀ n, n ∈ E.map (·.1) → Asc n := fun n hn => by
    obtain ⟨e, he, rfl⟩ := List.mem_map.mp hn
    exact a_word (hS.wn e.1 (g.all e he).1)
  have av : ∀ n, n ∈ E.map (·.1) → Asc (val E n).1 ∧ ∀ w, w ∈ (val E n).2 → Asc w := fun n hn => by
    obtain ⟨e, he, rfl⟩ := List.mem_map.mp hn
    rw [val_of g.nd he]
    exact ⟨a_word (hS.wf _ (g.all e he).2.1), fun w hw => a_word (hS.wm w ((g.all e he).2.2.1 w hw))⟩
  obtain ⟨a, b, c⟩ := lst_lay (n := 4) (xs := seenV E fs ms) fun x hx => by
    rcases List.mem_append.mp hx with hx | hx
    · rcases List.mem_append.mp hx with hx | hx
      · rw [List.mem_singleton] at hx; subst hx
        refine up_lay (lst_lay (n := 2) fun y hy => ?_) (by omega)
        obtain ⟨w, hw, rfl⟩ := List.mem_map.mp hy
        obtain ⟨q, hq, rfl⟩ := List.mem_map.mp hw
        obtain ⟨e, he, rfl⟩ := List.mem_map.mp (mem_ssetT.mp hq)
        refine tup_lay (n := 1) fun y hy => ?_
        simp only [List.mem_cons, List.not_mem_nil, or_false] at hy
        rcases hy with rfl | rfl | rfl
        · exact asc_pl (a_word (hS.wf _ (g.all e he).2.1))
        · exact pl_int _
        · exact pl_int _
      · obtain ⟨n, hn, rfl⟩ := List.mem_map.mp hx
        have hn := mem_sortT.mp hn
        refine up_lay (tup_lay (n := 2) fun y hy => ?_) (by omega)
        simp only [List.mem_cons, List.not_mem_nil, or_false] at hy
        rcases hy with rfl | rfl
        · exact up_lay (asc_pl (av n hn).1) (by omega)
        · exact lsts_lay (av n hn).2
    · obtain ⟨b, hb, hx⟩ := List.mem_flatMap.mp hx
      simp only [h33, List.mem_cons, List.not_mem_nil, or_false] at hx
      rcases hx with rfl | rfl
      · refine tup_lay (n := 3) fun y hy => ?_
        simp only [List.mem_cons, List.not_mem_nil, or_false] at hy
        rcases hy with rfl | rfl
        · refine up_lay (tup_lay (n := 1) fun z hz => ?_) (by omega)
          simp only [List.mem_cons, List.not_mem_nil, or_false] at hz
          rcases hz with rfl | rfl
          · exact pl_int _
          · exact pl_int _
        · exact up_lay (lsts_lay fun y hy => an y (mem_namesO hy)) (by omega)
      · refine up_lay (lst_lay (n := 1) fun y hy => ?_) (by omega)
        obtain ⟨i, hi, rfl⟩ := List.mem_map.mp hy
        exact pl_int _
  exact eqA_self a b (by omega)
theorem filt_count (p : Str → Bool) : ∀ l : List Str, (l.filterMap fun x => if p x = true then some x else none).length = l.countP p
  | [] => rfl
  | x :: r => by
    by_cases q : p x = true
    · rw [List.filterMap_cons_some (by rw [if_pos q]), List.length_cons, filt_count p r, List.countP_cons, if_pos q]
    · rw [List.filterMap_cons_none (by rw [if_neg q]), filt_count p r, List.countP_cons, if_neg q]; omega
theorem box_of {E : Own} (nd : (E.map (·.1)).Nodup) {b n : Str} (h : n ∈ namesO E b) : (val E n).1 = b := by
  obtain ⟨e, he, h⟩ := List.mem_filterMap.mp (mem_sortT.mp h)
  by_cases q : e.2.1 = b
  · rw [if_pos q] at h; cases h; rw [val_of nd he]; exact q
  · rw [if_neg q] at h; cases h
theorem counted_ok {F : Folders} {E : Own} (h : FP F E) (few : E.length ≤ 9) (b : Str) (ms : List Str) : m_law_counted_plainly F b ms = .ok true := by
  have ln : (namesO E b).length ≤ 9 := by
    have := filt_len E b
    unfold namesO; rw [sortT_len]; omega
  refine Ok.eq ?_
  unfold m_law_counted_plainly
  refine .bindE (h.names b) (.forFK (fun _ => True) trivial (fun w _ _ _ => ?_) fun _ _ => ?_)
  · refine .bindE (h.marked b w) (.need (le_line (by omega)) (.compF (fun x => if decide (w ∈ (val E x).2) = true then some x else none) (fun x hx => ?_) ?_))
    · refine .bindE (h.marks (mem_namesO hx)) ?_
      by_cases q : w ∈ (val E x).2
      · exact .ifT (decide_eq_true q) (.ret (by simp [q]))
      · exact .ifF (by simp [q]) (.ret (by simp [q]))
    · dsimp only
      rw [filt_count (fun x => decide (w ∈ (val E x).2)), countV h.nd b fun M => decide (w ∈ M)]
      refine .ifF ?_ (.ret ⟨(), rfl, trivial⟩)
      simp [tF]
  · dsimp only [contF]
    refine .need (le_line (by omega)) (.compF (fun x => if (!decide (("seen" : Str) ∈ (val E x).2)) = true then some x else none) (fun x hx => ?_) ?_)
    · refine .bindE (h.marks (mem_namesO hx)) ?_
      by_cases q : ("seen" : Str) ∈ (val E x).2
      · exact .ifF (by simp [q]) (.ret (by simp [q]))
      · exact .ifT (by simp [q]) (.ret (by simp [q]))
    · dsimp only
      rw [filt_count (fun x => !decide (("seen" : Str) ∈ (val E x).2)), countV h.nd b fun M => !decide (("seen" : Str) ∈ M)]
      refine .forFK (fun _ => True) trivial (fun n _ hn _ => ?_) fun _ _ => ?_
      · exact .bindE (h.folder (mem_namesO hn)) (.ifF (by rw [box_of h.nd hn]; simp) (.ret ⟨(), rfl, trivial⟩))
      · dsimp only [contF]
        refine .bindE (h.counts b) (.need rfl (.need rfl (.ret ?_)))
        rw [len_cF]
        exact decide_eq_true rfl
theorem last_get {O : Own} {n : Str} {v : Str × List Str} (hn : ¬ n ∈ O.map (·.1)) : dget (O ++ [(n, v)]) n = some v := by
  rw [show O ++ [(n, v)] = O ++ (n, v) :: [] from rfl, dget_mid hn, if_pos rfl]
theorem last_put {O : Own} {n : Str} {v w : Str × List Str} (hn : ¬ n ∈ O.map (·.1)) : dput (O ++ [(n, v)]) n w = O ++ [(n, w)] := dput_mid hn (by simp) w
theorem last_drop {O : Own} {n : Str} {v : Str × List Str} (hn : ¬ n ∈ O.map (·.1)) : ddrop (O ++ [(n, v)]) n = O := by
  rw [show O ++ [(n, v)] = O ++ (n, v) :: [] from rfl, ddrop_mid hn (by simp), List.append_nil]
theorem last_up {F : Folders} {O : Own} {n f : Str} {M : List Str} (h : FR F (O ++ [(n, (f, M))])) (hn : ¬ n ∈ O.map (·.1)) : M = ssetT M := by
  obtain ⟨K, _, k2, k3⟩ := h.tg n f M (last_get hn)
  rw [← k3]
  exact ssetT_is ((sortT_perm _).nodup_iff.mpr k2) (sortT_up _) fun x => Iff.rfl
structure Rd33 (O : Own) (ms : List Str) (n : Str) (s : Folders) (f : Str) (M : List Str) : Prop where
  fr : FR s (O ++ [(n, (f, M))])
  nd : M.Nodup
  mm : ∀ w, w ∈ M → w ∈ ms
theorem GB.last {ns fs ms : List Str} {O : Own} (g : GO ns fs ms O) (l1 : ns.length = 9) (l3 : ms.length = 6) {n f : Str} {M : List Str} (nd : M.Nodup) (mm : ∀ w, w ∈ M → w ∈ ms) : GB (O ++ [(n, (f, M))]) := ⟨by
    have := g.few l1
    rw [List.length_append, List.length_singleton]; omega, fun e he => by
    rcases List.mem_append.mp he with q | q
    · exact (g.gb l1 l3).mks e q
    · rw [List.mem_singleton] at q; subst q
      have := nodup_len nd mm
      dsimp only; omega⟩
theorem road_ok {S : List (List Str)} {ns fs ms : List Str} (hS : Some31 S ns fs ms) {F : Folders} {O : Own} (h : FR F O) (g : GO ns fs ms O) {n : Str} (hn : ¬ n ∈ O.map (·.1)) {row : List Int} (lr : row.length = 90) (hr : ∀ x, x ∈ row → 0 ≤ x ∧ x < 2147483629)
    {i : Int} (h0 : 0 ≤ i) (h1 : i + 2 < 90) {f : Str} {M : List Str} (hM : M = ssetT M) (mM : ∀ w, w ∈ M → w ∈ ms) : Ok (m_law_road F n (f, M) row i S) fun r => FR r.2 (O ++ [(n, (f, M))]) := by
  obtain ⟨rfl, l1, l2, l3, wn, wf, wm⟩ := hS
  have few := g.few l1
  have gl : ∀ {f' : Str} {M' : List Str}, M'.Nodup → (∀ w, w ∈ M' → w ∈ ms) → GB (O ++ [(n, (f', M'))]) := fun a b => GB.last g l1 l3 a b
  unfold m_law_road
  refine ixB (by decide) rfl (.idx (by omega) (by omega) fun x11 _ _ => .idx (by omega) (by omega) fun f0 hf0 _ => ixB (by decide) rfl (.idx (by omega) (by omega) fun x22 _ _ => ?_))
  refine .bind (addL_ok h (g.gb l1 l3) (dhas_false.mpr hn) (Nat.le_trans cutL_len (by omega))) fun F1 hF1 => ?_
  have j1 : Rd33 O ms n F1 f0 (ssetT (cutL ms none (some ((x22 / 5) % 4)))) := ⟨hF1, ssetT_nodup _, fun w hw => cutL_mem (mem_ssetT.mp hw)⟩
  refine .idx (by omega) (by omega) fun x25 _ _ => .need (by omega) (.forK (fun s => ∃ f' M', Rd33 O ms n s f' M') ⟨_, _, j1⟩ (fun x s hx ⟨f', M', j⟩ => ?_) fun s ⟨f', M', j⟩ => ?_)
  · have hx' := rngL_mem hx
    have hx3 : x < 3 := by omega
    refine ixB (by decide) rfl (.idx (by omega) (by omega) fun x41 _ _ => .idx (by omega) (by simpa using hx3) fun a ha _ => ?_)
    have ha : 0 < a ∧ a < 1073741824 := by
      simp only [List.mem_cons, List.not_mem_nil, or_false] at ha; omega
    refine .need ha (.idx (by omega) (by omega) fun w hw _ => ?_)
    refine .bind (mark_ok j.fr (gl j.nd j.mm) (last_get hn)) fun s2 h2 => ?_
    rw [last_put hn] at h2
    have m2 : ∀ z, z ∈ ssetT (M' ++ [w]) → z ∈ ms := fun z hz => by
      rcases List.mem_append.mp (mem_ssetT.mp hz) with q | q
      · exact j.mm z q
      · rw [List.mem_singleton] at q; subst q; exact hw
    refine ixB (by decide) rfl (.idx (by omega) (by omega) fun x60 _ _ => .idx (by omega) (by simpa using hx3) fun a2 ha2 _ => ?_)
    have ha2 : 0 < a2 ∧ a2 < 1073741824 := by
      simp only [List.mem_cons, List.not_mem_nil, or_false] at ha2; omega
    refine .need ha2 (.idx (by omega) (by omega) fun b hb _ => ?_)
    refine .bind (place_ok h2 (gl (ssetT_nodup _) m2) (last_get hn)) fun s3 h3 => ?_
    rw [last_put hn] at h3
    refine .idx (by omega) (by omega) fun x66 _ _ => .idx (by omega) (by simpa using hx3) fun a3 ha3 _ => ?_
    have ha3 : 0 < a3 ∧ a3 < 1073741824 := by
      simp only [List.mem_cons, List.not_mem_nil, or_false] at ha3; omega
    refine .need ha3 (.bind (Q := fun s => ∃ f' M', Rd33 O ms n s f' M') (.ite (fun _ => ?_) fun _ => .ret ⟨_, _, h3, ssetT_nodup _, m2⟩) fun s4 h4 => .ret h4)
    refine .bind (unmark_ok h3 (gl (ssetT_nodup _) m2) (last_get hn)) fun s4 h4 => .ret ?_
    rw [last_put hn] at h4
    exact ⟨_, _, h4, (ssetT_nodup _).filter _, fun z hz => m2 z (List.mem_filter.mp hz).1⟩
  refine .bindE (marks_ok j.fr (gl j.nd j.mm) (last_get hn)) (.forI (fun pre s => ∃ M2, Rd33 O ms n s f' M2 ∧ (∀ w, w ∈ M2 → w ∈ M') ∧ ∀ w, w ∈ M2 → w ∈ pre → w ∈ M) ⟨M', j, fun _ h => h, fun _ _ h => (nomatch h)⟩ (fun p x q s ep ⟨M2, j2, s2, t2⟩ => ?_) fun s ⟨M2, j2, s2, t2⟩ => ?_)
  · refine .bind (Q := fun s => ∃ M2, Rd33 O ms n s f' M2 ∧ (∀ w, w ∈ M2 → w ∈ M') ∧ ∀ w, w ∈ M2 → w ∈ p ++ [x] → w ∈ M) (.ite (fun _ => ?_) fun c => .ret ⟨M2, j2, s2, fun w hw hp => ?_⟩) fun s h => .ret h
    · refine .bind (unmark_ok j2.fr (gl j2.nd j2.mm) (last_get hn)) fun s4 h4 => .ret ?_
      rw [last_put hn] at h4
      refine ⟨_, ⟨h4, j2.nd.filter _, fun z hz => j2.mm z (List.mem_filter.mp hz).1⟩, fun z hz => s2 z (List.mem_filter.mp hz).1, fun w hw hp => ?_⟩
      obtain ⟨hw, hx⟩ := List.mem_filter.mp hw
      rcases List.mem_append.mp hp with z | z
      · exact t2 w hw z
      · rw [List.mem_singleton] at z; exact absurd z (of_decide_eq_true hx)
    · rcases List.mem_append.mp hp with z | z
      · exact t2 w hw z
      · rw [List.mem_singleton] at z; subst z; simpa using c
  have in2 : ∀ w, w ∈ M2 → w ∈ M := fun w hw => t2 w hw (s2 w hw)
  refine .forI (fun pre s => ∃ M3, Rd33 O ms n s f' M3 ∧ (∀ w, w ∈ M3 → w ∈ M) ∧ ∀ w, w ∈ pre → w ∈ M3) ⟨M2, j2, in2, fun _ h => (nomatch h)⟩ (fun p x q s ep ⟨M3, j3, s3, t3⟩ => ?_) fun s ⟨M3, j3, s3, t3⟩ => ?_
  · have hx : x ∈ M := List.mem_reverse.mp (show x ∈ M.reverse by rw [ep]; simp)
    refine .bind (mark_ok j3.fr (gl j3.nd j3.mm) (last_get hn)) fun s4 h4 => .ret ?_
    rw [last_put hn] at h4
    have inM : ∀ z, z ∈ ssetT (M3 ++ [x]) → z ∈ M := fun z hz => by
      rcases List.mem_append.mp (mem_ssetT.mp hz) with q | q
      · exact s3 z q
      · rw [List.mem_singleton] at q; subst q; exact hx
    refine ⟨_, ⟨h4, ssetT_nodup _, fun z hz => mM z (inM z hz)⟩, inM, fun w hw => mem_ssetT.mpr ?_⟩
    rcases List.mem_append.mp hw with z | z
    · exact List.mem_append_left _ (t3 w z)
    · exact List.mem_append_right _ z
  have e3 : M3 = M := by
    rw [last_up j3.fr hn, hM]
    exact ssetT_congr fun x => ⟨s3 x, fun hx => t3 x (List.mem_reverse.mpr hx)⟩
  subst e3
  refine .bind (place_ok j3.fr (gl j3.nd j3.mm) (last_get hn)) fun s4 h4 => .ret ?_
  rw [last_put hn] at h4
  exact h4
theorem ends_keys {E : Own} (nd : (E.map (·.1)).Nodup) : (E.map (·.1)).map (fun n => (n, val E n)) = E := by
  rw [List.map_map]
  refine (List.map_congr_left fun e he => ?_).trans (List.map_id E)
  show (e.1, val E e.1) = e
  rw [val_of nd he]
theorem keys_val {E : Own} : ∀ ks : List Str, ((ks.map fun n => (n, val E n)).map (·.1)) = ks
  | [] => rfl
  | k :: r => by rw [List.map_cons, List.map_cons, keys_val r]
theorem go_take {ns fs ms : List Str} {E : Own} (g : GO ns fs ms E) {ks : List Str} (nd : ks.Nodup) (sub : ∀ k, k ∈ ks → k ∈ E.map (·.1)) : GO ns fs ms (ks.map fun n => (n, val E n)) := by
  refine ⟨by rw [keys_val]; exact nd, fun e he => ?_⟩
  obtain ⟨n, hn, rfl⟩ := List.mem_map.mp he
  obtain ⟨o, ho, rfl⟩ := List.mem_map.mp (sub n hn)
  dsimp only
  rw [val_of g.nd ho]
  exact g.all o ho
theorem sum_one {f : Str → Int} {x : Str} : ∀ {bs : List Str}, bs.Nodup → x ∈ bs → (bs.map fun b => f b + if x = b then 1 else 0).sum = (bs.map f).sum + 1
  | b :: r, nd, h => by
    rw [List.nodup_cons] at nd
    rw [List.map_cons, List.sum_cons, List.map_cons, List.sum_cons]
    by_cases q : x = b
    · subst q
      have : (r.map fun b => f b + if x = b then 1 else 0) = r.map f := List.map_congr_left fun b hb => by
        rw [if_neg (fun e => nd.1 (by rw [e]; exact hb))]; omega
      rw [this, if_pos rfl]; omega
    · rw [sum_one nd.2 ((List.mem_cons.mp h).resolve_left q), if_neg q]; omega
theorem sum_cF : ∀ {E : List (Str × List Str)} {bs : List Str}, bs.Nodup → (∀ e, e ∈ E → e.1 ∈ bs) → (bs.map fun b => cF E b).sum = (E.length : Int)
  | [], bs, _, _ => by
    have : ∀ bs : List Str, (bs.map fun b => cF [] b).sum = 0 := fun bs => by
      induction bs with
      | nil => rfl
      | cons b r ih => rw [List.map_cons, List.sum_cons, ih]; rfl
    exact this bs
  | e :: r, bs, nd, h => by
    have : (bs.map fun b => cF (e :: r) b) = bs.map fun b => cF r b + if e.1 = b then 1 else 0 := List.map_congr_left fun b _ => cF_ins [] r e b
    rw [this, sum_one nd (h e (by simp)), sum_cF nd fun e' h' => h e' (by simp [h'])]
    simp
theorem sum_boxes (E : Own) : ((boxesO E).map (·.b)).sum = (E.length : Int) := by
  unfold boxesO
  rw [List.map_map]
  have := sum_cF (E := E.map (·.2)) (bs := ssetT (E.map fun e => e.2.1)) (ssetT_nodup _) fun e he => by
    obtain ⟨o, ho, rfl⟩ := List.mem_map.mp he
    exact mem_ssetT.mpr (List.mem_map.mpr ⟨o, ho, rfl⟩)
  rw [List.length_map] at this
  exact this
theorem sum_loop {f : Int → T3 Str Int Int → R Int} (hf : ∀ s x, f s x = .ok (s + x.b)) : ∀ (l : List (T3 Str Int Int)) (s : Int), forR f l s = .ok (s + (l.map (·.b)).sum)
  | [], s => by show R.ok s = _; rw [List.map_nil, List.sum_nil, Int.add_zero]
  | x :: r, s => by
    show (f s x).bind (fun s => forR f r s) = _
    rw [hf]
    show forR f r (s + x.b) = _
    rw [sum_loop hf r, List.map_cons, List.sum_cons, Int.add_assoc]
theorem law_ok (s : Script) (_ : s.ns.length ≤ 63) : m_law s = .ok true := by
  refine Ok.eq ?_
  unfold m_law
  refine .bind (m_law_row_ok s (n := 90) (by decide) (by decide)) fun row ⟨lr, hr⟩ => ?_
  have lr : row.length = 90 := by rw [lr]; rfl
  refine .idx (by decide) (by omega) fun b0 hb _ => .bind (some_ok (hr b0 hb)) fun S ⟨ns, fs, ms, hS⟩ => ?_
  obtain ⟨eS, l1, l2, l3, wn, wf, wm⟩ := id hS
  subst eS
  refine .idx (by decide) (by omega) fun x7 _ _ => .need (by omega) ?_
  refine .forK (fun E => GE ns fs ms E) ⟨⟨List.nodup_nil, fun _ h => (nomatch h)⟩, fun _ h => (nomatch h)⟩ (fun x E hx g => ?_) fun E g => ?_
  · have hx := rngL_mem hx
    have hx1 : 0 ≤ x := hx.1
    have hx2 : x < 10 := by omega
    refine .idx (by omega) (by omega) fun x17 _ _ => .idx (by omega) (by omega) fun x18 _ _ => .lets (.need (by omega) (.need (le_line (by rw [rngL_len]; omega)) (.comp (fun w => w ∈ ms) (fun y hy => ?_) fun l ll hl => ?_)))
    · have hy := rngL_mem hy
      have hy3 : y < 3 := by omega
      refine ixB (by decide) rfl (.idx (by omega) (by simpa using hy3) fun a ha _ => ?_)
      have ha : 0 < a ∧ a < 1073741824 := by
        simp only [List.mem_cons, List.not_mem_nil, or_false] at ha; omega
      exact .need ha (.idx (by omega) (by omega) fun w hw _ => .ret ⟨w, rfl, hw⟩)
    · rw [rngL_len] at ll
      refine ixB (by decide) rfl (.idx (by omega) (by omega) fun x48 _ _ => .idx (by omega) (by omega) fun n hn _ => ixB (by decide) rfl (.idx (by omega) (by omega) fun x58 _ _ => .idx (by omega) (by omega) fun f hf _ => ?_))
      have few := g.go.few l1
      refine .need (by dsimp only; omega) (.need (lt_line (m := 9) few (by decide)) (.ret ⟨⟨nodup_dput g.go.nd n _, fun e he => ?_⟩, fun e he => ?_⟩))
      · rcases mem_dput he with rfl | q
        · exact ⟨hn, hf, fun w hw => hl w (mem_ssetT.mp hw), ssetT_nodup _⟩
        · exact g.go.all e q
      · rcases mem_dput he with rfl | q
        · exact ssetT_congr fun x => mem_ssetT.symm
        · exact g.st e q
  have few := g.go.few l1
  have nd := g.go.nd
  have gb := g.go.gb l1 l3
  obtain ⟨F0, e0, f0⟩ := init_ok
  have lk : (E.map (·.1)).length ≤ 9 := by rw [List.length_map]; exact few
  have vE : ∀ n, n ∈ E.map (·.1) → (val E n).2 = ssetT (val E n).2 ∧ (∀ w, w ∈ (val E n).2 → w ∈ ms) ∧ (val E n).2.length ≤ 6 := fun n hn => by
    obtain ⟨e, he, rfl⟩ := List.mem_map.mp hn
    rw [val_of nd he]
    have := g.go.all e he
    exact ⟨g.st e he, this.2.2.1, by have := nodup_len this.2.2.2 this.2.2.1; omega⟩
  refine .bindE e0 (.forI (fun pre s => FR s (pre.map fun n => (n, val E n))) f0 (fun p x q s ep hs => ?_) fun one hone => ?_)
  · have hx : x ∈ E.map (·.1) := by rw [ep]; simp
    have ndk := nd
    rw [ep, List.nodup_append] at ndk
    have hxp : ¬ x ∈ p := fun h => ndk.2.2 x h x (by simp) rfl
    have gp : GO ns fs ms (p.map fun n => (n, val E n)) := go_take g.go ndk.1 fun k hk => by rw [ep]; simp [hk]
    obtain ⟨v1, v2, v3⟩ := vE x hx
    refine .bindE (val_get hx) (.bindE (val_get hx) (.bind (addL_ok (F := s) hs (gp.gb l1 l3) (dhas_false.mpr (by rw [keys_val]; exact hxp)) (by omega)) fun F' h => .ret ?_))
    rw [← v1] at h
    rw [List.map_append]
    exact h
  rw [ends_keys nd] at hone
  have p1 : FP one E := ⟨⟨E, hone, List.Perm.refl _⟩, nd, gb⟩
  refine .bindE e0 (.need (by omega) (.lets ?_))
  have pk := sortT_perm (E.map (·.1))
  have lsk : (sortT (E.map (·.1))).length = E.length := by rw [sortT_len, List.length_map]
  refine .bind (Q := fun ord => ord.Perm (E.map (·.1))) (.ite (fun c => ?_) fun _ => .ret pk) fun ord po => ?_
  · have c := of_decide_eq_true c
    refine .idx (by decide) (by omega) fun x110 h110 _ => .need c (.lets (.need (le_line ?_) (.idx (by decide) (by omega) fun x118 _ _ => .idx (by omega) (by simp; omega) fun x119 h119 _ => ?_)))
    · have a := cutL_len (xs := sortT (E.map (·.1))) (lo := some (x110 % (E.length : Int))) (hi := none)
      have b := cutL_len (xs := sortT (E.map (·.1))) (lo := none) (hi := some (x110 % (E.length : Int)))
      omega
    have rot : ((cutL (sortT (E.map (·.1))) (some (x110 % (E.length : Int))) none) ++ (cutL (sortT (E.map (·.1))) none (some (x110 % (E.length : Int))))).Perm (E.map (·.1)) := by
      have h0 := Int.emod_nonneg x110 (show (E.length : Int) ≠ 0 by omega)
      rw [cutL_from h0, cutL_to h0]
      refine (List.perm_append_comm.trans ?_).trans pk
      rw [List.take_append_drop]
    simp only [List.mem_cons, List.not_mem_nil, or_false] at h119
    refine .need h119 (.lets (.ret ?_))
    rcases h119 with rfl | rfl
    · exact rot
    · exact (List.reverse_perm _).trans rot
  have lo : ord.length = E.length := by rw [po.length_eq, List.length_map]
  have ndo : ord.Nodup := po.nodup_iff.mpr nd
  refine .need (le_line (by omega)) (.forI (fun pre s => FR s ((ord.take pre.length).map fun n => (n, val E n))) f0 (fun p x q s ep hs => ?_) fun other hother => ?_)
  · obtain ⟨ex, hp⟩ := rng_pre ep
    have hp : p.length < ord.length := by omega
    have hx1 : 0 ≤ x := by omega
    have hx2 : x < 9 := by omega
    have ei : ord[x.toNat]? = some ord[p.length] := by
      rw [show x.toNat = p.length by omega]; exact List.getElem?_eq_getElem hp
    have hn : ord[p.length] ∈ E.map (·.1) := po.mem_iff.mp (List.getElem_mem hp)
    have tk : ord.take (p.length + 1) = ord.take p.length ++ [ord[p.length]] := by rw [List.take_succ, List.getElem?_eq_getElem hp]; rfl
    have ndt : (ord.take (p.length + 1)).Nodup := ndo.sublist (List.take_sublist ..)
    have hnp : ¬ ord[p.length] ∈ ord.take p.length := fun h => by
      rw [tk, List.nodup_append] at ndt
      exact ndt.2.2 _ h _ (by simp) rfl
    have gp : GO ns fs ms ((ord.take p.length).map fun n => (n, val E n)) := go_take g.go (ndo.sublist (List.take_sublist ..)) fun k hk => po.mem_iff.mp (List.mem_of_mem_take hk)
    have gp2 : GO ns fs ms ((ord.take (p.length + 1)).map fun n => (n, val E n)) := go_take g.go ndt fun k hk => po.mem_iff.mp (List.mem_of_mem_take hk)
    obtain ⟨v1, v2, v3⟩ := vE _ hn
    refine ixB hx1 ei (ixB hx1 ei (.bindE (val_get hn) ?_))
    refine .bind (road_ok hS hs gp (by rw [keys_val]; exact hnp) lr hr (i := 50 + 3 * x) (by omega) (by omega) (f := (val E ord[p.length]).1) (M := (val E ord[p.length]).2) v1 v2) fun r hr2 => ?_
    have hr2 : FR r.2 ((ord.take (p.length + 1)).map fun n => (n, val E n)) := by
      rw [tk, List.map_append]; exact hr2
    rw [List.length_append, List.length_singleton]
    refine .idx (by omega) (by omega) fun x139 _ _ => ?_
    refine .bind (Q := fun b => b = true → dhas E (ns[8]'(by omega)) = false) (.ite (fun _ => ?_) fun _ => .ret (by simp)) fun b hb => ?_
    · refine ixB (by decide) rfl (ixB (x := ns[8]'(by omega)) (by decide) (List.getElem?_eq_getElem (by omega)) (.ret fun h => by simpa using h))
    refine .bind (Q := fun s => FR s ((ord.take (p.length + 1)).map fun n => (n, val E n))) (.ite (fun c => ?_) fun _ => .ret hr2) fun s hs => .ret hs
    have h8 := hb c
    have n8 : ¬ (ns[8]'(by omega)) ∈ ((ord.take (p.length + 1)).map fun n => (n, val E n)).map (·.1) := by
      rw [keys_val]
      exact fun h => dhas_false.mp h8 (po.mem_iff.mp (List.mem_of_mem_take h))
    refine ixB (by decide) rfl (ixB (x := ns[8]'(by omega)) (by decide) (List.getElem?_eq_getElem (by omega)) (ixB (by decide) rfl (.idx (by omega) (by omega) fun x166 _ _ => .idx (by omega) (by omega) fun f8 _ _ => ?_)))
    refine .bind (addL_ok (ms := [("seen" : Str)]) hr2 (gp2.gb l1 l3) (dhas_false.mpr n8) (by decide)) fun s2 h2 => ?_
    refine ixB (by decide) rfl (ixB (x := ns[8]'(by omega)) (by decide) (List.getElem?_eq_getElem (by omega)) ?_)
    refine .bind (take_ok h2 ⟨by have := gp2.few l1; rw [List.length_append, List.length_singleton]; omega, fun e he => ?_⟩ (last_get n8)) fun s3 h3 => .ret ?_
    · rcases List.mem_append.mp he with q | q
      · exact (gp2.gb l1 l3).mks e q
      · rw [List.mem_singleton] at q; subst q
        have := nodup_len (ssetT_nodup [("seen" : Str)]) (ys := [("seen" : Str)]) fun x hx => mem_ssetT.mp hx
        dsimp only [List.length_singleton] at this ⊢; omega
    · rw [last_drop n8] at h3; exact h3
  have po2 : ((ord.map fun n => (n, val E n))).Perm E := by
    have := po.map fun n => (n, val E n)
    rw [ends_keys nd] at this
    exact this
  have hother : FR other (ord.map fun n => (n, val E n)) := by
    rw [rngL_len, show ((ord.length : Int)).toNat = ord.length from rfl, List.take_length] at hother
    exact hother
  have p2 : FP other E := ⟨⟨_, hother, po2⟩, nd, gb⟩
  refine .bindE (seen_ok hS p1 few) (.bindE (seen_ok hS p2 few) (.bindE (seen_self hS g.go) (.ifF (by decide) ?_)))
  refine .need (by omega) (.need (le_line (by omega)) (.compM (fun n => val E n) (fun n hn => .bindE (p2.folder (mem_sortT.mp hn)) (.bindE (p2.marks (mem_sortT.mp hn)) (.ret rfl))) ?_))
  refine .need (by omega) (.need (le_line (by omega)) (.compM (fun n => val E n) (fun n hn => .bindE (val_get (mem_sortT.mp hn)) (.ret rfl)) ?_))
  have lay : (Lay.lay ((sortT (E.map (·.1))).map fun n => val E n) : Bool) = true := List.all_eq_true.mpr fun x hx => by
    obtain ⟨n, hn, rfl⟩ := List.mem_map.mp hx
    obtain ⟨e, he, rfl⟩ := List.mem_map.mp (mem_sortT.mp hn)
    rw [val_of nd he]
    have k := g.go.all e he
    show (Lay.lay e.2.1 && Lay.lay e.2.2) = true
    rw [(a_word (wf _ k.2.1)).lay, strs_lay fun w hw => a_word (wm w (k.2.2.1 w hw))]; rfl
  refine .need lay (.need lay (.ifF (by simp) ?_))
  refine ixB (by decide) rfl (.forFK (fun _ => True) trivial (fun b _ _ _ => ?_) fun _ _ => ?_)
  · refine ixB (by decide) rfl (.bindE (counted_ok p1 few b ms) (.ifF (by decide) ?_))
    exact ixB (by decide) rfl (.bindE (counted_ok p2 few b ms) (.ifF (by decide) (.ret ⟨(), rfl, trivial⟩)))
  · dsimp only [contF]
    refine .bindE p2.folders (.bindE (sum_loop (fun s x => rfl) (boxesO E) 0) (.ret ?_))
    rw [sum_boxes, Int.zero_add]
    exact decide_eq_true rfl
end Lw
namespace Lw
open PySem PySem.Spec PyProof.Rows L2 Ml
def FoldersA {G : Gx} (a : Addr) (x : Folders) : Asn G := exA fun (dx : Addr) => exA fun (p_boxes : Addr) => exA fun (p_tags : Addr) => exA fun (p_sums : Addr) => exA fun (p_tallies : Addr) => star [cell a (.ins (G.cl 2) dx [("boxes", .ref p_boxes), ("tags", .ref p_tags), ("sums", .ref p_sums), ("tallies", .ref p_tallies)]), dictA p_boxes (x.boxes : (List (Str × Str))), dictE dictA p_tags (x.tags : (List (Str × (List (Str × Bool))))), dictA p_sums (x.sums : (List (Str × (Int × Int)))), dictT p_tallies (x.tallies : (List (Kt × Int)))]
theorem open_Folders {G : Gx} {H : Hp} {a : Addr} {x : Folders} {M : List (Asn G)} (h : Sep H (FoldersA a x :: M)) : ∃ (dx : Addr) (p_boxes : Addr) (p_tags : Addr) (p_sums : Addr) (p_tallies : Addr), Sep H ([cell a (.ins (G.cl 2) dx [("boxes", .ref p_boxes), ("tags", .ref p_tags), ("sums", .ref p_sums), ("tallies", .ref p_tallies)]), dictA p_boxes (x.boxes : (List (Str × Str))), dictE dictA p_tags (x.tags : (List (Str × (List (Str × Bool))))), dictA p_sums (x.sums : (List (Str × (Int × Int)))), dictT p_tallies (x.tallies : (List (Kt × Int)))] ++ M : List (Asn G)) := by
  unfold FoldersA at h
  obtain ⟨dx, h⟩ := Sep.ex h
  obtain ⟨p_boxes, h⟩ := Sep.ex h
  obtain ⟨p_tags, h⟩ := Sep.ex h
  obtain ⟨p_sums, h⟩ := Sep.ex h
  obtain ⟨p_tallies, h⟩ := Sep.ex h
  exact ⟨dx, p_boxes, p_tags, p_sums, p_tallies, Sep.star1 h⟩
theorem ins_Folders {G : Gx} {H : Hp} {L : List (Asn G)} {i : Nat} {a : Addr} {x : Folders} (h : Sep H L) (e : L[i]? = some (FoldersA a x)) : ∃ (dx : Addr) (p_boxes : Addr) (p_tags : Addr) (p_sums : Addr) (p_tallies : Addr), H a = some (.ins (G.cl 2) dx [("boxes", .ref p_boxes), ("tags", .ref p_tags), ("sums", .ref p_sums), ("tallies", .ref p_tallies)]) := by
  obtain ⟨fp, dx, p_boxes, p_tags, p_sums, p_tallies, f1, f2, _, ⟨_, hO⟩, _⟩ := h.at e
  exact ⟨dx, p_boxes, p_tags, p_sums, p_tallies, hO⟩
theorem pack_Folders {G : Gx} {H : Hp} {a : Addr} {x : Folders} {M : List (Asn G)} {dx : Addr} {p_boxes : Addr} {p_tags : Addr} {p_sums : Addr} {p_tallies : Addr} (h : Sep H ([cell a (.ins (G.cl 2) dx [("boxes", .ref p_boxes), ("tags", .ref p_tags), ("sums", .ref p_sums), ("tallies", .ref p_tallies)]), dictA p_boxes (x.boxes : (List (Str × Str))), dictE dictA p_tags (x.tags : (List (Str × (List (Str × Bool))))), dictA p_sums (x.sums : (List (Str × (Int × Int)))), dictT p_tallies (x.tallies : (List (Kt × Int)))] ++ M : List (Asn G))) : Sep H (FoldersA a x :: M) := Sep.exI dx (Sep.exI p_boxes (Sep.exI p_tags (Sep.exI p_sums (Sep.exI p_tallies (Sep.unstar1 h)))))
structure Txt (G : Gx) (mg : Str → Option Value) where
  a_Folders___init__ : Addr
  fd_Folders___init__ : FuncData
  F_Folders___init__ : Fun G.K "__init__" "Folders.__init__" s_Folders___init__ a_Folders___init__ fd_Folders___init__
  b_Folders___init__ : Binds G.K fd_Folders___init__ ["self"] []
  kp_Folders___init__ : PySem.W.keepIn G.K (.ref a_Folders___init__) = true
  k_Folders : Mk G.K (G.cl 2) a_Folders___init__
  a_Folders_need : Addr
  fd_Folders_need : FuncData
  F_Folders_need : Fun G.K "need" "Folders.need" s_Folders_need a_Folders_need fd_Folders_need
  b_Folders_need : Binds G.K fd_Folders_need ["self", "name"] []
  kp_Folders_need : PySem.W.keepIn G.K (.ref a_Folders_need) = true
  m_Folders_need : Meth G.K (G.cl 2) "need" a_Folders_need
  a_Folders_tally : Addr
  fd_Folders_tally : FuncData
  F_Folders_tally : Fun G.K "tally" "Folders.tally" s_Folders_tally a_Folders_tally fd_Folders_tally
  b_Folders_tally : Binds G.K fd_Folders_tally ["self", "box", "word", "step"] []
  kp_Folders_tally : PySem.W.keepIn G.K (.ref a_Folders_tally) = true
  m_Folders_tally : Meth G.K (G.cl 2) "tally" a_Folders_tally
  a_Folders_shift : Addr
  fd_Folders_shift : FuncData
  F_Folders_shift : Fun G.K "shift" "Folders.shift" s_Folders_shift a_Folders_shift fd_Folders_shift
  b_Folders_shift : Binds G.K fd_Folders_shift ["self", "name", "step"] []
  kp_Folders_shift : PySem.W.keepIn G.K (.ref a_Folders_shift) = true
  m_Folders_shift : Meth G.K (G.cl 2) "shift" a_Folders_shift
  a_Folders_add : Addr
  fd_Folders_add : FuncData
  F_Folders_add : FunD G.K "add" "Folders.add" (defArgs s_Folders_add) (defBody s_Folders_add) (defScope s_Folders_add) [.str ("inbox" : Str), .non] [] a_Folders_add fd_Folders_add
  b_Folders_add : Binds G.K fd_Folders_add ["self", "name", "folder", "marks"] []
  kp_Folders_add : PySem.W.keepIn G.K (.ref a_Folders_add) = true
  m_Folders_add : Meth G.K (G.cl 2) "add" a_Folders_add
  a_Folders_take_out : Addr
  fd_Folders_take_out : FuncData
  F_Folders_take_out : Fun G.K "take_out" "Folders.take_out" s_Folders_take_out a_Folders_take_out fd_Folders_take_out
  b_Folders_take_out : Binds G.K fd_Folders_take_out ["self", "name"] []
  kp_Folders_take_out : PySem.W.keepIn G.K (.ref a_Folders_take_out) = true
  m_Folders_take_out : Meth G.K (G.cl 2) "take_out" a_Folders_take_out
  a_Folders_place : Addr
  fd_Folders_place : FuncData
  F_Folders_place : Fun G.K "place" "Folders.place" s_Folders_place a_Folders_place fd_Folders_place
  b_Folders_place : Binds G.K fd_Folders_place ["self", "name", "folder"] []
  kp_Folders_place : PySem.W.keepIn G.K (.ref a_Folders_place) = true
  m_Folders_place : Meth G.K (G.cl 2) "place" a_Folders_place
  a_Folders_mark : Addr
  fd_Folders_mark : FuncData
  F_Folders_mark : Fun G.K "mark" "Folders.mark" s_Folders_mark a_Folders_mark fd_Folders_mark
  b_Folders_mark : Binds G.K fd_Folders_mark ["self", "name", "word"] []
  kp_Folders_mark : PySem.W.keepIn G.K (.ref a_Folders_mark) = true
  m_Folders_mark : Meth G.K (G.cl 2) "mark" a_Folders_mark
  a_Folders_unmark : Addr
  fd_Folders_unmark : FuncData
  F_Folders_unmark : Fun G.K "unmark" "Folders.unmark" s_Folders_unmark a_Folders_unmark fd_Folders_unmark
  b_Folders_unmark : Binds G.K fd_Folders_unmark ["self", "name", "word"] []
  kp_Folders_unmark : PySem.W.keepIn G.K (.ref a_Folders_unmark) = true
  m_Folders_unmark : Meth G.K (G.cl 2) "unmark" a_Folders_unmark
  a_Folders_folder : Addr
  fd_Folders_folder : FuncData
  F_Folders_folder : Fun G.K "folder" "Folders.folder" s_Folders_folder a_Folders_folder fd_Folders_folder
  b_Folders_folder : Binds G.K fd_Folders_folder ["self", "name"] []
  kp_Folders_folder : PySem.W.keepIn G.K (.ref a_Folders_folder) = true
  m_Folders_folder : Meth G.K (G.cl 2) "folder" a_Folders_folder
  a_Folders_marks : Addr
  fd_Folders_marks : FuncData
  F_Folders_marks : Fun G.K "marks" "Folders.marks" s_Folders_marks a_Folders_marks fd_Folders_marks
  b_Folders_marks : Binds G.K fd_Folders_marks ["self", "name"] []
  kp_Folders_marks : PySem.W.keepIn G.K (.ref a_Folders_marks) = true
  m_Folders_marks : Meth G.K (G.cl 2) "marks" a_Folders_marks
  a_Folders_counts : Addr
  fd_Folders_counts : FuncData
  F_Folders_counts : Fun G.K "counts" "Folders.counts" s_Folders_counts a_Folders_counts fd_Folders_counts
  b_Folders_counts : Binds G.K fd_Folders_counts ["self", "folder"] []
  kp_Folders_counts : PySem.W.keepIn G.K (.ref a_Folders_counts) = true
  m_Folders_counts : Meth G.K (G.cl 2) "counts" a_Folders_counts
  a_Folders_marked : Addr
  fd_Folders_marked : FuncData
  F_Folders_marked : Fun G.K "marked" "Folders.marked" s_Folders_marked a_Folders_marked fd_Folders_marked
  b_Folders_marked : Binds G.K fd_Folders_marked ["self", "folder", "word"] []
  kp_Folders_marked : PySem.W.keepIn G.K (.ref a_Folders_marked) = true
  m_Folders_marked : Meth G.K (G.cl 2) "marked" a_Folders_marked
  a_Folders_names : Addr
  fd_Folders_names : FuncData
  F_Folders_names : Fun G.K "names" "Folders.names" s_Folders_names a_Folders_names fd_Folders_names
  b_Folders_names : Binds G.K fd_Folders_names ["self", "folder"] []
  kp_Folders_names : PySem.W.keepIn G.K (.ref a_Folders_names) = true
  m_Folders_names : Meth G.K (G.cl 2) "names" a_Folders_names
  a_Folders_folders : Addr
  fd_Folders_folders : FuncData
  F_Folders_folders : Fun G.K "folders" "Folders.folders" s_Folders_folders a_Folders_folders fd_Folders_folders
  b_Folders_folders : Binds G.K fd_Folders_folders ["self"] []
  kp_Folders_folders : PySem.W.keepIn G.K (.ref a_Folders_folders) = true
  m_Folders_folders : Meth G.K (G.cl 2) "folders" a_Folders_folders
  a_law_row : Addr
  fd_law_row : FuncData
  F_law_row : Fun G.K "_law_row" "_law_row" s_law_row a_law_row fd_law_row
  b_law_row : Binds G.K fd_law_row ["_law_script", "_law_many"] []
  kp_law_row : PySem.W.keepIn G.K (.ref a_law_row) = true
  g_law_row : mg "_law_row" = some (.ref a_law_row)
  a_law_word : Addr
  fd_law_word : FuncData
  F_law_word : Fun G.K "_law_word" "_law_word" s_law_word a_law_word fd_law_word
  b_law_word : Binds G.K fd_law_word ["_law_base", "_law_turn"] []
  kp_law_word : PySem.W.keepIn G.K (.ref a_law_word) = true
  g_law_word : mg "_law_word" = some (.ref a_law_word)
  a_law_some : Addr
  fd_law_some : FuncData
  F_law_some : Fun G.K "_law_some" "_law_some" s_law_some a_law_some fd_law_some
  b_law_some : Binds G.K fd_law_some ["_law_base"] []
  kp_law_some : PySem.W.keepIn G.K (.ref a_law_some) = true
  g_law_some : mg "_law_some" = some (.ref a_law_some)
  a_law_road : Addr
  fd_law_road : FuncData
  F_law_road : Fun G.K "_law_road" "_law_road" s_law_road a_law_road fd_law_road
  b_law_road : Binds G.K fd_law_road ["_law_folders", "_law_name", "_law_end", "_law_row_here", "_law_at", "_law_some_here"] []
  kp_law_road : PySem.W.keepIn G.K (.ref a_law_road) = true
  g_law_road : mg "_law_road" = some (.ref a_law_road)
  a_law_counted_plainly : Addr
  fd_law_counted_plainly : FuncData
  F_law_counted_plainly : Fun G.K "_law_counted_plainly" "_law_counted_plainly" s_law_counted_plainly a_law_counted_plainly fd_law_counted_plainly
  b_law_counted_plainly : Binds G.K fd_law_counted_plainly ["_law_folders", "_law_box", "_law_words"] []
  kp_law_counted_plainly : PySem.W.keepIn G.K (.ref a_law_counted_plainly) = true
  g_law_counted_plainly : mg "_law_counted_plainly" = some (.ref a_law_counted_plainly)
  a_law_seen : Addr
  fd_law_seen : FuncData
  F_law_seen : Fun G.K "_law_seen" "_law_seen" s_law_seen a_law_seen fd_law_seen
  b_law_seen : Binds G.K fd_law_seen ["_law_folders", "_law_ends", "_law_some_here"] []
  kp_law_seen : PySem.W.keepIn G.K (.ref a_law_seen) = true
  g_law_seen : mg "_law_seen" = some (.ref a_law_seen)
  a_law : Addr
  fd_law : FuncData
  F_law : Fun G.K "law" "law" s_law a_law fd_law
  b_law : Binds G.K fd_law ["_law_script"] []
  kp_law : PySem.W.keepIn G.K (.ref a_law) = true
  g_law : mg "law" = some (.ref a_law)
  g_MailError : mg "MailError" = some (.ref (G.cl 0))
  g_NoName : mg "NoName" = some (.ref (G.cl 1))
  x_NoName : PySem.W.excIn G.K (G.cl 1) [.type "ValueError", .type "Exception", .type "BaseException", .type "object"] "ValueError.__new__" = true
  kp_NoName : PySem.W.keepIn G.K (.ref (G.cl 1)) = true
  r_NoName : ∀ {X : Cx}, X.K = G.K → Raises X (.ref (G.cl 1))
  g_Folders : mg "Folders" = some (.ref (G.cl 2))
  cl_Folders : Cls G.K (G.cl 2)
  n_Folders_boxes : NoAttr G.K (G.cl 2) "boxes"
  n_Folders_tags : NoAttr G.K (G.cl 2) "tags"
  n_Folders_sums : NoAttr G.K (G.cl 2) "sums"
  n_Folders_tallies : NoAttr G.K (G.cl 2) "tallies"
  fz_Folders : G.fz (G.cl 2) = none
  z_int : mg "int" = none
  z_len : mg "len" = none
  z_range : mg "range" = none
  z_set : mg "set" = none
  z_sorted : mg "sorted" = none
  z_str : mg "str" = none
  t_SEEN : Tok
  c_SEEN : mg "SEEN" = some (.str ("seen" : Str) t_SEEN)
section
variable {P : Program} {w : World} {G : Gx} {mg : Str → Option Value} {base : Heap}
def sp_Folders___init__ (G : Gx) : Sp := fun vs H Q E => ∃ (a_v_self d_v_self : Addr) (F : Asn G), vs = [.ref a_v_self] ∧ Sep H ([cell a_v_self (.ins (G.cl 2) d_v_self []), F] : List (Asn G)) ∧ R.wp (m_Folders___init__ ) (fun r => ∀ H', Sep H' ([FoldersA a_v_self r, F] : List (Asn G)) → Q .non H') (fun _ => False)
abbrev N_Folders___init__ : List Str := ["self"]
theorem sc_Folders___init__ : FnScope N_Folders___init__ ["self"] (defScope s_Folders___init__) := ⟨rfl, rfl, rfl, by decide +kernel, rfl, by decide +kernel, by decide +kernel⟩
theorem ok_Folders___init__ (T : Txt G mg) : FnOk P w G.K mg base CX0 1 T.a_Folders___init__ T.fd_Folders___init__ ["self"] (sp_Folders___init__ G) := by
  have nd := sc_Folders___init__.nd
  refine Fun.ok T.F_Folders___init__ sc_Folders___init__ (fun vs H Q E h => ?_) (fun cdv A outer s H vs Q E hr h => ?_)
  · obtain ⟨a_v_self, d_v_self, F, rfl, _⟩ := h; rfl
  · obtain ⟨a_v_self, d_v_self, F, rfl, hS, hm⟩ := h
    refine ⟨_, (pss_cons (ps_fld (pv 0) pe_dnewK rfl)
      (pss_cons (ps_fld (pv 0) pe_dnewK rfl)
      (pss_cons (ps_fld (pv 0) pe_dnewK rfl)
      (pss_one (ps_fld (pv 0) pe_dnewT rfl))))), ?_⟩
    unfold m_Folders___init__ at hm
    refine f_seq ?_
    refine c_sfld ?_
    refine k_dnew (κ := Str) (β := Str) hS fun p1 H hS => ?_
    refine ev_to (ev_var rfl) ?_
    refine k_sfld (fs' := [("boxes", (.ref p1))]) hS (i := 1) rfl T.cl_Folders T.n_Folders_boxes rfl (by show 0 < 1000; decide) (by show decide (G.fz (G.cl 2) = some 1) = false; rw [T.fz_Folders]; rfl) rfl fun H hS => ?_
    have hS : Sep H ([dictA p1 (([] : (List (Str × Str))) : (List (Str × Str))), cell a_v_self (.ins (G.cl 2) d_v_self [("boxes", (.ref p1))]), F] : List (Asn G)) := hS
    refine sq_nx ?_
    refine f_seq ?_
    refine c_sfld ?_
    refine k_dnewE (κ := Str) (β := (List (Str × Bool))) (E := dictA) hS fun p2 H hS => ?_
    refine ev_to (ev_var rfl) ?_
    refine k_sfld (fs' := [("boxes", (.ref p1)), ("tags", (.ref p2))]) hS (i := 2) rfl T.cl_Folders T.n_Folders_tags rfl (by show 1 < 1000; decide) (by show decide (G.fz (G.cl 2) = some 2) = false; rw [T.fz_Folders]; rfl) rfl fun H hS => ?_
    have hS : Sep H ([dictE dictA p2 (([] : (List (Str × (List (Str × Bool))))) : (List (Str × (List (Str × Bool))))), dictA p1 (([] : (List (Str × Str))) : (List (Str × Str))), cell a_v_self (.ins (G.cl 2) d_v_self [("boxes", (.ref p1)), ("tags", (.ref p2))]), F] : List (Asn G)) := hS
    refine sq_nx ?_
    refine f_seq ?_
    refine c_sfld ?_
    refine k_dnew (κ := Str) (β := (Int × Int)) hS fun p3 H hS => ?_
    refine ev_to (ev_var rfl) ?_
    refine k_sfld (fs' := [("boxes", (.ref p1)), ("tags", (.ref p2)), ("sums", (.ref p3))]) hS (i := 3) rfl T.cl_Folders T.n_Folders_sums rfl (by show 2 < 1000; decide) (by show decide (G.fz (G.cl 2) = some 3) = false; rw [T.fz_Folders]; rfl) rfl fun H hS => ?_
    have hS : Sep H ([dictA p3 (([] : (List (Str × (Int × Int)))) : (List (Str × (Int × Int)))), dictE dictA p2 (([] : (List (Str × (List (Str × Bool))))) : (List (Str × (List (Str × Bool))))), dictA p1 (([] : (List (Str × Str))) : (List (Str × Str))), cell a_v_self (.ins (G.cl 2) d_v_self [("boxes", (.ref p1)), ("tags", (.ref p2)), ("sums", (.ref p3))]), F] : List (Asn G)) := hS
    refine sq_nx ?_
    refine c_sfld ?_
    refine k_dnewT (β := Int) hS fun p4 H hS => ?_
    refine ev_to (ev_var rfl) ?_
    refine k_sfld (fs' := [("boxes", (.ref p1)), ("tags", (.ref p2)), ("sums", (.ref p3)), ("tallies", (.ref p4))]) hS (i := 4) rfl T.cl_Folders T.n_Folders_tallies rfl (by show 3 < 1000; decide) (by show decide (G.fz (G.cl 2) = some 4) = false; rw [T.fz_Folders]; rfl) rfl fun H hS => ?_
    have hS : Sep H ([dictT p4 (([] : (List (Kt × Int))) : (List (Kt × Int))), dictA p3 (([] : (List (Str × (Int × Int)))) : (List (Str × (Int × Int)))), dictE dictA p2 (([] : (List (Str × (List (Str × Bool))))) : (List (Str × (List (Str × Bool))))), dictA p1 (([] : (List (Str × Str))) : (List (Str × Str))), cell a_v_self (.ins (G.cl 2) d_v_self [("boxes", (.ref p1)), ("tags", (.ref p2)), ("sums", (.ref p3)), ("tallies", (.ref p4))]), F] : List (Asn G)) := hS
    have hS : Sep H (FoldersA a_v_self (⟨([] : (List (Str × Str))), ([] : (List (Str × (List (Str × Bool))))), ([] : (List (Str × (Int × Int)))), ([] : (List (Kt × Int)))⟩ : Folders) :: [F] : List (Asn G)) := pack_Folders (hS.sel [4, 3, 2, 1, 0, 5] (by decide) rfl)
    exact hm _ (hS.sel [0, 1] (by decide) rfl)
def sp_Folders_need (G : Gx) : Sp := fun vs H Q E => ∃ (a_v_self : Addr) (v_self : Folders) (v_name : Str) (F : Asn G), vs = [.ref a_v_self, (.str (v_name))] ∧ Sep H ([FoldersA a_v_self v_self, F] : List (Asn G)) ∧ R.wp (m_Folders_need v_self v_name) (fun r => ∀ H', Sep H' ([FoldersA a_v_self v_self, F] : List (Asn G)) → Q .non H') (fun x => ∀ H', Sep H' ([FoldersA a_v_self v_self, F] : List (Asn G)) → Eok G x E H')
abbrev N_Folders_need : List Str := ["self", "name"]
theorem sc_Folders_need : FnScope N_Folders_need ["self", "name"] (defScope s_Folders_need) := ⟨rfl, rfl, rfl, by decide +kernel, rfl, by decide +kernel, by decide +kernel⟩
theorem ok_Folders_need (T : Txt G mg) : FnOk P w G.K mg base (L2.CX P w) 1 T.a_Folders_need T.fd_Folders_need ["self", "name"] (sp_Folders_need G) := by
  have nd := sc_Folders_need.nd
  refine Fun.okX T.F_Folders_need sc_Folders_need (fun vs H Q E h => ?_) (fun cdv A outer s H vs Q E hr h => ?_)
  · obtain ⟨a_v_self, v_self, v_name, F, rfl, _⟩ := h; rfl
  · obtain ⟨a_v_self, v_self, v_name, F, rfl, hS, hm⟩ := h
    refine ⟨_, (pss_one (ps_if (pt_cmp (pc_dnotin (hu_of hr) (pv 1) (pe_fld (pv 0) rfl))) (pss_one (ps_raise rfl (takes_of rfl rfl rfl rfl) (pmk_own PySem.F.excBase_ValueError T.x_NoName T.g_NoName T.kp_NoName (T.r_NoName rfl) rfl))) pss_nil)), ?_⟩
    unfold m_Folders_need at hm
    have hS : Sep H (FoldersA a_v_self v_self :: [F] : List (Asn G)) := hS.sel [0, 1] (by decide) rfl
    obtain ⟨dx1, p2, p3, p4, p5, hS⟩ := open_Folders hS
    have hS : Sep H ([cell a_v_self (.ins (G.cl 2) dx1 [("boxes", (.ref p2)), ("tags", (.ref p3)), ("sums", (.ref p4)), ("tallies", (.ref p5))]), dictA p2 (v_self.boxes : (List (Str × Str))), dictE dictA p3 (v_self.tags : (List (Str × (List (Str × Bool))))), dictA p4 (v_self.sums : (List (Str × (Int × Int)))), dictT p5 (v_self.tallies : (List (Kt × Int))), F] : List (Asn G)) := hS
    refine f_if ?_
    refine et_to (et_B (ev_dnotin hS (i := 1) (k := v_name) rfl (ev_var rfl) (ev_fld (ev_var rfl) (hS.getCell (i := 0) rfl) T.cl_Folders T.n_Folders_boxes rfl))) ?_
    refine ifK_2 (fun hb6 => ?_) (fun hb6 => ?_)
    · have hm := R.wp_ifY hm hb6
      have hS : Sep H (FoldersA a_v_self v_self :: [F] : List (Asn G)) := pack_Folders (hS.sel [0, 1, 2, 3, 4, 5] (by decide) rfl)
      exact hm _ (hS.sel [0, 1] (by decide) rfl)
    · have hm := R.wp_ifN hm (by first | (rw [hb6]; decide) | simpa using hb6)
      refine st_nx ?_
      have hS : Sep H (FoldersA a_v_self v_self :: [F] : List (Asn G)) := pack_Folders (hS.sel [0, 1, 2, 3, 4, 5] (by decide) rfl)
      exact hm _ (hS.sel [0, 1] (by decide) rfl)
def sp_Folders_tally (G : Gx) : Sp := fun vs H Q E => ∃ (a_v_self d_v_self : Addr) (w_v_self_boxes : V) (w_v_self_tags : V) (w_v_self_sums : V) (p_v_self_tallies : Addr) (v_self_tallies : (List (Kt × Int))) (v_box : Str) (v_word : Str) (v_step : Int) (F : Asn G), vs = [.ref a_v_self, (.str (v_box)), (.str (v_word)), (.int (v_step))] ∧ Sep H ([cell a_v_self (.ins (G.cl 2) d_v_self [("boxes", w_v_self_boxes), ("tags", w_v_self_tags), ("sums", w_v_self_sums), ("tallies", (.ref p_v_self_tallies))]), dictT p_v_self_tallies (v_self_tallies : (List (Kt × Int))), F] : List (Asn G)) ∧ R.wp (m_Folders_tally v_self_tallies v_box v_word v_step) (fun r => ∀ H', Sep H' ([cell a_v_self (.ins (G.cl 2) d_v_self [("boxes", w_v_self_boxes), ("tags", w_v_self_tags), ("sums", w_v_self_sums), ("tallies", (.ref p_v_self_tallies))]), dictT p_v_self_tallies (r : (List (Kt × Int))), F] : List (Asn G)) → Q .non H') (fun _ => False)
abbrev N_Folders_tally : List Str := ["self", "box", "word", "step"]
theorem sc_Folders_tally : FnScope N_Folders_tally ["self", "box", "word", "step"] (defScope s_Folders_tally) := ⟨rfl, rfl, rfl, by decide +kernel, rfl, by decide +kernel, by decide +kernel⟩
theorem ok_Folders_tally (T : Txt G mg) : FnOk P w G.K mg base CX0 1 T.a_Folders_tally T.fd_Folders_tally ["self", "box", "word", "step"] (sp_Folders_tally G) := by
  have nd := sc_Folders_tally.nd
  refine Fun.ok T.F_Folders_tally sc_Folders_tally (fun vs H Q E h => ?_) (fun cdv A outer s H vs Q E hr h => ?_)
  · obtain ⟨a_v_self, d_v_self, w_v_self_boxes, w_v_self_tags, w_v_self_sums, p_v_self_tallies, v_self_tallies, v_box, v_word, v_step, F, rfl, _⟩ := h; rfl
  · obtain ⟨a_v_self, d_v_self, w_v_self_boxes, w_v_self_tags, w_v_self_sums, p_v_self_tallies, v_self_tallies, v_box, v_word, v_step, F, rfl, hS, hm⟩ := h
    refine ⟨_, (pss_cons (ps_asg (pe_op op_add (pe_dget2 (hu_of hr) (pe_fld (pv 0) rfl) (pe_tup (pa_cons (pv 1) (pa_cons (pv 2) pa_nil))) pe_int m2) (pv 3)) (pg_sub (pe_fld (pv 0) rfl) (pe_tup (pa_cons (pv 1) (pa_cons (pv 2) pa_nil))) (set_dict (hu_of hr))))
      (pss_one (ps_if (pt_cmpR op_eq (pe_dget (hu_of hr) (pe_fld (pv 0) rfl) (pe_tup (pa_cons (pv 1) (pa_cons (pv 2) pa_nil))) (fun _ _ => rfl)) pe_int (nomark _)) (pss_one (ps_expr (pe_bmK G.K PySem.F.plainAttrs_dict PySem.F.slot_dict_pop PySem.F.type_dict_pop (mt_popT1 (hu_of hr)) (pe_fld (pv 0) rfl) (pa_cons (pe_tup (pa_cons (pv 1) (pa_cons (pv 2) pa_nil))) pa_nil)))) pss_nil))), ?_⟩
    unfold m_Folders_tally at hm
    refine f_seq ?_
    refine c_asgS ?_
    refine c_op ?_
    refine c_dget2 ?_
    refine ev_to (ev_fld (ev_var rfl) (hS.getCell (i := 0) rfl) T.cl_Folders T.n_Folders_tallies rfl) ?_
    refine k_get2a (isD_T hS (i := 1) rfl) ?_
    refine c_tup ?_
    refine ea_to (ea_cons (ev_var rfl) (ea_cons (ev_var rfl) ea_nil)) ?_
    refine k_tupKt (xs := [v_box, v_word]) hS (by show 2 ≤ sizeLine; decide) fun p1 H hS => ?_
    refine k_get2b ?_
    refine ev_to ev_c ?_
    refine k_get2T (y := (0 : Int)) hS (i := 2) rfl (hS.im (i := 0) rfl) rfl fun v3 hS => ?_
    obtain rfl : v3 = (.int ((dget v_self_tallies (⟨[v_box, v_word]⟩ : Kt)).getD 0)) := hS.im (i := 0) rfl
    have hS := hS.tail
    have hS : Sep H ([imA (.ref p1) ((⟨[v_box, v_word]⟩ : Kt) : Kt), cell a_v_self (.ins (G.cl 2) d_v_self [("boxes", w_v_self_boxes), ("tags", w_v_self_tags), ("sums", w_v_self_sums), ("tallies", (.ref p_v_self_tallies))]), dictT p_v_self_tallies (v_self_tallies : (List (Kt × Int))), F] : List (Asn G)) := hS
    refine ev_to (ev_var rfl) ?_
    refine r_I0 _ ?_
    refine ev_to (ev_fld (ev_var rfl) (hS.getCell (i := 1) rfl) T.cl_Folders T.n_Folders_tallies rfl) ?_
    refine c_tup ?_
    refine ea_to (ea_cons (ev_var rfl) (ea_cons (ev_var rfl) ea_nil)) ?_
    refine k_tupKt (xs := [v_box, v_word]) hS (by show 2 ≤ sizeLine; decide) fun p4 H hS => ?_
    obtain ⟨h6, hm⟩ := R.wp_need hm
    refine k_setDT (k := (⟨[v_box, v_word]⟩ : Kt)) (y := ((dget v_self_tallies (⟨[v_box, v_word]⟩ : Kt)).getD 0) + v_step) hS (i := 3) rfl (hS.im (i := 0) rfl) rfl h6 rfl fun H hS => ?_
    have hS : Sep H ([imA (.ref p4) ((⟨[v_box, v_word]⟩ : Kt) : Kt), imA (.ref p1) ((⟨[v_box, v_word]⟩ : Kt) : Kt), cell a_v_self (.ins (G.cl 2) d_v_self [("boxes", w_v_self_boxes), ("tags", w_v_self_tags), ("sums", w_v_self_sums), ("tallies", (.ref p_v_self_tallies))]), dictT p_v_self_tallies (dput v_self_tallies (⟨[v_box, v_word]⟩ : Kt) (((dget v_self_tallies (⟨[v_box, v_word]⟩ : Kt)).getD 0) + v_step) : (List (Kt × Int))), F] : List (Asn G)) := hS
    refine sq_nx ?_
    refine f_if ?_
    refine f_test ?_
    refine c_op ?_
    refine c_dget ?_
    refine ev_to (ev_fld (ev_var rfl) (hS.getCell (i := 2) rfl) T.cl_Folders T.n_Folders_tallies rfl) ?_
    refine k_dget1 ?_
    refine c_tup ?_
    refine ea_to (ea_cons (ev_var rfl) (ea_cons (ev_var rfl) ea_nil)) ?_
    refine k_tupKt (xs := [v_box, v_word]) hS (by show 2 ≤ sizeLine; decide) fun p7 H hS => ?_
    obtain ⟨y9, hy9, hm⟩ := wp_dgetG hm
    obtain ⟨v10, g11, hv12⟩ := dget_someT hS (i := 4) rfl (hS.im (i := 0) rfl) hy9
    have hv12 : v10 = (.int (y9)) := hv12
    subst hv12
    refine k_dgetV g11 ?_
    refine ev_to ev_c ?_
    refine ev_op2 (ev_eqI ev_c ev_c) ?_
    refine f_bl ?_
    refine ifK_J (τ := (List (Kt × Int))) (fun (s13 : (List (Kt × Int))) (σ : L2.St) (H : Hp) => σ = [some (.ref a_v_self), some (.str (v_box)), some (.str (v_word)), some (.int (v_step))] ∧ Sep H ([imA (.ref p7) ((⟨[v_box, v_word]⟩ : Kt) : Kt), imA (.ref p4) ((⟨[v_box, v_word]⟩ : Kt) : Kt), imA (.ref p1) ((⟨[v_box, v_word]⟩ : Kt) : Kt), cell a_v_self (.ins (G.cl 2) d_v_self [("boxes", w_v_self_boxes), ("tags", w_v_self_tags), ("sums", w_v_self_sums), ("tallies", (.ref p_v_self_tallies))]), dictT p_v_self_tallies (s13 : (List (Kt × Int))), F] : List (Asn G))) hm (fun hb q hm nx => ?_) (fun hb q hm nx => ?_) (fun s13 σ H hm hI => ?_)
    ·
      refine c_drop ?_
      refine c_bm ?_
      refine ev_to (ev_fld (ev_var rfl) (hS.getCell (i := 3) rfl) T.cl_Folders T.n_Folders_tallies rfl) ?_
      refine ⟨tyDT hS (i := 4) rfl, ?_⟩
      refine c_cons ?_
      refine c_tup ?_
      refine ea_to (ea_cons (ev_var rfl) (ea_cons (ev_var rfl) ea_nil)) ?_
      refine k_tupKt (xs := [v_box, v_word]) hS (by show 2 ≤ sizeLine; decide) fun p14 H hS => ?_
      refine c_nil ?_
      obtain ⟨y16, hy16, hm⟩ := wp_dgetG hm
      refine k_pop1T hS (i := 5) rfl (hS.im (i := 0) rfl) hy16 rfl fun v17 H hS => ?_
      obtain rfl : v17 = (.int (y16)) := hS.im (i := 0) rfl
      have hS := hS.tail
      have hS : Sep H ([imA (.ref p14) ((⟨[v_box, v_word]⟩ : Kt) : Kt), imA (.ref p7) ((⟨[v_box, v_word]⟩ : Kt) : Kt), imA (.ref p4) ((⟨[v_box, v_word]⟩ : Kt) : Kt), imA (.ref p1) ((⟨[v_box, v_word]⟩ : Kt) : Kt), cell a_v_self (.ins (G.cl 2) d_v_self [("boxes", w_v_self_boxes), ("tags", w_v_self_tags), ("sums", w_v_self_sums), ("tallies", (.ref p_v_self_tallies))]), dictT p_v_self_tallies (ddrop (dput v_self_tallies (⟨[v_box, v_word]⟩ : Kt) (((dget v_self_tallies (⟨[v_box, v_word]⟩ : Kt)).getD 0) + v_step)) (⟨[v_box, v_word]⟩ : Kt) : (List (Kt × Int))), F] : List (Asn G)) := hS
      exact nx _ _ _ hm ⟨rfl, hS.sel [1, 2, 3, 4, 5, 6] (by decide) rfl⟩
    ·
      refine st_nx ?_
      exact nx _ _ _ hm ⟨rfl, hS.sel [0, 1, 2, 3, 4, 5] (by decide) rfl⟩
    · obtain ⟨rfl, hS⟩ := hI
      exact hm _ (hS.sel [3, 4, 5] (by decide) rfl)
def sp_Folders_shift (G : Gx) : Sp := fun vs H Q E => ∃ (a_v_self : Addr) (v_self : Folders) (v_name : Str) (v_step : Int) (F : Asn G), vs = [.ref a_v_self, (.str (v_name)), (.int (v_step))] ∧ Sep H ([FoldersA a_v_self v_self, F] : List (Asn G)) ∧ R.wp (m_Folders_shift v_self v_name v_step) (fun r => ∀ H', Sep H' ([FoldersA a_v_self r, F] : List (Asn G)) → Q .non H') (fun _ => False)
abbrev N_Folders_shift : List Str := ["self", "name", "step", "box", "both", "unseen", "word"]
theorem sc_Folders_shift : FnScope N_Folders_shift ["self", "name", "step"] (defScope s_Folders_shift) := ⟨rfl, rfl, rfl, by decide +kernel, rfl, by decide +kernel, by decide +kernel⟩
theorem ok_Folders_shift (T : Txt G mg) : FnOk P w G.K mg base CX0 2 T.a_Folders_shift T.fd_Folders_shift ["self", "name", "step"] (sp_Folders_shift G) := by
  have nd := sc_Folders_shift.nd
  refine Fun.ok T.F_Folders_shift sc_Folders_shift (fun vs H Q E h => ?_) (fun cdv A outer s H vs Q E hr h => ?_)
  · obtain ⟨a_v_self, v_self, v_name, v_step, F, rfl, _⟩ := h; rfl
  · obtain ⟨a_v_self, v_self, v_name, v_step, F, rfl, hS, hm⟩ := h
    refine ⟨_, (pss_cons (ps_set (i := 3) nd rfl (Or.inl rfl) (pe_dget (hu_of hr) (pe_fld (pv 0) rfl) (pv 1) (fun _ _ => rfl)))
      (pss_cons (ps_set (i := 4) nd rfl (Or.inl rfl) (pe_dsetd (pe_fld (pv 0) rfl) (pv 3) (pe_tup (pa_cons pe_int (pa_cons pe_int pa_nil))) m2))
      (pss_cons (ps_set (i := 5) nd rfl (Or.inl rfl) (pe_op op_add (pe_ix (ix_tupK G.K) (pv 4) pe_int (fun _ _ => rfl)) (pe_op op_mul (pv 2) (pe_callTy call_int1 (by rfl) T.z_int (by decide +kernel) (pa_cons (pe_cmp (pc_dnotin (hu_of hr) (pe_glob (v := .str ("seen" : Str)) rfl T.c_SEEN ⟨_, rfl⟩) (pe_dget (hu_of hr) (pe_fld (pv 0) rfl) (pv 1) (fun _ _ => rfl))) rfl) pa_nil)))))
      (pss_cons (ps_asg (pe_tup (pa_cons (pe_op op_add (pe_ix (ix_tupK G.K) (pv 4) pe_int (fun _ _ => rfl)) (pv 2)) (pa_cons (pv 5) pa_nil))) (pg_sub (pe_fld (pv 0) rfl) (pv 3) (set_dict (hu_of hr))))
      (pss_cons (ps_if (pt_cmpR op_eq (pe_ix (ix_tupK G.K) (pe_dget (hu_of hr) (pe_fld (pv 0) rfl) (pv 3) (fun _ _ => rfl)) pe_int (fun _ _ => rfl)) pe_int (nomark _)) (pss_one (ps_expr (pe_dpop1 (pe_fld (pv 0) rfl) (pv 3) m1))) pss_nil)
      (pss_one (ps_lock (ps_for PassesOwn.never rfl (pi_keys (pe_dget (hu_of hr) (pe_fld (pv 0) rfl) (pv 1) (fun _ _ => rfl))) (pg_name (i := 6) nd rfl (Or.inl rfl)) (pss_one (ps_expr (pe_meth (pv 0) T.cl_Folders T.m_Folders_tally (ok_Folders_tally T) (hr.mono (by decide)) T.b_Folders_tally .nil pass0 (pa_cons (pv 3) (pa_cons (pv 6) (pa_cons (pv 2) pa_nil)))))))))))))), ?_⟩
    unfold m_Folders_shift at hm
    have hS : Sep H (FoldersA a_v_self v_self :: [F] : List (Asn G)) := hS.sel [0, 1] (by decide) rfl
    obtain ⟨dx1, p2, p3, p4, p5, hS⟩ := open_Folders hS
    have hS : Sep H ([cell a_v_self (.ins (G.cl 2) dx1 [("boxes", (.ref p2)), ("tags", (.ref p3)), ("sums", (.ref p4)), ("tallies", (.ref p5))]), dictA p2 (v_self.boxes : (List (Str × Str))), dictE dictA p3 (v_self.tags : (List (Str × (List (Str × Bool))))), dictA p4 (v_self.sums : (List (Str × (Int × Int)))), dictT p5 (v_self.tallies : (List (Kt × Int))), F] : List (Asn G)) := hS
    refine f_seq ?_
    refine c_asg ?_
    obtain ⟨y6, hy6, hm⟩ := wp_dget hm
    obtain ⟨v7, g8, hv9⟩ := dget_some hS (i := 1) rfl hy6
    have hv9 : v7 = (.str (y6)) := hv9
    subst hv9
    refine ev_to (ev_dget (y := y6) hS (i := 1) rfl (ev_fld (ev_var rfl) (hS.getCell (i := 0) rfl) T.cl_Folders T.n_Folders_boxes rfl) (ev_var rfl) g8) ?_
    refine c_set (σ' := [some (.ref a_v_self), some (.str (v_name)), some (.int (v_step)), some (.str (y6)), none, none, none]) rfl ?_
    refine sq_nx ?_
    refine f_seq ?_
    refine c_asg ?_
    refine c_dsetd ?_
    refine ev_to (ev_fld (ev_var rfl) (hS.getCell (i := 0) rfl) T.cl_Folders T.n_Folders_sums rfl) ?_
    refine k_setda (isD_of hS (i := 3) rfl) ?_
    refine ev_to (ev_var rfl) ?_
    refine k_setdb ?_
    refine c_tup ?_
    refine ea_to (ea_cons ev_c (ea_cons ev_c ea_nil)) ?_
    refine k_tupP (x := ((0, 0) : (Int × Int))) hS (fun H' p h s => mk2 rfl rfl h s) (by show 2 ≤ sizeLine; decide) fun p10 H hS => ?_
    obtain ⟨h13, hm⟩ := R.wp_need hm
    refine k_setdA (k := y6) (y := ((0, 0) : (Int × Int))) hS (i := 4) rfl (hS.im (i := 0) rfl) h13 rfl fun v12 H hS => ?_
    obtain ⟨a15, rfl⟩ := isref (hS.im (i := 0) rfl)
    have hS : Sep H ([imA (.ref a15) ((dget v_self.sums y6).getD (0, 0) : (Int × Int)), imA (.ref p10) ((0, 0) : (Int × Int)), cell a_v_self (.ins (G.cl 2) dx1 [("boxes", (.ref p2)), ("tags", (.ref p3)), ("sums", (.ref p4)), ("tallies", (.ref p5))]), dictA p2 (v_self.boxes : (List (Str × Str))), dictE dictA p3 (v_self.tags : (List (Str × (List (Str × Bool))))), dictA p4 (dsetd v_self.sums y6 (0, 0) : (List (Str × (Int × Int)))), dictT p5 (v_self.tallies : (List (Kt × Int))), F] : List (Asn G)) := hS
    refine c_set (σ' := [some (.ref a_v_self), some (.str (v_name)), some (.int (v_step)), some (.str (y6)), some (.ref a15), none, none]) rfl ?_
    refine sq_nx ?_
    refine f_seq ?_
    refine c_asg ?_
    refine c_op ?_
    obtain ⟨u16, u17, hT20, h18, h19⟩ := im2 (hS.im (i := 0) rfl)
    obtain rfl : u16 = (.int (((dget v_self.sums y6).getD (0, 0)).1)) := h18
    obtain rfl : u17 = (.int (((dget v_self.sums y6).getD (0, 0)).2)) := h19
    refine ev_to (ev_ixT (ev_var rfl) ev_c hT20 rfl) ?_
    refine c_op ?_
    refine ev_to (ev_var rfl) ?_
    refine c_cb ?_
    refine c_cons ?_
    refine c_dni ?_
    refine ev_to ev_c ?_
    refine k_dni1 ?_
    refine c_dget ?_
    refine ev_to (ev_fld (ev_var rfl) (hS.getCell (i := 2) rfl) T.cl_Folders T.n_Folders_tags rfl) ?_
    refine k_dget1 ?_
    refine ev_to (ev_var rfl) ?_
    obtain ⟨x21, h22, hm⟩ := wp_dgetX hm
    refine k_dgetE (y := (x21 : (List (Str × Bool)))) (hS.sel [4, 0, 1, 2, 3, 5, 6, 7] (by decide) rfl : Sep _ (dictE dictA p3 (v_self.tags : (List (Str × (List (Str × Bool))))) :: [imA (.ref a15) ((dget v_self.sums y6).getD (0, 0) : (Int × Int)), imA (.ref p10) ((0, 0) : (Int × Int)), cell a_v_self (.ins (G.cl 2) dx1 [("boxes", (.ref p2)), ("tags", (.ref p3)), ("sums", (.ref p4)), ("tallies", (.ref p5))]), dictA p2 (v_self.boxes : (List (Str × Str))), dictA p4 (dsetd v_self.sums y6 (0, 0) : (List (Str × (Int × Int)))), dictT p5 (v_self.tallies : (List (Kt × Int))), F] : List (Asn G))) h22 fun ps23 p24 j25 hl26 hj27 hp28 hS => ?_
    have hS : Sep H ([dictA p24 (x21 : (List (Str × Bool))), dictXH id dictA p3 ps23 (v_self.tags : (List (Str × (List (Str × Bool))))) j25, imA (.ref a15) ((dget v_self.sums y6).getD (0, 0) : (Int × Int)), imA (.ref p10) ((0, 0) : (Int × Int)), cell a_v_self (.ins (G.cl 2) dx1 [("boxes", (.ref p2)), ("tags", (.ref p3)), ("sums", (.ref p4)), ("tallies", (.ref p5))]), dictA p2 (v_self.boxes : (List (Str × Str))), dictA p4 (dsetd v_self.sums y6 (0, 0) : (List (Str × (Int × Int)))), dictT p5 (v_self.tallies : (List (Kt × Int))), F] : List (Asn G)) := hS
    refine k_dniA hS (i := 0) (k := ("seen" : Str)) rfl ?_
    refine c_nil ?_
    refine .inr ⟨_, rfl, ?_⟩
    obtain ⟨h29, hm⟩ := R.wp_need hm
    refine r_mul h29 ?_
    refine r_I0 _ ?_
    obtain ⟨y30, hy30, hm⟩ := wp_let hm
    refine n_is (w := (.int (y30))) (by first | rw [hy30] | (subst hy30; rfl)) ?_
    refine c_set (σ' := [some (.ref a_v_self), some (.str (v_name)), some (.int (v_step)), some (.str (y6)), some (.ref a15), some (.int (y30)), none]) rfl ?_
    have hS : Sep H ([dictE dictA p3 (v_self.tags : (List (Str × (List (Str × Bool))))), imA (.ref a15) ((dget v_self.sums y6).getD (0, 0) : (Int × Int)), imA (.ref p10) ((0, 0) : (Int × Int)), cell a_v_self (.ins (G.cl 2) dx1 [("boxes", (.ref p2)), ("tags", (.ref p3)), ("sums", (.ref p4)), ("tallies", (.ref p5))]), dictA p2 (v_self.boxes : (List (Str × Str))), dictA p4 (dsetd v_self.sums y6 (0, 0) : (List (Str × (Int × Int)))), dictT p5 (v_self.tallies : (List (Kt × Int))), F] : List (Asn G)) := unfocDE0 hl26 hj27 hp28 (hS.sel [0, 1, 2, 3, 4, 5, 6, 7, 8] (by decide) rfl)
    refine sq_nx ?_
    refine f_seq ?_
    refine c_asgS ?_
    refine c_tup ?_
    obtain ⟨u31, u32, hT35, h33, h34⟩ := im2 (hS.im (i := 1) rfl)
    obtain rfl : u31 = (.int (((dget v_self.sums y6).getD (0, 0)).1)) := h33
    obtain rfl : u32 = (.int (((dget v_self.sums y6).getD (0, 0)).2)) := h34
    refine ea_to (ea_cons (ev_add (ev_ixT (ev_var rfl) ev_c hT35 rfl) (ev_var rfl)) (ea_cons (ev_var rfl) ea_nil)) ?_
    refine k_tupP (x := (((((dget v_self.sums y6).getD (0, 0)).1) + v_step, y30) : (Int × Int))) hS (fun H' p h s => mk2 rfl rfl h s) (by show 2 ≤ sizeLine; decide) fun p36 H hS => ?_
    refine ev_to (ev_fld (ev_var rfl) (hS.getCell (i := 4) rfl) T.cl_Folders T.n_Folders_sums rfl) ?_
    refine ev_to (ev_var rfl) ?_
    obtain ⟨h38, hm⟩ := R.wp_need hm
    refine k_setD (k := y6) (y := ((((dget v_self.sums y6).getD (0, 0)).1) + v_step, y30)) hS (i := 6) rfl (hS.im (i := 0) rfl) h38 rfl fun H hS => ?_
    have hS : Sep H ([imA (.ref p36) (((((dget v_self.sums y6).getD (0, 0)).1) + v_step, y30) : (Int × Int)), dictE dictA p3 (v_self.tags : (List (Str × (List (Str × Bool))))), imA (.ref a15) ((dget v_self.sums y6).getD (0, 0) : (Int × Int)), imA (.ref p10) ((0, 0) : (Int × Int)), cell a_v_self (.ins (G.cl 2) dx1 [("boxes", (.ref p2)), ("tags", (.ref p3)), ("sums", (.ref p4)), ("tallies", (.ref p5))]), dictA p2 (v_self.boxes : (List (Str × Str))), dictA p4 (dput (dsetd v_self.sums y6 (0, 0)) y6 ((((dget v_self.sums y6).getD (0, 0)).1) + v_step, y30) : (List (Str × (Int × Int)))), dictT p5 (v_self.tallies : (List (Kt × Int))), F] : List (Asn G)) := hS
    refine sq_nx ?_
    refine f_seq ?_
    refine f_if ?_
    obtain ⟨y39, hy39, hm⟩ := wp_dget hm
    obtain ⟨v40, g41, hv42⟩ := dget_some hS (i := 6) rfl hy39
    obtain ⟨a43, rfl⟩ := isref hv42
    obtain ⟨u44, u45, hT48, h46, h47⟩ := im2 hv42
    obtain rfl : u44 = (.int (y39.1)) := h46
    obtain rfl : u45 = (.int (y39.2)) := h47
    refine et_to (et_test (ev_eqI (ev_ixT (ev_dget (y := y39) hS (i := 6) rfl (ev_fld (ev_var rfl) (hS.getCell (i := 4) rfl) T.cl_Folders T.n_Folders_sums rfl) (ev_var rfl) g41) ev_c hT48 rfl) ev_c)) ?_
    refine ifK_J (τ := (List (Str × (Int × Int)))) (fun (s49 : (List (Str × (Int × Int)))) (σ : L2.St) (H : Hp) => σ = [some (.ref a_v_self), some (.str (v_name)), some (.int (v_step)), some (.str (y6)), some (.ref a15), some (.int (y30)), none] ∧ Sep H ([imA (.ref p36) (((((dget v_self.sums y6).getD (0, 0)).1) + v_step, y30) : (Int × Int)), dictE dictA p3 (v_self.tags : (List (Str × (List (Str × Bool))))), imA (.ref a15) ((dget v_self.sums y6).getD (0, 0) : (Int × Int)), imA (.ref p10) ((0, 0) : (Int × Int)), cell a_v_self (.ins (G.cl 2) dx1 [("boxes", (.ref p2)), ("tags", (.ref p3)), ("sums", (.ref p4)), ("tallies", (.ref p5))]), dictA p2 (v_self.boxes : (List (Str × Str))), dictA p4 (s49 : (List (Str × (Int × Int)))), dictT p5 (v_self.tallies : (List (Kt × Int))), F] : List (Asn G))) hm (fun hb q hm nx => ?_) (fun hb q hm nx => ?_) (fun s49 σ H hm hI => ?_)
    ·
      refine c_drop ?_
      refine c_dpop1 ?_
      refine ev_to (ev_fld (ev_var rfl) (hS.getCell (i := 4) rfl) T.cl_Folders T.n_Folders_sums rfl) ?_
      refine k_pop1a (isD_of hS (i := 6) rfl) ?_
      refine ev_to (ev_var rfl) ?_
      obtain ⟨y50, hy50, hm⟩ := wp_dgetX hm
      refine k_pop1A (k := y6) hS (i := 6) rfl hy50 rfl fun v51 H hS => ?_
      obtain ⟨a53, rfl⟩ := isref (hS.im (i := 0) rfl)
      have hS : Sep H ([imA (.ref a53) (y50 : (Int × Int)), imA (.ref p36) (((((dget v_self.sums y6).getD (0, 0)).1) + v_step, y30) : (Int × Int)), dictE dictA p3 (v_self.tags : (List (Str × (List (Str × Bool))))), imA (.ref a15) ((dget v_self.sums y6).getD (0, 0) : (Int × Int)), imA (.ref p10) ((0, 0) : (Int × Int)), cell a_v_self (.ins (G.cl 2) dx1 [("boxes", (.ref p2)), ("tags", (.ref p3)), ("sums", (.ref p4)), ("tallies", (.ref p5))]), dictA p2 (v_self.boxes : (List (Str × Str))), dictA p4 (ddrop (dput (dsetd v_self.sums y6 (0, 0)) y6 ((((dget v_self.sums y6).getD (0, 0)).1) + v_step, y30)) y6 : (List (Str × (Int × Int)))), dictT p5 (v_self.tallies : (List (Kt × Int))), F] : List (Asn G)) := hS
      exact nx _ _ _ hm ⟨rfl, hS.sel [1, 2, 3, 4, 5, 6, 7, 8, 9] (by decide) rfl⟩
    ·
      refine st_nx ?_
      exact nx _ _ _ hm ⟨rfl, hS.sel [0, 1, 2, 3, 4, 5, 6, 7, 8] (by decide) rfl⟩
    · obtain ⟨rfl, hS⟩ := hI
      refine sq_nx ?_
      obtain ⟨x54, h55, hm⟩ := wp_dgetX hm
      obtain ⟨ps56, p57, j58, hl59, hj60, hp61, hS⟩ := prefocD (y := (x54 : (List (Str × Bool)))) (hS.sel [1, 0, 2, 3, 4, 5, 6, 7, 8] (by decide) rfl : Sep _ (dictE dictA p3 (v_self.tags : (List (Str × (List (Str × Bool))))) :: [imA (.ref p36) (((((dget v_self.sums y6).getD (0, 0)).1) + v_step, y30) : (Int × Int)), imA (.ref a15) ((dget v_self.sums y6).getD (0, 0) : (Int × Int)), imA (.ref p10) ((0, 0) : (Int × Int)), cell a_v_self (.ins (G.cl 2) dx1 [("boxes", (.ref p2)), ("tags", (.ref p3)), ("sums", (.ref p4)), ("tallies", (.ref p5))]), dictA p2 (v_self.boxes : (List (Str × Str))), dictA p4 (s49 : (List (Str × (Int × Int)))), dictT p5 (v_self.tallies : (List (Kt × Int))), F] : List (Asn G))) h55
      have hS : Sep H ([dictA p57 (x54 : (List (Str × Bool))), dictXH id dictA p3 ps56 (v_self.tags : (List (Str × (List (Str × Bool))))) j58, imA (.ref p36) (((((dget v_self.sums y6).getD (0, 0)).1) + v_step, y30) : (Int × Int)), imA (.ref a15) ((dget v_self.sums y6).getD (0, 0) : (Int × Int)), imA (.ref p10) ((0, 0) : (Int × Int)), cell a_v_self (.ins (G.cl 2) dx1 [("boxes", (.ref p2)), ("tags", (.ref p3)), ("sums", (.ref p4)), ("tallies", (.ref p5))]), dictA p2 (v_self.boxes : (List (Str × Str))), dictA p4 (s49 : (List (Str × (Int × Int)))), dictT p5 (v_self.tallies : (List (Kt × Int))), F] : List (Asn G)) := hS
      refine k_lockSA hS (i := 0) rfl fun od62 ps63 H hS => ?_
      have hS : Sep H ([lockA p57 od62 ps63 (x54 : (List (Str × Bool))), dictXH id dictA p3 ps56 (v_self.tags : (List (Str × (List (Str × Bool))))) j58, imA (.ref p36) (((((dget v_self.sums y6).getD (0, 0)).1) + v_step, y30) : (Int × Int)), imA (.ref a15) ((dget v_self.sums y6).getD (0, 0) : (Int × Int)), imA (.ref p10) ((0, 0) : (Int × Int)), cell a_v_self (.ins (G.cl 2) dx1 [("boxes", (.ref p2)), ("tags", (.ref p3)), ("sums", (.ref p4)), ("tallies", (.ref p5))]), dictA p2 (v_self.boxes : (List (Str × Str))), dictA p4 (s49 : (List (Str × (Int × Int)))), dictT p5 (v_self.tallies : (List (Kt × Int))), F] : List (Asn G)) := hS
      refine c_for ?_
      refine c_keys ?_
      refine ev_to (ev_dgetV (ev_fld (ev_var rfl) (hS.getCell (i := 5) rfl) T.cl_Folders T.n_Folders_tags rfl) (ev_var rfl) (hole_get (k := v_name) hS (i := 1) rfl hl59 hj60 hp61)) ?_
      refine k_keysA (hS.lockA (i := 0) rfl).1 ?_
      refine k_for (τ := (List (Kt × Int))) (fun (s64 : (List (Kt × Int))) (σ : L2.St) (H : Hp) => ∃ (w67 : Option V), σ = [some (.ref a_v_self), some (.str (v_name)), some (.int (v_step)), some (.str (y6)), some (.ref a15), some (.int (y30)), w67] ∧ Sep H ([lockA p57 od62 ps63 (x54 : (List (Str × Bool))), dictXH id dictA p3 ps56 (v_self.tags : (List (Str × (List (Str × Bool))))) j58, imA (.ref p36) (((((dget v_self.sums y6).getD (0, 0)).1) + v_step, y30) : (Int × Int)), imA (.ref a15) ((dget v_self.sums y6).getD (0, 0) : (Int × Int)), imA (.ref p10) ((0, 0) : (Int × Int)), cell a_v_self (.ins (G.cl 2) dx1 [("boxes", (.ref p2)), ("tags", (.ref p3)), ("sums", (.ref p4)), ("tallies", (.ref p5))]), dictA p2 (v_self.boxes : (List (Str × Str))), dictA p4 (s49 : (List (Str × (Int × Int)))), dictT p5 (s64 : (List (Kt × Int))), F] : List (Asn G))) (im := (fun _ v (x : Str) => v = .str x)) (s := (v_self.tallies)) (fun _ => wk_keysA fun _ _ ⟨_, _, h⟩ => h.lockA (i := 0) rfl) ⟨_, rfl, hS.sel [0, 1, 2, 3, 4, 5, 6, 7, 8, 9] (by decide) rfl⟩ hm (fun s64 x65 v66 σ H q N hI hx hm nx => ?_) (fun s64 σ H hm hI => ?_)
      ·
        obtain ⟨w67, rfl, hS⟩ := hI
        cases hx
        refine c_gN (σ' := [some (.ref a_v_self), some (.str (v_name)), some (.int (v_step)), some (.str (y6)), some (.ref a15), some (.int (y30)), some (.str (x65))]) rfl ?_
        refine c_drop ?_
        refine c_meth ?_
        refine ev_to (ev_var rfl) ?_
        refine ⟨_, _, _, rfl, (hS.getCell (i := 5) rfl), rfl, ?_⟩
        refine ea_to (ea_cons (ev_var rfl) (ea_cons (ev_var rfl) (ea_cons (ev_var rfl) ea_nil))) ?_
        refine ⟨a_v_self, dx1, (.ref p2), (.ref p3), (.ref p4), p5, (s64 : (List (Kt × Int))), y6, x65, v_step, star [lockA p57 od62 ps63 (x54 : (List (Str × Bool))), dictXH id dictA p3 ps56 (v_self.tags : (List (Str × (List (Str × Bool))))) j58, imA (.ref p36) (((((dget v_self.sums y6).getD (0, 0)).1) + v_step, y30) : (Int × Int)), imA (.ref a15) ((dget v_self.sums y6).getD (0, 0) : (Int × Int)), imA (.ref p10) ((0, 0) : (Int × Int)), dictA p2 (v_self.boxes : (List (Str × Str))), dictA p4 (s49 : (List (Str × (Int × Int)))), F], rfl, Sep.unstar (M := [cell a_v_self (.ins (G.cl 2) dx1 [("boxes", (.ref p2)), ("tags", (.ref p3)), ("sums", (.ref p4)), ("tallies", (.ref p5))]), dictT p5 (s64 : (List (Kt × Int)))]) (hS.sel [5, 8, 0, 1, 2, 3, 4, 6, 7, 9] (by decide) rfl : Sep H (([cell a_v_self (.ins (G.cl 2) dx1 [("boxes", (.ref p2)), ("tags", (.ref p3)), ("sums", (.ref p4)), ("tallies", (.ref p5))]), dictT p5 (s64 : (List (Kt × Int)))] ++ [lockA p57 od62 ps63 (x54 : (List (Str × Bool))), dictXH id dictA p3 ps56 (v_self.tags : (List (Str × (List (Str × Bool))))) j58, imA (.ref p36) (((((dget v_self.sums y6).getD (0, 0)).1) + v_step, y30) : (Int × Int)), imA (.ref a15) ((dget v_self.sums y6).getD (0, 0) : (Int × Int)), imA (.ref p10) ((0, 0) : (Int × Int)), dictA p2 (v_self.boxes : (List (Str × Str))), dictA p4 (s49 : (List (Str × (Int × Int)))), F] : List (Asn G)))), R.wp_mono (R.wp_bind hm) (fun r68 hm H hS => ?_) (fun _ z => z)⟩
        have hS : Sep H ([cell a_v_self (.ins (G.cl 2) dx1 [("boxes", (.ref p2)), ("tags", (.ref p3)), ("sums", (.ref p4)), ("tallies", (.ref p5))]), dictT p5 (r68 : (List (Kt × Int))), lockA p57 od62 ps63 (x54 : (List (Str × Bool))), dictXH id dictA p3 ps56 (v_self.tags : (List (Str × (List (Str × Bool))))) j58, imA (.ref p36) (((((dget v_self.sums y6).getD (0, 0)).1) + v_step, y30) : (Int × Int)), imA (.ref a15) ((dget v_self.sums y6).getD (0, 0) : (Int × Int)), imA (.ref p10) ((0, 0) : (Int × Int)), dictA p2 (v_self.boxes : (List (Str × Str))), dictA p4 (s49 : (List (Str × (Int × Int)))), F] : List (Asn G)) := Sep.star (M := [cell a_v_self (.ins (G.cl 2) dx1 [("boxes", (.ref p2)), ("tags", (.ref p3)), ("sums", (.ref p4)), ("tallies", (.ref p5))]), dictT p5 (r68 : (List (Kt × Int)))]) hS
        exact nx _ _ _ hm ⟨_, rfl, hS.sel [2, 3, 4, 5, 6, 0, 7, 8, 1, 9] (by decide) rfl⟩
      · obtain ⟨w67, rfl, hS⟩ := hI
        refine k_unlSA hS (i := 0) rfl fun H hS => ?_
        have hS : Sep H ([dictA p57 (x54 : (List (Str × Bool))), dictXH id dictA p3 ps56 (v_self.tags : (List (Str × (List (Str × Bool))))) j58, imA (.ref p36) (((((dget v_self.sums y6).getD (0, 0)).1) + v_step, y30) : (Int × Int)), imA (.ref a15) ((dget v_self.sums y6).getD (0, 0) : (Int × Int)), imA (.ref p10) ((0, 0) : (Int × Int)), cell a_v_self (.ins (G.cl 2) dx1 [("boxes", (.ref p2)), ("tags", (.ref p3)), ("sums", (.ref p4)), ("tallies", (.ref p5))]), dictA p2 (v_self.boxes : (List (Str × Str))), dictA p4 (s49 : (List (Str × (Int × Int)))), dictT p5 (s64 : (List (Kt × Int))), F] : List (Asn G)) := hS
        have hS : Sep H ([dictE dictA p3 (v_self.tags : (List (Str × (List (Str × Bool))))), imA (.ref p36) (((((dget v_self.sums y6).getD (0, 0)).1) + v_step, y30) : (Int × Int)), imA (.ref a15) ((dget v_self.sums y6).getD (0, 0) : (Int × Int)), imA (.ref p10) ((0, 0) : (Int × Int)), cell a_v_self (.ins (G.cl 2) dx1 [("boxes", (.ref p2)), ("tags", (.ref p3)), ("sums", (.ref p4)), ("tallies", (.ref p5))]), dictA p2 (v_self.boxes : (List (Str × Str))), dictA p4 (s49 : (List (Str × (Int × Int)))), dictT p5 (s64 : (List (Kt × Int))), F] : List (Asn G)) := unfocDE0 hl59 hj60 hp61 (hS.sel [0, 1, 2, 3, 4, 5, 6, 7, 8, 9] (by decide) rfl)
        have hS : Sep H (FoldersA a_v_self (⟨v_self.boxes, v_self.tags, s49, s64⟩ : Folders) :: [imA (.ref p36) (((((dget v_self.sums y6).getD (0, 0)).1) + v_step, y30) : (Int × Int)), imA (.ref a15) ((dget v_self.sums y6).getD (0, 0) : (Int × Int)), imA (.ref p10) ((0, 0) : (Int × Int)), F] : List (Asn G)) := pack_Folders (hS.sel [4, 5, 0, 6, 7, 1, 2, 3, 8] (by decide) rfl)
        exact hm _ (hS.sel [0, 4] (by decide) rfl)
def sp_Folders_add (G : Gx) : Sp := fun vs H Q E => ∃ (a_v_self : Addr) (v_self : Folders) (v_name : Str) (v_folder : Str) (a_v_marks : Addr) (v_marks : (List Str)) (F : Asn G), vs = [.ref a_v_self, (.str (v_name)), (.str (v_folder)), (.ref a_v_marks)] ∧ Im.im G H (.ref a_v_marks) v_marks ∧ Sep H ([FoldersA a_v_self v_self, F] : List (Asn G)) ∧ R.wp (m_Folders_add v_self v_name v_folder v_marks) (fun r => ∀ H', Sep H' ([FoldersA a_v_self r, F] : List (Asn G)) → Q .non H') (fun x => ∀ H', Sep H' ([FoldersA a_v_self v_self, F] : List (Asn G)) → Eok G x E H')
abbrev N_Folders_add : List Str := ["self", "name", "folder", "marks", "word"]
theorem sc_Folders_add : FnScope N_Folders_add ["self", "name", "folder", "marks"] (defScope s_Folders_add) := ⟨rfl, rfl, rfl, by decide +kernel, rfl, by decide +kernel, by decide +kernel⟩
theorem ok_Folders_add (T : Txt G mg) : FnOk P w G.K mg base (L2.CX P w) 3 T.a_Folders_add T.fd_Folders_add ["self", "name", "folder", "marks"] (sp_Folders_add G) := by
  have nd := sc_Folders_add.nd
  refine FunD.ok T.F_Folders_add sc_Folders_add (fun vs H Q E h => ?_) (fun cdv A outer s H vs Q E hr h => ?_)
  · obtain ⟨a_v_self, v_self, v_name, v_folder, a_v_marks, v_marks, F, rfl, _⟩ := h; rfl
  · obtain ⟨a_v_self, v_self, v_name, v_folder, a_v_marks, v_marks, F, rfl, him_v_marks, hS, hm⟩ := h
    have hS := hS.addIm him_v_marks
    refine ⟨_, (pss_cons (ps_if (pt_cmp (pc_din (hu_of hr) (pv 1) (pe_fld (pv 0) rfl))) (pss_one (ps_raise rfl (takes_of rfl rfl rfl rfl) (pmk_own PySem.F.excBase_ValueError T.x_NoName T.g_NoName T.kp_NoName (T.r_NoName rfl) rfl))) pss_nil)
      (pss_cons (ps_asg (pv 2) (pg_sub (pe_fld (pv 0) rfl) (pv 1) (set_dict (hu_of hr))))
      (pss_cons (ps_asg pe_dnewK (pg_sub (pe_fld (pv 0) rfl) (pv 1) (set_dict (hu_of hr))))
      (pss_cons (ps_if (pt_cmp (pc_notN (pv 3))) (pss_one (ps_for (passes_of rfl) rfl (pi_listK G.K (pv 3)) (pg_name (i := 4) nd rfl (Or.inl rfl)) (pss_one (ps_asg pe_bl (pg_sub (pe_dget (hu_of hr) (pe_fld (pv 0) rfl) (pv 1) (fun _ _ => rfl)) (pv 4) (set_dict (hu_of hr))))))) pss_nil)
      (pss_one (ps_expr (pe_meth (pv 0) T.cl_Folders T.m_Folders_shift (ok_Folders_shift T) (hr.mono (by decide)) T.b_Folders_shift .nil pass0 (pa_cons (pv 1) (pa_cons pe_int pa_nil))))))))), ?_⟩
    unfold m_Folders_add at hm
    have hS : Sep H (FoldersA a_v_self v_self :: [imA (.ref a_v_marks) (v_marks : (List Str)), F] : List (Asn G)) := hS.sel [1, 0, 2] (by decide) rfl
    obtain ⟨dx1, p2, p3, p4, p5, hS⟩ := open_Folders hS
    have hS : Sep H ([cell a_v_self (.ins (G.cl 2) dx1 [("boxes", (.ref p2)), ("tags", (.ref p3)), ("sums", (.ref p4)), ("tallies", (.ref p5))]), dictA p2 (v_self.boxes : (List (Str × Str))), dictE dictA p3 (v_self.tags : (List (Str × (List (Str × Bool))))), dictA p4 (v_self.sums : (List (Str × (Int × Int)))), dictT p5 (v_self.tallies : (List (Kt × Int))), imA (.ref a_v_marks) (v_marks : (List Str)), F] : List (Asn G)) := hS
    refine f_seq ?_
    refine f_if ?_
    refine et_to (et_B (ev_din hS (i := 1) (k := v_name) rfl (ev_var rfl) (ev_fld (ev_var rfl) (hS.getCell (i := 0) rfl) T.cl_Folders T.n_Folders_boxes rfl))) ?_
    refine ifK_2 (fun hb6 => ?_) (fun hb6 => ?_)
    · have hm := R.wp_ifY hm hb6
      have hS : Sep H (FoldersA a_v_self v_self :: [imA (.ref a_v_marks) (v_marks : (List Str)), F] : List (Asn G)) := pack_Folders (hS.sel [0, 1, 2, 3, 4, 5, 6] (by decide) rfl)
      exact hm _ (hS.sel [0, 2] (by decide) rfl)
    · have hm := R.wp_ifN hm (by first | (rw [hb6]; decide) | simpa using hb6)
      refine st_nx ?_
      refine sq_nx ?_
      refine f_seq ?_
      refine c_asgS ?_
      refine ev_to (ev_var rfl) ?_
      refine ev_to (ev_fld (ev_var rfl) (hS.getCell (i := 0) rfl) T.cl_Folders T.n_Folders_boxes rfl) ?_
      refine ev_to (ev_var rfl) ?_
      obtain ⟨h7, hm⟩ := R.wp_need hm
      refine k_setD (k := v_name) (y := v_folder) hS (i := 1) rfl rfl h7 rfl fun H hS => ?_
      have hS : Sep H ([cell a_v_self (.ins (G.cl 2) dx1 [("boxes", (.ref p2)), ("tags", (.ref p3)), ("sums", (.ref p4)), ("tallies", (.ref p5))]), dictA p2 (dput v_self.boxes v_name v_folder : (List (Str × Str))), dictE dictA p3 (v_self.tags : (List (Str × (List (Str × Bool))))), dictA p4 (v_self.sums : (List (Str × (Int × Int)))), dictT p5 (v_self.tallies : (List (Kt × Int))), imA (.ref a_v_marks) (v_marks : (List Str)), F] : List (Asn G)) := hS
      refine sq_nx ?_
      refine f_seq ?_
      refine c_asgS ?_
      refine k_dnew (κ := Str) (β := Bool) hS fun p8 H hS => ?_
      refine ev_to (ev_fld (ev_var rfl) (hS.getCell (i := 1) rfl) T.cl_Folders T.n_Folders_tags rfl) ?_
      refine ev_to (ev_var rfl) ?_
      obtain ⟨h9, hm⟩ := R.wp_need hm
      obtain ⟨h10, hm⟩ := R.wp_need hm
      refine k_newE' (k := v_name) (hS.sel [3, 0, 1, 2, 4, 5, 6, 7] (by decide) rfl : Sep H (dictE dictA p3 (v_self.tags : (List (Str × (List (Str × Bool))))) :: dictA p8 (([] : (List (Str × Bool))) : (List (Str × Bool))) :: [cell a_v_self (.ins (G.cl 2) dx1 [("boxes", (.ref p2)), ("tags", (.ref p3)), ("sums", (.ref p4)), ("tallies", (.ref p5))]), dictA p2 (dput v_self.boxes v_name v_folder : (List (Str × Str))), dictA p4 (v_self.sums : (List (Str × (Int × Int)))), dictT p5 (v_self.tallies : (List (Kt × Int))), imA (.ref a_v_marks) (v_marks : (List Str)), F] : List (Asn G))) h10 h9 fun H hS => ?_
      have hS : Sep H ([dictE dictA p3 (v_self.tags ++ [(v_name, ([] : (List (Str × Bool))))] : (List (Str × (List (Str × Bool))))), cell a_v_self (.ins (G.cl 2) dx1 [("boxes", (.ref p2)), ("tags", (.ref p3)), ("sums", (.ref p4)), ("tallies", (.ref p5))]), dictA p2 (dput v_self.boxes v_name v_folder : (List (Str × Str))), dictA p4 (v_self.sums : (List (Str × (Int × Int)))), dictT p5 (v_self.tallies : (List (Kt × Int))), imA (.ref a_v_marks) (v_marks : (List Str)), F] : List (Asn G)) := hS
      refine sq_nx ?_
      refine f_seq ?_
      refine f_if ?_
      refine et_to (et_B (ev_notNr (ev_var rfl))) ?_
      refine ifK_t ?_
      refine c_for ?_
      refine c_il ?_
      refine ev_to (ev_var rfl) ?_
      refine k_ilG (imPl (hS.im (i := 5) rfl)) ?_
      refine k_for (τ := (List (Str × (List (Str × Bool))))) (fun (s11 : (List (Str × (List (Str × Bool))))) (σ : L2.St) (H : Hp) => ∃ (w14 : Option V), σ = [some (.ref a_v_self), some (.str (v_name)), some (.str (v_folder)), some (.ref a_v_marks), w14] ∧ Sep H ([dictE dictA p3 (s11 : (List (Str × (List (Str × Bool))))), cell a_v_self (.ins (G.cl 2) dx1 [("boxes", (.ref p2)), ("tags", (.ref p3)), ("sums", (.ref p4)), ("tallies", (.ref p5))]), dictA p2 (dput v_self.boxes v_name v_folder : (List (Str × Str))), dictA p4 (v_self.sums : (List (Str × (Int × Int)))), dictT p5 (v_self.tallies : (List (Kt × Int))), imA (.ref a_v_marks) (v_marks : (List Str)), F] : List (Asn G))) (im := (Im.im G)) (s := (v_self.tags ++ [(v_name, ([] : (List (Str × Bool))))])) (fun _ => wk_list fun _ _ ⟨_, _, h⟩ => imPl (h.im (i := 5) rfl)) ⟨_, rfl, hS.sel [0, 1, 2, 3, 4, 5, 6] (by decide) rfl⟩ hm (fun s11 x12 v13 σ H q N hI hx hm nx => ?_) (fun s11 σ H hm hI => ?_)
      ·
        obtain ⟨w14, rfl, hS⟩ := hI
        cases hx
        refine c_gN (σ' := [some (.ref a_v_self), some (.str (v_name)), some (.str (v_folder)), some (.ref a_v_marks), some (.str (x12))]) rfl ?_
        refine c_asgS ?_
        refine ev_to ev_c ?_
        refine c_dget ?_
        refine ev_to (ev_fld (ev_var rfl) (hS.getCell (i := 1) rfl) T.cl_Folders T.n_Folders_tags rfl) ?_
        refine k_dget1 ?_
        refine ev_to (ev_var rfl) ?_
        obtain ⟨x15, h16, hm⟩ := wp_dgetX hm
        refine k_dgetE (y := (x15 : (List (Str × Bool)))) (hS.sel [0, 1, 2, 3, 4, 5, 6] (by decide) rfl : Sep _ (dictE dictA p3 (s11 : (List (Str × (List (Str × Bool))))) :: [cell a_v_self (.ins (G.cl 2) dx1 [("boxes", (.ref p2)), ("tags", (.ref p3)), ("sums", (.ref p4)), ("tallies", (.ref p5))]), dictA p2 (dput v_self.boxes v_name v_folder : (List (Str × Str))), dictA p4 (v_self.sums : (List (Str × (Int × Int)))), dictT p5 (v_self.tallies : (List (Kt × Int))), imA (.ref a_v_marks) (v_marks : (List Str)), F] : List (Asn G))) h16 fun ps17 p18 j19 hl20 hj21 hp22 hS => ?_
        have hS : Sep H ([dictA p18 (x15 : (List (Str × Bool))), dictXH id dictA p3 ps17 (s11 : (List (Str × (List (Str × Bool))))) j19, cell a_v_self (.ins (G.cl 2) dx1 [("boxes", (.ref p2)), ("tags", (.ref p3)), ("sums", (.ref p4)), ("tallies", (.ref p5))]), dictA p2 (dput v_self.boxes v_name v_folder : (List (Str × Str))), dictA p4 (v_self.sums : (List (Str × (Int × Int)))), dictT p5 (v_self.tallies : (List (Kt × Int))), imA (.ref a_v_marks) (v_marks : (List Str)), F] : List (Asn G)) := hS
        refine ev_to (ev_var rfl) ?_
        obtain ⟨h23, hm⟩ := R.wp_need hm
        refine k_setD (k := x12) (y := true) hS (i := 0) rfl rfl h23 rfl fun H hS => ?_
        have hS : Sep H ([dictA p18 (dput x15 x12 true : (List (Str × Bool))), dictXH id dictA p3 ps17 (s11 : (List (Str × (List (Str × Bool))))) j19, cell a_v_self (.ins (G.cl 2) dx1 [("boxes", (.ref p2)), ("tags", (.ref p3)), ("sums", (.ref p4)), ("tallies", (.ref p5))]), dictA p2 (dput v_self.boxes v_name v_folder : (List (Str × Str))), dictA p4 (v_self.sums : (List (Str × (Int × Int)))), dictT p5 (v_self.tallies : (List (Kt × Int))), imA (.ref a_v_marks) (v_marks : (List Str)), F] : List (Asn G)) := hS
        have hS : Sep H ([dictE dictA p3 (dput s11 v_name (dput x15 x12 true) : (List (Str × (List (Str × Bool))))), cell a_v_self (.ins (G.cl 2) dx1 [("boxes", (.ref p2)), ("tags", (.ref p3)), ("sums", (.ref p4)), ("tallies", (.ref p5))]), dictA p2 (dput v_self.boxes v_name v_folder : (List (Str × Str))), dictA p4 (v_self.sums : (List (Str × (Int × Int)))), dictT p5 (v_self.tallies : (List (Kt × Int))), imA (.ref a_v_marks) (v_marks : (List Str)), F] : List (Asn G)) := unfocDE (z := (dput x15 x12 true : (List (Str × Bool)))) hl20 hj21 hp22 (hS.sel [0, 1, 2, 3, 4, 5, 6, 7] (by decide) rfl)
        exact nx _ _ _ hm ⟨_, rfl, hS.sel [0, 1, 2, 3, 4, 5, 6] (by decide) rfl⟩
      · obtain ⟨w14, rfl, hS⟩ := hI
        refine sq_nx ?_
        refine c_drop ?_
        refine c_meth ?_
        refine ev_to (ev_var rfl) ?_
        refine ⟨_, _, _, rfl, (hS.getCell (i := 1) rfl), rfl, ?_⟩
        refine ea_to (ea_cons (ev_var rfl) (ea_cons ev_c ea_nil)) ?_
        have hS : Sep H (FoldersA a_v_self (⟨dput v_self.boxes v_name v_folder, s11, v_self.sums, v_self.tallies⟩ : Folders) :: [imA (.ref a_v_marks) (v_marks : (List Str)), F] : List (Asn G)) := pack_Folders (hS.sel [1, 2, 0, 3, 4, 5, 6] (by decide) rfl)
        refine ⟨a_v_self, ((⟨dput v_self.boxes v_name v_folder, s11, v_self.sums, v_self.tallies⟩ : Folders) : Folders), v_name, 1, star [imA (.ref a_v_marks) (v_marks : (List Str)), F], rfl, Sep.unstar (M := [FoldersA a_v_self (⟨dput v_self.boxes v_name v_folder, s11, v_self.sums, v_self.tallies⟩ : Folders)]) (hS.sel [0, 1, 2] (by decide) rfl : Sep H (([FoldersA a_v_self (⟨dput v_self.boxes v_name v_folder, s11, v_self.sums, v_self.tallies⟩ : Folders)] ++ [imA (.ref a_v_marks) (v_marks : (List Str)), F] : List (Asn G)))), R.wp_mono (R.wp_noexc hm) (fun r24 hm H hS => ?_) (fun _ z => z)⟩
        have hS : Sep H ([FoldersA a_v_self r24, imA (.ref a_v_marks) (v_marks : (List Str)), F] : List (Asn G)) := Sep.star (M := [FoldersA a_v_self r24]) hS
        have hS : Sep H (FoldersA a_v_self r24 :: [imA (.ref a_v_marks) (v_marks : (List Str)), F] : List (Asn G)) := hS.sel [0, 1, 2] (by decide) rfl
        obtain ⟨dx25, p26, p27, p28, p29, hS⟩ := open_Folders hS
        have hS : Sep H ([cell a_v_self (.ins (G.cl 2) dx25 [("boxes", (.ref p26)), ("tags", (.ref p27)), ("sums", (.ref p28)), ("tallies", (.ref p29))]), dictA p26 (r24.boxes : (List (Str × Str))), dictE dictA p27 (r24.tags : (List (Str × (List (Str × Bool))))), dictA p28 (r24.sums : (List (Str × (Int × Int)))), dictT p29 (r24.tallies : (List (Kt × Int))), imA (.ref a_v_marks) (v_marks : (List Str)), F] : List (Asn G)) := hS
        have hS : Sep H (FoldersA a_v_self r24 :: [imA (.ref a_v_marks) (v_marks : (List Str)), F] : List (Asn G)) := pack_Folders (hS.sel [0, 1, 2, 3, 4, 5, 6] (by decide) rfl)
        exact hm _ (hS.sel [0, 2] (by decide) rfl)
def sp_Folders_add_L (G : Gx) : Sp := fun vs H Q E => ∃ (a_v_self : Addr) (v_self : Folders) (v_name : Str) (v_folder : Str) (a_v_marks : Addr) (v_marks : (List Str)) (F : Asn G), vs = [.ref a_v_self, (.str (v_name)), (.str (v_folder)), .ref a_v_marks] ∧ Sep H ([FoldersA a_v_self v_self, lstA a_v_marks (v_marks : (List Str)), F] : List (Asn G)) ∧ R.wp (m_Folders_add_L v_self v_name v_folder v_marks) (fun r => ∀ H', Sep H' ([FoldersA a_v_self r, lstA a_v_marks (v_marks : (List Str)), F] : List (Asn G)) → Q .non H') (fun x => ∀ H', Sep H' ([FoldersA a_v_self v_self, lstA a_v_marks (v_marks : (List Str)), F] : List (Asn G)) → Eok G x E H')
abbrev N_Folders_add_L : List Str := ["self", "name", "folder", "marks", "word"]
theorem sc_Folders_add_L : FnScope N_Folders_add_L ["self", "name", "folder", "marks"] (defScope s_Folders_add) := ⟨rfl, rfl, rfl, by decide +kernel, rfl, by decide +kernel, by decide +kernel⟩
theorem ok_Folders_add_L (T : Txt G mg) : FnOk P w G.K mg base (L2.CX P w) 3 T.a_Folders_add T.fd_Folders_add ["self", "name", "folder", "marks"] (sp_Folders_add_L G) := by
  have nd := sc_Folders_add_L.nd
  refine FunD.ok T.F_Folders_add sc_Folders_add_L (fun vs H Q E h => ?_) (fun cdv A outer s H vs Q E hr h => ?_)
  · obtain ⟨a_v_self, v_self, v_name, v_folder, a_v_marks, v_marks, F, rfl, _⟩ := h; rfl
  · obtain ⟨a_v_self, v_self, v_name, v_folder, a_v_marks, v_marks, F, rfl, hS, hm⟩ := h
    refine ⟨_, (pss_cons (ps_if (pt_cmp (pc_din (hu_of hr) (pv 1) (pe_fld (pv 0) rfl))) (pss_one (ps_raise rfl (takes_of rfl rfl rfl rfl) (pmk_own PySem.F.excBase_ValueError T.x_NoName T.g_NoName T.kp_NoName (T.r_NoName rfl) rfl))) pss_nil)
      (pss_cons (ps_asg (pv 2) (pg_sub (pe_fld (pv 0) rfl) (pv 1) (set_dict (hu_of hr))))
      (pss_cons (ps_asg pe_dnewK (pg_sub (pe_fld (pv 0) rfl) (pv 1) (set_dict (hu_of hr))))
      (pss_cons (ps_if (pt_cmp (pc_notN (pe_fz (pv 3)))) (pss_one (ps_for (passes_of rfl) rfl (pi_listK G.K (pe_fz (pv 3))) (pg_name (i := 4) nd rfl (Or.inl rfl)) (pss_one (ps_asg pe_bl (pg_sub (pe_dget (hu_of hr) (pe_fld (pv 0) rfl) (pv 1) (fun _ _ => rfl)) (pv 4) (set_dict (hu_of hr))))))) pss_nil)
      (pss_one (ps_expr (pe_meth (pv 0) T.cl_Folders T.m_Folders_shift (ok_Folders_shift T) (hr.mono (by decide)) T.b_Folders_shift .nil pass0 (pa_cons (pv 1) (pa_cons pe_int pa_nil))))))))), ?_⟩
    unfold m_Folders_add_L at hm
    have hS : Sep H (FoldersA a_v_self v_self :: [lstA a_v_marks (v_marks : (List Str)), F] : List (Asn G)) := hS.sel [0, 1, 2] (by decide) rfl
    obtain ⟨dx1, p2, p3, p4, p5, hS⟩ := open_Folders hS
    have hS : Sep H ([cell a_v_self (.ins (G.cl 2) dx1 [("boxes", (.ref p2)), ("tags", (.ref p3)), ("sums", (.ref p4)), ("tallies", (.ref p5))]), dictA p2 (v_self.boxes : (List (Str × Str))), dictE dictA p3 (v_self.tags : (List (Str × (List (Str × Bool))))), dictA p4 (v_self.sums : (List (Str × (Int × Int)))), dictT p5 (v_self.tallies : (List (Kt × Int))), lstA a_v_marks (v_marks : (List Str)), F] : List (Asn G)) := hS
    refine f_seq ?_
    refine f_if ?_
    refine et_to (et_B (ev_din hS (i := 1) (k := v_name) rfl (ev_var rfl) (ev_fld (ev_var rfl) (hS.getCell (i := 0) rfl) T.cl_Folders T.n_Folders_boxes rfl))) ?_
    refine ifK_2 (fun hb6 => ?_) (fun hb6 => ?_)
    · have hm := R.wp_ifY hm hb6
      have hS : Sep H (FoldersA a_v_self v_self :: [lstA a_v_marks (v_marks : (List Str)), F] : List (Asn G)) := pack_Folders (hS.sel [0, 1, 2, 3, 4, 5, 6] (by decide) rfl)
      exact hm _ (hS.sel [0, 1, 2] (by decide) rfl)
    · have hm := R.wp_ifN hm (by first | (rw [hb6]; decide) | simpa using hb6)
      refine st_nx ?_
      refine sq_nx ?_
      refine f_seq ?_
      refine c_asgS ?_
      refine ev_to (ev_var rfl) ?_
      refine ev_to (ev_fld (ev_var rfl) (hS.getCell (i := 0) rfl) T.cl_Folders T.n_Folders_boxes rfl) ?_
      refine ev_to (ev_var rfl) ?_
      obtain ⟨h7, hm⟩ := R.wp_need hm
      refine k_setD (k := v_name) (y := v_folder) hS (i := 1) rfl rfl h7 rfl fun H hS => ?_
      have hS : Sep H ([cell a_v_self (.ins (G.cl 2) dx1 [("boxes", (.ref p2)), ("tags", (.ref p3)), ("sums", (.ref p4)), ("tallies", (.ref p5))]), dictA p2 (dput v_self.boxes v_name v_folder : (List (Str × Str))), dictE dictA p3 (v_self.tags : (List (Str × (List (Str × Bool))))), dictA p4 (v_self.sums : (List (Str × (Int × Int)))), dictT p5 (v_self.tallies : (List (Kt × Int))), lstA a_v_marks (v_marks : (List Str)), F] : List (Asn G)) := hS
      refine sq_nx ?_
      refine f_seq ?_
      refine c_asgS ?_
      refine k_dnew (κ := Str) (β := Bool) hS fun p8 H hS => ?_
      refine ev_to (ev_fld (ev_var rfl) (hS.getCell (i := 1) rfl) T.cl_Folders T.n_Folders_tags rfl) ?_
      refine ev_to (ev_var rfl) ?_
      obtain ⟨h9, hm⟩ := R.wp_need hm
      obtain ⟨h10, hm⟩ := R.wp_need hm
      refine k_newE' (k := v_name) (hS.sel [3, 0, 1, 2, 4, 5, 6, 7] (by decide) rfl : Sep H (dictE dictA p3 (v_self.tags : (List (Str × (List (Str × Bool))))) :: dictA p8 (([] : (List (Str × Bool))) : (List (Str × Bool))) :: [cell a_v_self (.ins (G.cl 2) dx1 [("boxes", (.ref p2)), ("tags", (.ref p3)), ("sums", (.ref p4)), ("tallies", (.ref p5))]), dictA p2 (dput v_self.boxes v_name v_folder : (List (Str × Str))), dictA p4 (v_self.sums : (List (Str × (Int × Int)))), dictT p5 (v_self.tallies : (List (Kt × Int))), lstA a_v_marks (v_marks : (List Str)), F] : List (Asn G))) h10 h9 fun H hS => ?_
      have hS : Sep H ([dictE dictA p3 (v_self.tags ++ [(v_name, ([] : (List (Str × Bool))))] : (List (Str × (List (Str × Bool))))), cell a_v_self (.ins (G.cl 2) dx1 [("boxes", (.ref p2)), ("tags", (.ref p3)), ("sums", (.ref p4)), ("tallies", (.ref p5))]), dictA p2 (dput v_self.boxes v_name v_folder : (List (Str × Str))), dictA p4 (v_self.sums : (List (Str × (Int × Int)))), dictT p5 (v_self.tallies : (List (Kt × Int))), lstA a_v_marks (v_marks : (List Str)), F] : List (Asn G)) := hS
      refine sq_nx ?_
      refine f_seq ?_
      refine f_if ?_
      refine et_to (et_B (ev_notN (ev_fz (ev_var rfl)) (any_lst hS (i := 5) rfl))) ?_
      refine ifK_t ?_
      refine c_for ?_
      refine c_il ?_
      refine ev_to (ev_fz (ev_var rfl)) ?_
      refine k_il hS (i := 5) rfl ?_
      refine k_for (τ := (List (Str × (List (Str × Bool))))) (fun (s11 : (List (Str × (List (Str × Bool))))) (σ : L2.St) (H : Hp) => ∃ (w14 : Option V), σ = [some (.ref a_v_self), some (.str (v_name)), some (.str (v_folder)), some (.ref a_v_marks), w14] ∧ Sep H ([dictE dictA p3 (s11 : (List (Str × (List (Str × Bool))))), cell a_v_self (.ins (G.cl 2) dx1 [("boxes", (.ref p2)), ("tags", (.ref p3)), ("sums", (.ref p4)), ("tallies", (.ref p5))]), dictA p2 (dput v_self.boxes v_name v_folder : (List (Str × Str))), dictA p4 (v_self.sums : (List (Str × (Int × Int)))), dictT p5 (v_self.tallies : (List (Kt × Int))), lstA a_v_marks (v_marks : (List Str)), F] : List (Asn G))) (im := (Im.im G)) (s := (v_self.tags ++ [(v_name, ([] : (List (Str × Bool))))])) (fun _ => wk_list fun _ _ ⟨_, _, h⟩ => h.sq (i := 5) rfl) ⟨_, rfl, hS.sel [0, 1, 2, 3, 4, 5, 6] (by decide) rfl⟩ hm (fun s11 x12 v13 σ H q N hI hx hm nx => ?_) (fun s11 σ H hm hI => ?_)
      ·
        obtain ⟨w14, rfl, hS⟩ := hI
        cases hx
        refine c_gN (σ' := [some (.ref a_v_self), some (.str (v_name)), some (.str (v_folder)), some (.ref a_v_marks), some (.str (x12))]) rfl ?_
        refine c_asgS ?_
        refine ev_to ev_c ?_
        refine c_dget ?_
        refine ev_to (ev_fld (ev_var rfl) (hS.getCell (i := 1) rfl) T.cl_Folders T.n_Folders_tags rfl) ?_
        refine k_dget1 ?_
        refine ev_to (ev_var rfl) ?_
        obtain ⟨x15, h16, hm⟩ := wp_dgetX hm
        refine k_dgetE (y := (x15 : (List (Str × Bool)))) (hS.sel [0, 1, 2, 3, 4, 5, 6] (by decide) rfl : Sep _ (dictE dictA p3 (s11 : (List (Str × (List (Str × Bool))))) :: [cell a_v_self (.ins (G.cl 2) dx1 [("boxes", (.ref p2)), ("tags", (.ref p3)), ("sums", (.ref p4)), ("tallies", (.ref p5))]), dictA p2 (dput v_self.boxes v_name v_folder : (List (Str × Str))), dictA p4 (v_self.sums : (List (Str × (Int × Int)))), dictT p5 (v_self.tallies : (List (Kt × Int))), lstA a_v_marks (v_marks : (List Str)), F] : List (Asn G))) h16 fun ps17 p18 j19 hl20 hj21 hp22 hS => ?_
        have hS : Sep H ([dictA p18 (x15 : (List (Str × Bool))), dictXH id dictA p3 ps17 (s11 : (List (Str × (List (Str × Bool))))) j19, cell a_v_self (.ins (G.cl 2) dx1 [("boxes", (.ref p2)), ("tags", (.ref p3)), ("sums", (.ref p4)), ("tallies", (.ref p5))]), dictA p2 (dput v_self.boxes v_name v_folder : (List (Str × Str))), dictA p4 (v_self.sums : (List (Str × (Int × Int)))), dictT p5 (v_self.tallies : (List (Kt × Int))), lstA a_v_marks (v_marks : (List Str)), F] : List (Asn G)) := hS
        refine ev_to (ev_var rfl) ?_
        obtain ⟨h23, hm⟩ := R.wp_need hm
        refine k_setD (k := x12) (y := true) hS (i := 0) rfl rfl h23 rfl fun H hS => ?_
        have hS : Sep H ([dictA p18 (dput x15 x12 true : (List (Str × Bool))), dictXH id dictA p3 ps17 (s11 : (List (Str × (List (Str × Bool))))) j19, cell a_v_self (.ins (G.cl 2) dx1 [("boxes", (.ref p2)), ("tags", (.ref p3)), ("sums", (.ref p4)), ("tallies", (.ref p5))]), dictA p2 (dput v_self.boxes v_name v_folder : (List (Str × Str))), dictA p4 (v_self.sums : (List (Str × (Int × Int)))), dictT p5 (v_self.tallies : (List (Kt × Int))), lstA a_v_marks (v_marks : (List Str)), F] : List (Asn G)) := hS
        have hS : Sep H ([dictE dictA p3 (dput s11 v_name (dput x15 x12 true) : (List (Str × (List (Str × Bool))))), cell a_v_self (.ins (G.cl 2) dx1 [("boxes", (.ref p2)), ("tags", (.ref p3)), ("sums", (.ref p4)), ("tallies", (.ref p5))]), dictA p2 (dput v_self.boxes v_name v_folder : (List (Str × Str))), dictA p4 (v_self.sums : (List (Str × (Int × Int)))), dictT p5 (v_self.tallies : (List (Kt × Int))), lstA a_v_marks (v_marks : (List Str)), F] : List (Asn G)) := unfocDE (z := (dput x15 x12 true : (List (Str × Bool)))) hl20 hj21 hp22 (hS.sel [0, 1, 2, 3, 4, 5, 6, 7] (by decide) rfl)
        exact nx _ _ _ hm ⟨_, rfl, hS.sel [0, 1, 2, 3, 4, 5, 6] (by decide) rfl⟩
      · obtain ⟨w14, rfl, hS⟩ := hI
        refine sq_nx ?_
        refine c_drop ?_
        refine c_meth ?_
        refine ev_to (ev_var rfl) ?_
        refine ⟨_, _, _, rfl, (hS.getCell (i := 1) rfl), rfl, ?_⟩
        refine ea_to (ea_cons (ev_var rfl) (ea_cons ev_c ea_nil)) ?_
        have hS : Sep H (FoldersA a_v_self (⟨dput v_self.boxes v_name v_folder, s11, v_self.sums, v_self.tallies⟩ : Folders) :: [lstA a_v_marks (v_marks : (List Str)), F] : List (Asn G)) := pack_Folders (hS.sel [1, 2, 0, 3, 4, 5, 6] (by decide) rfl)
        refine ⟨a_v_self, ((⟨dput v_self.boxes v_name v_folder, s11, v_self.sums, v_self.tallies⟩ : Folders) : Folders), v_name, 1, star [lstA a_v_marks (v_marks : (List Str)), F], rfl, Sep.unstar (M := [FoldersA a_v_self (⟨dput v_self.boxes v_name v_folder, s11, v_self.sums, v_self.tallies⟩ : Folders)]) (hS.sel [0, 1, 2] (by decide) rfl : Sep H (([FoldersA a_v_self (⟨dput v_self.boxes v_name v_folder, s11, v_self.sums, v_self.tallies⟩ : Folders)] ++ [lstA a_v_marks (v_marks : (List Str)), F] : List (Asn G)))), R.wp_mono (R.wp_noexc hm) (fun r24 hm H hS => ?_) (fun _ z => z)⟩
        have hS : Sep H ([FoldersA a_v_self r24, lstA a_v_marks (v_marks : (List Str)), F] : List (Asn G)) := Sep.star (M := [FoldersA a_v_self r24]) hS
        have hS : Sep H (FoldersA a_v_self r24 :: [lstA a_v_marks (v_marks : (List Str)), F] : List (Asn G)) := hS.sel [0, 1, 2] (by decide) rfl
        obtain ⟨dx25, p26, p27, p28, p29, hS⟩ := open_Folders hS
        have hS : Sep H ([cell a_v_self (.ins (G.cl 2) dx25 [("boxes", (.ref p26)), ("tags", (.ref p27)), ("sums", (.ref p28)), ("tallies", (.ref p29))]), dictA p26 (r24.boxes : (List (Str × Str))), dictE dictA p27 (r24.tags : (List (Str × (List (Str × Bool))))), dictA p28 (r24.sums : (List (Str × (Int × Int)))), dictT p29 (r24.tallies : (List (Kt × Int))), lstA a_v_marks (v_marks : (List Str)), F] : List (Asn G)) := hS
        have hS : Sep H (FoldersA a_v_self r24 :: [lstA a_v_marks (v_marks : (List Str)), F] : List (Asn G)) := pack_Folders (hS.sel [0, 1, 2, 3, 4, 5, 6] (by decide) rfl)
        exact hm _ (hS.sel [0, 1, 2] (by decide) rfl)
def sp_Folders_take_out (G : Gx) : Sp := fun vs H Q E => ∃ (a_v_self : Addr) (v_self : Folders) (v_name : Str) (F : Asn G), vs = [.ref a_v_self, (.str (v_name))] ∧ Sep H ([FoldersA a_v_self v_self, F] : List (Asn G)) ∧ R.wp (m_Folders_take_out v_self v_name) (fun r => ∀ H', Sep H' ([FoldersA a_v_self r, F] : List (Asn G)) → Q .non H') (fun x => ∀ H', Sep H' ([FoldersA a_v_self v_self, F] : List (Asn G)) → Eok G x E H')
abbrev N_Folders_take_out : List Str := ["self", "name"]
theorem sc_Folders_take_out : FnScope N_Folders_take_out ["self", "name"] (defScope s_Folders_take_out) := ⟨rfl, rfl, rfl, by decide +kernel, rfl, by decide +kernel, by decide +kernel⟩
theorem ok_Folders_take_out (T : Txt G mg) : FnOk P w G.K mg base (L2.CX P w) 3 T.a_Folders_take_out T.fd_Folders_take_out ["self", "name"] (sp_Folders_take_out G) := by
  have nd := sc_Folders_take_out.nd
  refine Fun.okX T.F_Folders_take_out sc_Folders_take_out (fun vs H Q E h => ?_) (fun cdv A outer s H vs Q E hr h => ?_)
  · obtain ⟨a_v_self, v_self, v_name, F, rfl, _⟩ := h; rfl
  · obtain ⟨a_v_self, v_self, v_name, F, rfl, hS, hm⟩ := h
    refine ⟨_, (pss_cons (ps_expr (pe_meth (pv 0) T.cl_Folders T.m_Folders_need (ok_Folders_need T) (hr.mono (by decide)) T.b_Folders_need .nil (passes_call (takes_of rfl rfl rfl rfl) (fun _ _ _ _ h => h)) (pa_cons (pv 1) pa_nil)))
      (pss_cons (ps_expr (pe_meth (pv 0) T.cl_Folders T.m_Folders_shift (ok_Folders_shift T) (hr.mono (by decide)) T.b_Folders_shift .nil pass0 (pa_cons (pv 1) (pa_cons (pe_un un_neg pe_int) pa_nil))))
      (pss_cons (ps_expr (pe_dpop1 (pe_fld (pv 0) rfl) (pv 1) m1))
      (pss_one (ps_expr (pe_dpop1 (pe_fld (pv 0) rfl) (pv 1) m1)))))), ?_⟩
    unfold m_Folders_take_out at hm
    have hS : Sep H (FoldersA a_v_self v_self :: [F] : List (Asn G)) := hS.sel [0, 1] (by decide) rfl
    obtain ⟨dx1, p2, p3, p4, p5, hS⟩ := open_Folders hS
    have hS : Sep H ([cell a_v_self (.ins (G.cl 2) dx1 [("boxes", (.ref p2)), ("tags", (.ref p3)), ("sums", (.ref p4)), ("tallies", (.ref p5))]), dictA p2 (v_self.boxes : (List (Str × Str))), dictE dictA p3 (v_self.tags : (List (Str × (List (Str × Bool))))), dictA p4 (v_self.sums : (List (Str × (Int × Int)))), dictT p5 (v_self.tallies : (List (Kt × Int))), F] : List (Asn G)) := hS
    refine f_seq ?_
    refine c_drop ?_
    refine c_meth ?_
    refine ev_to (ev_var rfl) ?_
    refine ⟨_, _, _, rfl, (hS.getCell (i := 0) rfl), rfl, ?_⟩
    refine ea_to (ea_cons (ev_var rfl) ea_nil) ?_
    have hS : Sep H (FoldersA a_v_self v_self :: [F] : List (Asn G)) := pack_Folders (hS.sel [0, 1, 2, 3, 4, 5] (by decide) rfl)
    refine ⟨a_v_self, (v_self : Folders), v_name, star [F], rfl, Sep.unstar (M := [FoldersA a_v_self v_self]) (hS.sel [0, 1] (by decide) rfl : Sep H (([FoldersA a_v_self v_self] ++ [F] : List (Asn G)))), R.wp_mono (R.wp_bind hm) (fun r6 hm H hS => ?_) (fun x hx H hS => ?_)⟩
    ·
      have hS : Sep H ([FoldersA a_v_self v_self, F] : List (Asn G)) := Sep.star (M := [FoldersA a_v_self v_self]) hS
      have hS : Sep H (FoldersA a_v_self v_self :: [F] : List (Asn G)) := hS.sel [0, 1] (by decide) rfl
      obtain ⟨dx7, p8, p9, p10, p11, hS⟩ := open_Folders hS
      have hS : Sep H ([cell a_v_self (.ins (G.cl 2) dx7 [("boxes", (.ref p8)), ("tags", (.ref p9)), ("sums", (.ref p10)), ("tallies", (.ref p11))]), dictA p8 (v_self.boxes : (List (Str × Str))), dictE dictA p9 (v_self.tags : (List (Str × (List (Str × Bool))))), dictA p10 (v_self.sums : (List (Str × (Int × Int)))), dictT p11 (v_self.tallies : (List (Kt × Int))), F] : List (Asn G)) := hS
      refine sq_nx ?_
      refine f_seq ?_
      refine c_drop ?_
      refine c_meth ?_
      refine ev_to (ev_var rfl) ?_
      refine ⟨_, _, _, rfl, (hS.getCell (i := 0) rfl), rfl, ?_⟩
      refine ea_to (ea_cons (ev_var rfl) (ea_cons (ev_un ev_c fun _ q => ⟨_, rfl, q⟩) ea_nil)) ?_
      have hS : Sep H (FoldersA a_v_self v_self :: [F] : List (Asn G)) := pack_Folders (hS.sel [0, 1, 2, 3, 4, 5] (by decide) rfl)
      refine ⟨a_v_self, (v_self : Folders), v_name, (-1), star [F], rfl, Sep.unstar (M := [FoldersA a_v_self v_self]) (hS.sel [0, 1] (by decide) rfl : Sep H (([FoldersA a_v_self v_self] ++ [F] : List (Asn G)))), R.wp_mono (R.wp_noexc hm) (fun r12 hm H hS => ?_) (fun _ z => z)⟩
      have hS : Sep H ([FoldersA a_v_self r12, F] : List (Asn G)) := Sep.star (M := [FoldersA a_v_self r12]) hS
      have hS : Sep H (FoldersA a_v_self r12 :: [F] : List (Asn G)) := hS.sel [0, 1] (by decide) rfl
      obtain ⟨dx13, p14, p15, p16, p17, hS⟩ := open_Folders hS
      have hS : Sep H ([cell a_v_self (.ins (G.cl 2) dx13 [("boxes", (.ref p14)), ("tags", (.ref p15)), ("sums", (.ref p16)), ("tallies", (.ref p17))]), dictA p14 (r12.boxes : (List (Str × Str))), dictE dictA p15 (r12.tags : (List (Str × (List (Str × Bool))))), dictA p16 (r12.sums : (List (Str × (Int × Int)))), dictT p17 (r12.tallies : (List (Kt × Int))), F] : List (Asn G)) := hS
      refine sq_nx ?_
      refine f_seq ?_
      refine c_drop ?_
      refine c_dpop1 ?_
      refine ev_to (ev_fld (ev_var rfl) (hS.getCell (i := 0) rfl) T.cl_Folders T.n_Folders_boxes rfl) ?_
      refine k_pop1a (isD_of hS (i := 1) rfl) ?_
      refine ev_to (ev_var rfl) ?_
      obtain ⟨y18, hy18, hm⟩ := wp_dgetX hm
      refine k_pop1A (k := v_name) hS (i := 1) rfl hy18 rfl fun v19 H hS => ?_
      obtain rfl : v19 = (.str (y18)) := hS.im (i := 0) rfl
      have hS := hS.tail
      have hS : Sep H ([cell a_v_self (.ins (G.cl 2) dx13 [("boxes", (.ref p14)), ("tags", (.ref p15)), ("sums", (.ref p16)), ("tallies", (.ref p17))]), dictA p14 (ddrop r12.boxes v_name : (List (Str × Str))), dictE dictA p15 (r12.tags : (List (Str × (List (Str × Bool))))), dictA p16 (r12.sums : (List (Str × (Int × Int)))), dictT p17 (r12.tallies : (List (Kt × Int))), F] : List (Asn G)) := hS
      refine sq_nx ?_
      refine c_drop ?_
      refine c_dpop1 ?_
      refine ev_to (ev_fld (ev_var rfl) (hS.getCell (i := 0) rfl) T.cl_Folders T.n_Folders_tags rfl) ?_
      refine k_pop1a (isD_Ei hS (i := 2) rfl) ?_
      refine ev_to (ev_var rfl) ?_
      obtain ⟨y20, hy20, hm⟩ := wp_dgetX hm
      refine k_pop1E (hS.sel [2, 0, 1, 3, 4, 5] (by decide) rfl : Sep _ (dictE dictA p15 (r12.tags : (List (Str × (List (Str × Bool))))) :: [cell a_v_self (.ins (G.cl 2) dx13 [("boxes", (.ref p14)), ("tags", (.ref p15)), ("sums", (.ref p16)), ("tallies", (.ref p17))]), dictA p14 (ddrop r12.boxes v_name : (List (Str × Str))), dictA p16 (r12.sums : (List (Str × (Int × Int)))), dictT p17 (r12.tallies : (List (Kt × Int))), F] : List (Asn G))) hy20 fun v21 H hS => ?_
      have hS : Sep H ([dictA v21 (y20 : (List (Str × Bool))), dictE dictA p15 (ddrop r12.tags v_name : (List (Str × (List (Str × Bool))))), cell a_v_self (.ins (G.cl 2) dx13 [("boxes", (.ref p14)), ("tags", (.ref p15)), ("sums", (.ref p16)), ("tallies", (.ref p17))]), dictA p14 (ddrop r12.boxes v_name : (List (Str × Str))), dictA p16 (r12.sums : (List (Str × (Int × Int)))), dictT p17 (r12.tallies : (List (Kt × Int))), F] : List (Asn G)) := hS
      have hS : Sep H (FoldersA a_v_self (⟨ddrop r12.boxes v_name, ddrop r12.tags v_name, r12.sums, r12.tallies⟩ : Folders) :: [dictA v21 (y20 : (List (Str × Bool))), F] : List (Asn G)) := pack_Folders (hS.sel [2, 3, 1, 4, 5, 0, 6] (by decide) rfl)
      exact hm _ (hS.sel [0, 2] (by decide) rfl)
    ·
      have hS : Sep H ([FoldersA a_v_self v_self, F] : List (Asn G)) := Sep.star (M := [FoldersA a_v_self v_self]) hS
      exact hx _ (hS.sel [0, 1] (by decide) rfl)
def sp_Folders_place (G : Gx) : Sp := fun vs H Q E => ∃ (a_v_self : Addr) (v_self : Folders) (v_name : Str) (v_folder : Str) (F : Asn G), vs = [.ref a_v_self, (.str (v_name)), (.str (v_folder))] ∧ Sep H ([FoldersA a_v_self v_self, F] : List (Asn G)) ∧ R.wp (m_Folders_place v_self v_name v_folder) (fun r => ∀ H', Sep H' ([FoldersA a_v_self r, F] : List (Asn G)) → Q .non H') (fun x => ∀ H', Sep H' ([FoldersA a_v_self v_self, F] : List (Asn G)) → Eok G x E H')
abbrev N_Folders_place : List Str := ["self", "name", "folder"]
theorem sc_Folders_place : FnScope N_Folders_place ["self", "name", "folder"] (defScope s_Folders_place) := ⟨rfl, rfl, rfl, by decide +kernel, rfl, by decide +kernel, by decide +kernel⟩
theorem ok_Folders_place (T : Txt G mg) : FnOk P w G.K mg base (L2.CX P w) 3 T.a_Folders_place T.fd_Folders_place ["self", "name", "folder"] (sp_Folders_place G) := by
  have nd := sc_Folders_place.nd
  refine Fun.okX T.F_Folders_place sc_Folders_place (fun vs H Q E h => ?_) (fun cdv A outer s H vs Q E hr h => ?_)
  · obtain ⟨a_v_self, v_self, v_name, v_folder, F, rfl, _⟩ := h; rfl
  · obtain ⟨a_v_self, v_self, v_name, v_folder, F, rfl, hS, hm⟩ := h
    refine ⟨_, (pss_cons (ps_expr (pe_meth (pv 0) T.cl_Folders T.m_Folders_need (ok_Folders_need T) (hr.mono (by decide)) T.b_Folders_need .nil (passes_call (takes_of rfl rfl rfl rfl) (fun _ _ _ _ h => h)) (pa_cons (pv 1) pa_nil)))
      (pss_cons (ps_expr (pe_meth (pv 0) T.cl_Folders T.m_Folders_shift (ok_Folders_shift T) (hr.mono (by decide)) T.b_Folders_shift .nil pass0 (pa_cons (pv 1) (pa_cons (pe_un un_neg pe_int) pa_nil))))
      (pss_cons (ps_asg (pv 2) (pg_sub (pe_fld (pv 0) rfl) (pv 1) (set_dict (hu_of hr))))
      (pss_one (ps_expr (pe_meth (pv 0) T.cl_Folders T.m_Folders_shift (ok_Folders_shift T) (hr.mono (by decide)) T.b_Folders_shift .nil pass0 (pa_cons (pv 1) (pa_cons pe_int pa_nil)))))))), ?_⟩
    unfold m_Folders_place at hm
    have hS : Sep H (FoldersA a_v_self v_self :: [F] : List (Asn G)) := hS.sel [0, 1] (by decide) rfl
    obtain ⟨dx1, p2, p3, p4, p5, hS⟩ := open_Folders hS
    have hS : Sep H ([cell a_v_self (.ins (G.cl 2) dx1 [("boxes", (.ref p2)), ("tags", (.ref p3)), ("sums", (.ref p4)), ("tallies", (.ref p5))]), dictA p2 (v_self.boxes : (List (Str × Str))), dictE dictA p3 (v_self.tags : (List (Str × (List (Str × Bool))))), dictA p4 (v_self.sums : (List (Str × (Int × Int)))), dictT p5 (v_self.tallies : (List (Kt × Int))), F] : List (Asn G)) := hS
    refine f_seq ?_
    refine c_drop ?_
    refine c_meth ?_
    refine ev_to (ev_var rfl) ?_
    refine ⟨_, _, _, rfl, (hS.getCell (i := 0) rfl), rfl, ?_⟩
    refine ea_to (ea_cons (ev_var rfl) ea_nil) ?_
    have hS : Sep H (FoldersA a_v_self v_self :: [F] : List (Asn G)) := pack_Folders (hS.sel [0, 1, 2, 3, 4, 5] (by decide) rfl)
    refine ⟨a_v_self, (v_self : Folders), v_name, star [F], rfl, Sep.unstar (M := [FoldersA a_v_self v_self]) (hS.sel [0, 1] (by decide) rfl : Sep H (([FoldersA a_v_self v_self] ++ [F] : List (Asn G)))), R.wp_mono (R.wp_bind hm) (fun r6 hm H hS => ?_) (fun x hx H hS => ?_)⟩
    ·
      have hS : Sep H ([FoldersA a_v_self v_self, F] : List (Asn G)) := Sep.star (M := [FoldersA a_v_self v_self]) hS
      have hS : Sep H (FoldersA a_v_self v_self :: [F] : List (Asn G)) := hS.sel [0, 1] (by decide) rfl
      obtain ⟨dx7, p8, p9, p10, p11, hS⟩ := open_Folders hS
      have hS : Sep H ([cell a_v_self (.ins (G.cl 2) dx7 [("boxes", (.ref p8)), ("tags", (.ref p9)), ("sums", (.ref p10)), ("tallies", (.ref p11))]), dictA p8 (v_self.boxes : (List (Str × Str))), dictE dictA p9 (v_self.tags : (List (Str × (List (Str × Bool))))), dictA p10 (v_self.sums : (List (Str × (Int × Int)))), dictT p11 (v_self.tallies : (List (Kt × Int))), F] : List (Asn G)) := hS
      refine sq_nx ?_
      refine f_seq ?_
      refine c_drop ?_
      refine c_meth ?_
      refine ev_to (ev_var rfl) ?_
      refine ⟨_, _, _, rfl, (hS.getCell (i := 0) rfl), rfl, ?_⟩
      refine ea_to (ea_cons (ev_var rfl) (ea_cons (ev_un ev_c fun _ q => ⟨_, rfl, q⟩) ea_nil)) ?_
      have hS : Sep H (FoldersA a_v_self v_self :: [F] : List (Asn G)) := pack_Folders (hS.sel [0, 1, 2, 3, 4, 5] (by decide) rfl)
      refine ⟨a_v_self, (v_self : Folders), v_name, (-1), star [F], rfl, Sep.unstar (M := [FoldersA a_v_self v_self]) (hS.sel [0, 1] (by decide) rfl : Sep H (([FoldersA a_v_self v_self] ++ [F] : List (Asn G)))), R.wp_mono (R.wp_noexc hm) (fun r12 hm H hS => ?_) (fun _ z => z)⟩
      have hS : Sep H ([FoldersA a_v_self r12, F] : List (Asn G)) := Sep.star (M := [FoldersA a_v_self r12]) hS
      have hS : Sep H (FoldersA a_v_self r12 :: [F] : List (Asn G)) := hS.sel [0, 1] (by decide) rfl
      obtain ⟨dx13, p14, p15, p16, p17, hS⟩ := open_Folders hS
      have hS : Sep H ([cell a_v_self (.ins (G.cl 2) dx13 [("boxes", (.ref p14)), ("tags", (.ref p15)), ("sums", (.ref p16)), ("tallies", (.ref p17))]), dictA p14 (r12.boxes : (List (Str × Str))), dictE dictA p15 (r12.tags : (List (Str × (List (Str × Bool))))), dictA p16 (r12.sums : (List (Str × (Int × Int)))), dictT p17 (r12.tallies : (List (Kt × Int))), F] : List (Asn G)) := hS
      refine sq_nx ?_
      refine f_seq ?_
      refine c_asgS ?_
      refine ev_to (ev_var rfl) ?_
      refine ev_to (ev_fld (ev_var rfl) (hS.getCell (i := 0) rfl) T.cl_Folders T.n_Folders_boxes rfl) ?_
      refine ev_to (ev_var rfl) ?_
      obtain ⟨h18, hm⟩ := R.wp_need hm
      refine k_setD (k := v_name) (y := v_folder) hS (i := 1) rfl rfl h18 rfl fun H hS => ?_
      have hS : Sep H ([cell a_v_self (.ins (G.cl 2) dx13 [("boxes", (.ref p14)), ("tags", (.ref p15)), ("sums", (.ref p16)), ("tallies", (.ref p17))]), dictA p14 (dput r12.boxes v_name v_folder : (List (Str × Str))), dictE dictA p15 (r12.tags : (List (Str × (List (Str × Bool))))), dictA p16 (r12.sums : (List (Str × (Int × Int)))), dictT p17 (r12.tallies : (List (Kt × Int))), F] : List (Asn G)) := hS
      refine sq_nx ?_
      refine c_drop ?_
      refine c_meth ?_
      refine ev_to (ev_var rfl) ?_
      refine ⟨_, _, _, rfl, (hS.getCell (i := 0) rfl), rfl, ?_⟩
      refine ea_to (ea_cons (ev_var rfl) (ea_cons ev_c ea_nil)) ?_
      have hS : Sep H (FoldersA a_v_self (⟨dput r12.boxes v_name v_folder, r12.tags, r12.sums, r12.tallies⟩ : Folders) :: [F] : List (Asn G)) := pack_Folders (hS.sel [0, 1, 2, 3, 4, 5] (by decide) rfl)
      refine ⟨a_v_self, ((⟨dput r12.boxes v_name v_folder, r12.tags, r12.sums, r12.tallies⟩ : Folders) : Folders), v_name, 1, star [F], rfl, Sep.unstar (M := [FoldersA a_v_self (⟨dput r12.boxes v_name v_folder, r12.tags, r12.sums, r12.tallies⟩ : Folders)]) (hS.sel [0, 1] (by decide) rfl : Sep H (([FoldersA a_v_self (⟨dput r12.boxes v_name v_folder, r12.tags, r12.sums, r12.tallies⟩ : Folders)] ++ [F] : List (Asn G)))), R.wp_mono (R.wp_noexc hm) (fun r19 hm H hS => ?_) (fun _ z => z)⟩
      have hS : Sep H ([FoldersA a_v_self r19, F] : List (Asn G)) := Sep.star (M := [FoldersA a_v_self r19]) hS
      have hS : Sep H (FoldersA a_v_self r19 :: [F] : List (Asn G)) := hS.sel [0, 1] (by decide) rfl
      obtain ⟨dx20, p21, p22, p23, p24, hS⟩ := open_Folders hS
      have hS : Sep H ([cell a_v_self (.ins (G.cl 2) dx20 [("boxes", (.ref p21)), ("tags", (.ref p22)), ("sums", (.ref p23)), ("tallies", (.ref p24))]), dictA p21 (r19.boxes : (List (Str × Str))), dictE dictA p22 (r19.tags : (List (Str × (List (Str × Bool))))), dictA p23 (r19.sums : (List (Str × (Int × Int)))), dictT p24 (r19.tallies : (List (Kt × Int))), F] : List (Asn G)) := hS
      have hS : Sep H (FoldersA a_v_self r19 :: [F] : List (Asn G)) := pack_Folders (hS.sel [0, 1, 2, 3, 4, 5] (by decide) rfl)
      exact hm _ (hS.sel [0, 1] (by decide) rfl)
    ·
      have hS : Sep H ([FoldersA a_v_self v_self, F] : List (Asn G)) := Sep.star (M := [FoldersA a_v_self v_self]) hS
      exact hx _ (hS.sel [0, 1] (by decide) rfl)
def sp_Folders_mark (G : Gx) : Sp := fun vs H Q E => ∃ (a_v_self : Addr) (v_self : Folders) (v_name : Str) (v_word : Str) (F : Asn G), vs = [.ref a_v_self, (.str (v_name)), (.str (v_word))] ∧ Sep H ([FoldersA a_v_self v_self, F] : List (Asn G)) ∧ R.wp (m_Folders_mark v_self v_name v_word) (fun r => ∀ H', Sep H' ([FoldersA a_v_self r, F] : List (Asn G)) → Q .non H') (fun x => ∀ H', Sep H' ([FoldersA a_v_self v_self, F] : List (Asn G)) → Eok G x E H')
abbrev N_Folders_mark : List Str := ["self", "name", "word"]
theorem sc_Folders_mark : FnScope N_Folders_mark ["self", "name", "word"] (defScope s_Folders_mark) := ⟨rfl, rfl, rfl, by decide +kernel, rfl, by decide +kernel, by decide +kernel⟩
theorem ok_Folders_mark (T : Txt G mg) : FnOk P w G.K mg base (L2.CX P w) 3 T.a_Folders_mark T.fd_Folders_mark ["self", "name", "word"] (sp_Folders_mark G) := by
  have nd := sc_Folders_mark.nd
  refine Fun.okX T.F_Folders_mark sc_Folders_mark (fun vs H Q E h => ?_) (fun cdv A outer s H vs Q E hr h => ?_)
  · obtain ⟨a_v_self, v_self, v_name, v_word, F, rfl, _⟩ := h; rfl
  · obtain ⟨a_v_self, v_self, v_name, v_word, F, rfl, hS, hm⟩ := h
    refine ⟨_, (pss_cons (ps_expr (pe_meth (pv 0) T.cl_Folders T.m_Folders_need (ok_Folders_need T) (hr.mono (by decide)) T.b_Folders_need .nil (passes_call (takes_of rfl rfl rfl rfl) (fun _ _ _ _ h => h)) (pa_cons (pv 1) pa_nil)))
      (pss_cons (ps_expr (pe_meth (pv 0) T.cl_Folders T.m_Folders_shift (ok_Folders_shift T) (hr.mono (by decide)) T.b_Folders_shift .nil pass0 (pa_cons (pv 1) (pa_cons (pe_un un_neg pe_int) pa_nil))))
      (pss_cons (ps_asg pe_bl (pg_sub (pe_dget (hu_of hr) (pe_fld (pv 0) rfl) (pv 1) (fun _ _ => rfl)) (pv 2) (set_dict (hu_of hr))))
      (pss_one (ps_expr (pe_meth (pv 0) T.cl_Folders T.m_Folders_shift (ok_Folders_shift T) (hr.mono (by decide)) T.b_Folders_shift .nil pass0 (pa_cons (pv 1) (pa_cons pe_int pa_nil)))))))), ?_⟩
    unfold m_Folders_mark at hm
    have hS : Sep H (FoldersA a_v_self v_self :: [F] : List (Asn G)) := hS.sel [0, 1] (by decide) rfl
    obtain ⟨dx1, p2, p3, p4, p5, hS⟩ := open_Folders hS
    have hS : Sep H ([cell a_v_self (.ins (G.cl 2) dx1 [("boxes", (.ref p2)), ("tags", (.ref p3)), ("sums", (.ref p4)), ("tallies", (.ref p5))]), dictA p2 (v_self.boxes : (List (Str × Str))), dictE dictA p3 (v_self.tags : (List (Str × (List (Str × Bool))))), dictA p4 (v_self.sums : (List (Str × (Int × Int)))), dictT p5 (v_self.tallies : (List (Kt × Int))), F] : List (Asn G)) := hS
    refine f_seq ?_
    refine c_drop ?_
    refine c_meth ?_
    refine ev_to (ev_var rfl) ?_
    refine ⟨_, _, _, rfl, (hS.getCell (i := 0) rfl), rfl, ?_⟩
    refine ea_to (ea_cons (ev_var rfl) ea_nil) ?_
    have hS : Sep H (FoldersA a_v_self v_self :: [F] : List (Asn G)) := pack_Folders (hS.sel [0, 1, 2, 3, 4, 5] (by decide) rfl)
    refine ⟨a_v_self, (v_self : Folders), v_name, star [F], rfl, Sep.unstar (M := [FoldersA a_v_self v_self]) (hS.sel [0, 1] (by decide) rfl : Sep H (([FoldersA a_v_self v_self] ++ [F] : List (Asn G)))), R.wp_mono (R.wp_bind hm) (fun r6 hm H hS => ?_) (fun x hx H hS => ?_)⟩
    ·
      have hS : Sep H ([FoldersA a_v_self v_self, F] : List (Asn G)) := Sep.star (M := [FoldersA a_v_self v_self]) hS
      have hS : Sep H (FoldersA a_v_self v_self :: [F] : List (Asn G)) := hS.sel [0, 1] (by decide) rfl
      obtain ⟨dx7, p8, p9, p10, p11, hS⟩ := open_Folders hS
      have hS : Sep H ([cell a_v_self (.ins (G.cl 2) dx7 [("boxes", (.ref p8)), ("tags", (.ref p9)), ("sums", (.ref p10)), ("tallies", (.ref p11))]), dictA p8 (v_self.boxes : (List (Str × Str))), dictE dictA p9 (v_self.tags : (List (Str × (List (Str × Bool))))), dictA p10 (v_self.sums : (List (Str × (Int × Int)))), dictT p11 (v_self.tallies : (List (Kt × Int))), F] : List (Asn G)) := hS
      refine sq_nx ?_
      refine f_seq ?_
      refine c_drop ?_
      refine c_meth ?_
      refine ev_to (ev_var rfl) ?_
      refine ⟨_, _, _, rfl, (hS.getCell (i := 0) rfl), rfl, ?_⟩
      refine ea_to (ea_cons (ev_var rfl) (ea_cons (ev_un ev_c fun _ q => ⟨_, rfl, q⟩) ea_nil)) ?_
      have hS : Sep H (FoldersA a_v_self v_self :: [F] : List (Asn G)) := pack_Folders (hS.sel [0, 1, 2, 3, 4, 5] (by decide) rfl)
      refine ⟨a_v_self, (v_self : Folders), v_name, (-1), star [F], rfl, Sep.unstar (M := [FoldersA a_v_self v_self]) (hS.sel [0, 1] (by decide) rfl : Sep H (([FoldersA a_v_self v_self] ++ [F] : List (Asn G)))), R.wp_mono (R.wp_noexc hm) (fun r12 hm H hS => ?_) (fun _ z => z)⟩
      have hS : Sep H ([FoldersA a_v_self r12, F] : List (Asn G)) := Sep.star (M := [FoldersA a_v_self r12]) hS
      have hS : Sep H (FoldersA a_v_self r12 :: [F] : List (Asn G)) := hS.sel [0, 1] (by decide) rfl
      obtain ⟨dx13, p14, p15, p16, p17, hS⟩ := open_Folders hS
      have hS : Sep H ([cell a_v_self (.ins (G.cl 2) dx13 [("boxes", (.ref p14)), ("tags", (.ref p15)), ("sums", (.ref p16)), ("tallies", (.ref p17))]), dictA p14 (r12.boxes : (List (Str × Str))), dictE dictA p15 (r12.tags : (List (Str × (List (Str × Bool))))), dictA p16 (r12.sums : (List (Str × (Int × Int)))), dictT p17 (r12.tallies : (List (Kt × Int))), F] : List (Asn G)) := hS
      refine sq_nx ?_
      refine f_seq ?_
      refine c_asgS ?_
      refine ev_to ev_c ?_
      refine c_dget ?_
      refine ev_to (ev_fld (ev_var rfl) (hS.getCell (i := 0) rfl) T.cl_Folders T.n_Folders_tags rfl) ?_
      refine k_dget1 ?_
      refine ev_to (ev_var rfl) ?_
      obtain ⟨x18, h19, hm⟩ := wp_dgetX hm
      refine k_dgetE (y := (x18 : (List (Str × Bool)))) (hS.sel [2, 0, 1, 3, 4, 5] (by decide) rfl : Sep _ (dictE dictA p15 (r12.tags : (List (Str × (List (Str × Bool))))) :: [cell a_v_self (.ins (G.cl 2) dx13 [("boxes", (.ref p14)), ("tags", (.ref p15)), ("sums", (.ref p16)), ("tallies", (.ref p17))]), dictA p14 (r12.boxes : (List (Str × Str))), dictA p16 (r12.sums : (List (Str × (Int × Int)))), dictT p17 (r12.tallies : (List (Kt × Int))), F] : List (Asn G))) h19 fun ps20 p21 j22 hl23 hj24 hp25 hS => ?_
      have hS : Sep H ([dictA p21 (x18 : (List (Str × Bool))), dictXH id dictA p15 ps20 (r12.tags : (List (Str × (List (Str × Bool))))) j22, cell a_v_self (.ins (G.cl 2) dx13 [("boxes", (.ref p14)), ("tags", (.ref p15)), ("sums", (.ref p16)), ("tallies", (.ref p17))]), dictA p14 (r12.boxes : (List (Str × Str))), dictA p16 (r12.sums : (List (Str × (Int × Int)))), dictT p17 (r12.tallies : (List (Kt × Int))), F] : List (Asn G)) := hS
      refine ev_to (ev_var rfl) ?_
      obtain ⟨h26, hm⟩ := R.wp_need hm
      refine k_setD (k := v_word) (y := true) hS (i := 0) rfl rfl h26 rfl fun H hS => ?_
      have hS : Sep H ([dictA p21 (dput x18 v_word true : (List (Str × Bool))), dictXH id dictA p15 ps20 (r12.tags : (List (Str × (List (Str × Bool))))) j22, cell a_v_self (.ins (G.cl 2) dx13 [("boxes", (.ref p14)), ("tags", (.ref p15)), ("sums", (.ref p16)), ("tallies", (.ref p17))]), dictA p14 (r12.boxes : (List (Str × Str))), dictA p16 (r12.sums : (List (Str × (Int × Int)))), dictT p17 (r12.tallies : (List (Kt × Int))), F] : List (Asn G)) := hS
      have hS : Sep H ([dictE dictA p15 (dput r12.tags v_name (dput x18 v_word true) : (List (Str × (List (Str × Bool))))), cell a_v_self (.ins (G.cl 2) dx13 [("boxes", (.ref p14)), ("tags", (.ref p15)), ("sums", (.ref p16)), ("tallies", (.ref p17))]), dictA p14 (r12.boxes : (List (Str × Str))), dictA p16 (r12.sums : (List (Str × (Int × Int)))), dictT p17 (r12.tallies : (List (Kt × Int))), F] : List (Asn G)) := unfocDE (z := (dput x18 v_word true : (List (Str × Bool)))) hl23 hj24 hp25 (hS.sel [0, 1, 2, 3, 4, 5, 6] (by decide) rfl)
      refine sq_nx ?_
      refine c_drop ?_
      refine c_meth ?_
      refine ev_to (ev_var rfl) ?_
      refine ⟨_, _, _, rfl, (hS.getCell (i := 1) rfl), rfl, ?_⟩
      refine ea_to (ea_cons (ev_var rfl) (ea_cons ev_c ea_nil)) ?_
      have hS : Sep H (FoldersA a_v_self (⟨r12.boxes, dput r12.tags v_name (dput x18 v_word true), r12.sums, r12.tallies⟩ : Folders) :: [F] : List (Asn G)) := pack_Folders (hS.sel [1, 2, 0, 3, 4, 5] (by decide) rfl)
      refine ⟨a_v_self, ((⟨r12.boxes, dput r12.tags v_name (dput x18 v_word true), r12.sums, r12.tallies⟩ : Folders) : Folders), v_name, 1, star [F], rfl, Sep.unstar (M := [FoldersA a_v_self (⟨r12.boxes, dput r12.tags v_name (dput x18 v_word true), r12.sums, r12.tallies⟩ : Folders)]) (hS.sel [0, 1] (by decide) rfl : Sep H (([FoldersA a_v_self (⟨r12.boxes, dput r12.tags v_name (dput x18 v_word true), r12.sums, r12.tallies⟩ : Folders)] ++ [F] : List (Asn G)))), R.wp_mono (R.wp_noexc hm) (fun r27 hm H hS => ?_) (fun _ z => z)⟩
      have hS : Sep H ([FoldersA a_v_self r27, F] : List (Asn G)) := Sep.star (M := [FoldersA a_v_self r27]) hS
      have hS : Sep H (FoldersA a_v_self r27 :: [F] : List (Asn G)) := hS.sel [0, 1] (by decide) rfl
      obtain ⟨dx28, p29, p30, p31, p32, hS⟩ := open_Folders hS
      have hS : Sep H ([cell a_v_self (.ins (G.cl 2) dx28 [("boxes", (.ref p29)), ("tags", (.ref p30)), ("sums", (.ref p31)), ("tallies", (.ref p32))]), dictA p29 (r27.boxes : (List (Str × Str))), dictE dictA p30 (r27.tags : (List (Str × (List (Str × Bool))))), dictA p31 (r27.sums : (List (Str × (Int × Int)))), dictT p32 (r27.tallies : (List (Kt × Int))), F] : List (Asn G)) := hS
      have hS : Sep H (FoldersA a_v_self r27 :: [F] : List (Asn G)) := pack_Folders (hS.sel [0, 1, 2, 3, 4, 5] (by decide) rfl)
      exact hm _ (hS.sel [0, 1] (by decide) rfl)
    ·
      have hS : Sep H ([FoldersA a_v_self v_self, F] : List (Asn G)) := Sep.star (M := [FoldersA a_v_self v_self]) hS
      exact hx _ (hS.sel [0, 1] (by decide) rfl)
def sp_Folders_unmark (G : Gx) : Sp := fun vs H Q E => ∃ (a_v_self : Addr) (v_self : Folders) (v_name : Str) (v_word : Str) (F : Asn G), vs = [.ref a_v_self, (.str (v_name)), (.str (v_word))] ∧ Sep H ([FoldersA a_v_self v_self, F] : List (Asn G)) ∧ R.wp (m_Folders_unmark v_self v_name v_word) (fun r => ∀ H', Sep H' ([FoldersA a_v_self r, F] : List (Asn G)) → Q .non H') (fun x => ∀ H', Sep H' ([FoldersA a_v_self v_self, F] : List (Asn G)) → Eok G x E H')
abbrev N_Folders_unmark : List Str := ["self", "name", "word"]
theorem sc_Folders_unmark : FnScope N_Folders_unmark ["self", "name", "word"] (defScope s_Folders_unmark) := ⟨rfl, rfl, rfl, by decide +kernel, rfl, by decide +kernel, by decide +kernel⟩
theorem ok_Folders_unmark (T : Txt G mg) : FnOk P w G.K mg base (L2.CX P w) 3 T.a_Folders_unmark T.fd_Folders_unmark ["self", "name", "word"] (sp_Folders_unmark G) := by
  have nd := sc_Folders_unmark.nd
  refine Fun.okX T.F_Folders_unmark sc_Folders_unmark (fun vs H Q E h => ?_) (fun cdv A outer s H vs Q E hr h => ?_)
  · obtain ⟨a_v_self, v_self, v_name, v_word, F, rfl, _⟩ := h; rfl
  · obtain ⟨a_v_self, v_self, v_name, v_word, F, rfl, hS, hm⟩ := h
    refine ⟨_, (pss_cons (ps_expr (pe_meth (pv 0) T.cl_Folders T.m_Folders_need (ok_Folders_need T) (hr.mono (by decide)) T.b_Folders_need .nil (passes_call (takes_of rfl rfl rfl rfl) (fun _ _ _ _ h => h)) (pa_cons (pv 1) pa_nil)))
      (pss_cons (ps_expr (pe_meth (pv 0) T.cl_Folders T.m_Folders_shift (ok_Folders_shift T) (hr.mono (by decide)) T.b_Folders_shift .nil pass0 (pa_cons (pv 1) (pa_cons (pe_un un_neg pe_int) pa_nil))))
      (pss_cons (ps_expr (pe_dpop2 (pe_dget (hu_of hr) (pe_fld (pv 0) rfl) (pv 1) (fun _ _ => rfl)) (pv 2) pe_non m2))
      (pss_one (ps_expr (pe_meth (pv 0) T.cl_Folders T.m_Folders_shift (ok_Folders_shift T) (hr.mono (by decide)) T.b_Folders_shift .nil pass0 (pa_cons (pv 1) (pa_cons pe_int pa_nil)))))))), ?_⟩
    unfold m_Folders_unmark at hm
    have hS : Sep H (FoldersA a_v_self v_self :: [F] : List (Asn G)) := hS.sel [0, 1] (by decide) rfl
    obtain ⟨dx1, p2, p3, p4, p5, hS⟩ := open_Folders hS
    have hS : Sep H ([cell a_v_self (.ins (G.cl 2) dx1 [("boxes", (.ref p2)), ("tags", (.ref p3)), ("sums", (.ref p4)), ("tallies", (.ref p5))]), dictA p2 (v_self.boxes : (List (Str × Str))), dictE dictA p3 (v_self.tags : (List (Str × (List (Str × Bool))))), dictA p4 (v_self.sums : (List (Str × (Int × Int)))), dictT p5 (v_self.tallies : (List (Kt × Int))), F] : List (Asn G)) := hS
    refine f_seq ?_
    refine c_drop ?_
    refine c_meth ?_
    refine ev_to (ev_var rfl) ?_
    refine ⟨_, _, _, rfl, (hS.getCell (i := 0) rfl), rfl, ?_⟩
    refine ea_to (ea_cons (ev_var rfl) ea_nil) ?_
    have hS : Sep H (FoldersA a_v_self v_self :: [F] : List (Asn G)) := pack_Folders (hS.sel [0, 1, 2, 3, 4, 5] (by decide) rfl)
    refine ⟨a_v_self, (v_self : Folders), v_name, star [F], rfl, Sep.unstar (M := [FoldersA a_v_self v_self]) (hS.sel [0, 1] (by decide) rfl : Sep H (([FoldersA a_v_self v_self] ++ [F] : List (Asn G)))), R.wp_mono (R.wp_bind hm) (fun r6 hm H hS => ?_) (fun x hx H hS => ?_)⟩
    ·
      have hS : Sep H ([FoldersA a_v_self v_self, F] : List (Asn G)) := Sep.star (M := [FoldersA a_v_self v_self]) hS
      have hS : Sep H (FoldersA a_v_self v_self :: [F] : List (Asn G)) := hS.sel [0, 1] (by decide) rfl
      obtain ⟨dx7, p8, p9, p10, p11, hS⟩ := open_Folders hS
      have hS : Sep H ([cell a_v_self (.ins (G.cl 2) dx7 [("boxes", (.ref p8)), ("tags", (.ref p9)), ("sums", (.ref p10)), ("tallies", (.ref p11))]), dictA p8 (v_self.boxes : (List (Str × Str))), dictE dictA p9 (v_self.tags : (List (Str × (List (Str × Bool))))), dictA p10 (v_self.sums : (List (Str × (Int × Int)))), dictT p11 (v_self.tallies : (List (Kt × Int))), F] : List (Asn G)) := hS
      refine sq_nx ?_
      refine f_seq ?_
      refine c_drop ?_
      refine c_meth ?_
      refine ev_to (ev_var rfl) ?_
      refine ⟨_, _, _, rfl, (hS.getCell (i := 0) rfl), rfl, ?_⟩
      refine ea_to (ea_cons (ev_var rfl) (ea_cons (ev_un ev_c fun _ q => ⟨_, rfl, q⟩) ea_nil)) ?_
      have hS : Sep H (FoldersA a_v_self v_self :: [F] : List (Asn G)) := pack_Folders (hS.sel [0, 1, 2, 3, 4, 5] (by decide) rfl)
      refine ⟨a_v_self, (v_self : Folders), v_name, (-1), star [F], rfl, Sep.unstar (M := [FoldersA a_v_self v_self]) (hS.sel [0, 1] (by decide) rfl : Sep H (([FoldersA a_v_self v_self] ++ [F] : List (Asn G)))), R.wp_mono (R.wp_noexc hm) (fun r12 hm H hS => ?_) (fun _ z => z)⟩
      have hS : Sep H ([FoldersA a_v_self r12, F] : List (Asn G)) := Sep.star (M := [FoldersA a_v_self r12]) hS
      have hS : Sep H (FoldersA a_v_self r12 :: [F] : List (Asn G)) := hS.sel [0, 1] (by decide) rfl
      obtain ⟨dx13, p14, p15, p16, p17, hS⟩ := open_Folders hS
      have hS : Sep H ([cell a_v_self (.ins (G.cl 2) dx13 [("boxes", (.ref p14)), ("tags", (.ref p15)), ("sums", (.ref p16)), ("tallies", (.ref p17))]), dictA p14 (r12.boxes : (List (Str × Str))), dictE dictA p15 (r12.tags : (List (Str × (List (Str × Bool))))), dictA p16 (r12.sums : (List (Str × (Int × Int)))), dictT p17 (r12.tallies : (List (Kt × Int))), F] : List (Asn G)) := hS
      refine sq_nx ?_
      refine f_seq ?_
      refine c_drop ?_
      refine c_dpop2 ?_
      refine c_dget ?_
      refine ev_to (ev_fld (ev_var rfl) (hS.getCell (i := 0) rfl) T.cl_Folders T.n_Folders_tags rfl) ?_
      refine k_dget1 ?_
      refine ev_to (ev_var rfl) ?_
      obtain ⟨x18, h19, hm⟩ := wp_dgetX hm
      refine k_dgetE (y := (x18 : (List (Str × Bool)))) (hS.sel [2, 0, 1, 3, 4, 5] (by decide) rfl : Sep _ (dictE dictA p15 (r12.tags : (List (Str × (List (Str × Bool))))) :: [cell a_v_self (.ins (G.cl 2) dx13 [("boxes", (.ref p14)), ("tags", (.ref p15)), ("sums", (.ref p16)), ("tallies", (.ref p17))]), dictA p14 (r12.boxes : (List (Str × Str))), dictA p16 (r12.sums : (List (Str × (Int × Int)))), dictT p17 (r12.tallies : (List (Kt × Int))), F] : List (Asn G))) h19 fun ps20 p21 j22 hl23 hj24 hp25 hS => ?_
      have hS : Sep H ([dictA p21 (x18 : (List (Str × Bool))), dictXH id dictA p15 ps20 (r12.tags : (List (Str × (List (Str × Bool))))) j22, cell a_v_self (.ins (G.cl 2) dx13 [("boxes", (.ref p14)), ("tags", (.ref p15)), ("sums", (.ref p16)), ("tallies", (.ref p17))]), dictA p14 (r12.boxes : (List (Str × Str))), dictA p16 (r12.sums : (List (Str × (Int × Int)))), dictT p17 (r12.tallies : (List (Kt × Int))), F] : List (Asn G)) := hS
      refine k_pop2a (isD_of hS (i := 0) rfl) ?_
      refine ev_to (ev_var rfl) ?_
      refine k_pop2b ?_
      refine ev_to ev_c ?_
      refine k_pop2A (k := v_word) hS (i := 0) rfl rfl fun v26 H hS => ?_
      have hS : Sep H ([dictA p21 (ddrop x18 v_word : (List (Str × Bool))), dictXH id dictA p15 ps20 (r12.tags : (List (Str × (List (Str × Bool))))) j22, cell a_v_self (.ins (G.cl 2) dx13 [("boxes", (.ref p14)), ("tags", (.ref p15)), ("sums", (.ref p16)), ("tallies", (.ref p17))]), dictA p14 (r12.boxes : (List (Str × Str))), dictA p16 (r12.sums : (List (Str × (Int × Int)))), dictT p17 (r12.tallies : (List (Kt × Int))), F] : List (Asn G)) := hS
      have hS : Sep H ([dictE dictA p15 (dput r12.tags v_name (ddrop x18 v_word) : (List (Str × (List (Str × Bool))))), cell a_v_self (.ins (G.cl 2) dx13 [("boxes", (.ref p14)), ("tags", (.ref p15)), ("sums", (.ref p16)), ("tallies", (.ref p17))]), dictA p14 (r12.boxes : (List (Str × Str))), dictA p16 (r12.sums : (List (Str × (Int × Int)))), dictT p17 (r12.tallies : (List (Kt × Int))), F] : List (Asn G)) := unfocDE (z := (ddrop x18 v_word : (List (Str × Bool)))) hl23 hj24 hp25 (hS.sel [0, 1, 2, 3, 4, 5, 6] (by decide) rfl)
      refine sq_nx ?_
      refine c_drop ?_
      refine c_meth ?_
      refine ev_to (ev_var rfl) ?_
      refine ⟨_, _, _, rfl, (hS.getCell (i := 1) rfl), rfl, ?_⟩
      refine ea_to (ea_cons (ev_var rfl) (ea_cons ev_c ea_nil)) ?_
      have hS : Sep H (FoldersA a_v_self (⟨r12.boxes, dput r12.tags v_name (ddrop x18 v_word), r12.sums, r12.tallies⟩ : Folders) :: [F] : List (Asn G)) := pack_Folders (hS.sel [1, 2, 0, 3, 4, 5] (by decide) rfl)
      refine ⟨a_v_self, ((⟨r12.boxes, dput r12.tags v_name (ddrop x18 v_word), r12.sums, r12.tallies⟩ : Folders) : Folders), v_name, 1, star [F], rfl, Sep.unstar (M := [FoldersA a_v_self (⟨r12.boxes, dput r12.tags v_name (ddrop x18 v_word), r12.sums, r12.tallies⟩ : Folders)]) (hS.sel [0, 1] (by decide) rfl : Sep H (([FoldersA a_v_self (⟨r12.boxes, dput r12.tags v_name (ddrop x18 v_word), r12.sums, r12.tallies⟩ : Folders)] ++ [F] : List (Asn G)))), R.wp_mono (R.wp_noexc hm) (fun r27 hm H hS => ?_) (fun _ z => z)⟩
      have hS : Sep H ([FoldersA a_v_self r27, F] : List (Asn G)) := Sep.star (M := [FoldersA a_v_self r27]) hS
      have hS : Sep H (FoldersA a_v_self r27 :: [F] : List (Asn G)) := hS.sel [0, 1] (by decide) rfl
      obtain ⟨dx28, p29, p30, p31, p32, hS⟩ := open_Folders hS
      have hS : Sep H ([cell a_v_self (.ins (G.cl 2) dx28 [("boxes", (.ref p29)), ("tags", (.ref p30)), ("sums", (.ref p31)), ("tallies", (.ref p32))]), dictA p29 (r27.boxes : (List (Str × Str))), dictE dictA p30 (r27.tags : (List (Str × (List (Str × Bool))))), dictA p31 (r27.sums : (List (Str × (Int × Int)))), dictT p32 (r27.tallies : (List (Kt × Int))), F] : List (Asn G)) := hS
      have hS : Sep H (FoldersA a_v_self r27 :: [F] : List (Asn G)) := pack_Folders (hS.sel [0, 1, 2, 3, 4, 5] (by decide) rfl)
      exact hm _ (hS.sel [0, 1] (by decide) rfl)
    ·
      have hS : Sep H ([FoldersA a_v_self v_self, F] : List (Asn G)) := Sep.star (M := [FoldersA a_v_self v_self]) hS
      exact hx _ (hS.sel [0, 1] (by decide) rfl)
def sp_Folders_folder (G : Gx) : Sp := fun vs H Q E => ∃ (a_v_self : Addr) (v_self : Folders) (v_name : Str) (F : Asn G), vs = [.ref a_v_self, (.str (v_name))] ∧ Sep H ([FoldersA a_v_self v_self, F] : List (Asn G)) ∧ R.wp (m_Folders_folder v_self v_name) (fun r => ∀ H', Sep H' ([FoldersA a_v_self v_self, F] : List (Asn G)) → Q (.str (r)) H') (fun x => ∀ H', Sep H' ([FoldersA a_v_self v_self, F] : List (Asn G)) → Eok G x E H')
abbrev N_Folders_folder : List Str := ["self", "name"]
theorem sc_Folders_folder : FnScope N_Folders_folder ["self", "name"] (defScope s_Folders_folder) := ⟨rfl, rfl, rfl, by decide +kernel, rfl, by decide +kernel, by decide +kernel⟩
theorem ok_Folders_folder (T : Txt G mg) : FnOk P w G.K mg base (L2.CX P w) 2 T.a_Folders_folder T.fd_Folders_folder ["self", "name"] (sp_Folders_folder G) := by
  have nd := sc_Folders_folder.nd
  refine Fun.okX T.F_Folders_folder sc_Folders_folder (fun vs H Q E h => ?_) (fun cdv A outer s H vs Q E hr h => ?_)
  · obtain ⟨a_v_self, v_self, v_name, F, rfl, _⟩ := h; rfl
  · obtain ⟨a_v_self, v_self, v_name, F, rfl, hS, hm⟩ := h
    refine ⟨_, (pss_cons (ps_expr (pe_meth (pv 0) T.cl_Folders T.m_Folders_need (ok_Folders_need T) (hr.mono (by decide)) T.b_Folders_need .nil (passes_call (takes_of rfl rfl rfl rfl) (fun _ _ _ _ h => h)) (pa_cons (pv 1) pa_nil)))
      (pss_one (ps_ret (pe_dget (hu_of hr) (pe_fld (pv 0) rfl) (pv 1) (fun _ _ => rfl))))), ?_⟩
    unfold m_Folders_folder at hm
    have hS : Sep H (FoldersA a_v_self v_self :: [F] : List (Asn G)) := hS.sel [0, 1] (by decide) rfl
    obtain ⟨dx1, p2, p3, p4, p5, hS⟩ := open_Folders hS
    have hS : Sep H ([cell a_v_self (.ins (G.cl 2) dx1 [("boxes", (.ref p2)), ("tags", (.ref p3)), ("sums", (.ref p4)), ("tallies", (.ref p5))]), dictA p2 (v_self.boxes : (List (Str × Str))), dictE dictA p3 (v_self.tags : (List (Str × (List (Str × Bool))))), dictA p4 (v_self.sums : (List (Str × (Int × Int)))), dictT p5 (v_self.tallies : (List (Kt × Int))), F] : List (Asn G)) := hS
    refine f_seq ?_
    refine c_drop ?_
    refine c_meth ?_
    refine ev_to (ev_var rfl) ?_
    refine ⟨_, _, _, rfl, (hS.getCell (i := 0) rfl), rfl, ?_⟩
    refine ea_to (ea_cons (ev_var rfl) ea_nil) ?_
    have hS : Sep H (FoldersA a_v_self v_self :: [F] : List (Asn G)) := pack_Folders (hS.sel [0, 1, 2, 3, 4, 5] (by decide) rfl)
    refine ⟨a_v_self, (v_self : Folders), v_name, star [F], rfl, Sep.unstar (M := [FoldersA a_v_self v_self]) (hS.sel [0, 1] (by decide) rfl : Sep H (([FoldersA a_v_self v_self] ++ [F] : List (Asn G)))), R.wp_mono (R.wp_bind hm) (fun r6 hm H hS => ?_) (fun x hx H hS => ?_)⟩
    ·
      have hS : Sep H ([FoldersA a_v_self v_self, F] : List (Asn G)) := Sep.star (M := [FoldersA a_v_self v_self]) hS
      have hS : Sep H (FoldersA a_v_self v_self :: [F] : List (Asn G)) := hS.sel [0, 1] (by decide) rfl
      obtain ⟨dx7, p8, p9, p10, p11, hS⟩ := open_Folders hS
      have hS : Sep H ([cell a_v_self (.ins (G.cl 2) dx7 [("boxes", (.ref p8)), ("tags", (.ref p9)), ("sums", (.ref p10)), ("tallies", (.ref p11))]), dictA p8 (v_self.boxes : (List (Str × Str))), dictE dictA p9 (v_self.tags : (List (Str × (List (Str × Bool))))), dictA p10 (v_self.sums : (List (Str × (Int × Int)))), dictT p11 (v_self.tallies : (List (Kt × Int))), F] : List (Asn G)) := hS
      refine sq_nx ?_
      refine c_ret ?_
      obtain ⟨y12, hy12, hm⟩ := wp_dget hm
      obtain ⟨v13, g14, hv15⟩ := dget_some hS (i := 1) rfl hy12
      have hv15 : v13 = (.str (y12)) := hv15
      subst hv15
      refine ev_to (ev_dget (y := y12) hS (i := 1) rfl (ev_fld (ev_var rfl) (hS.getCell (i := 0) rfl) T.cl_Folders T.n_Folders_boxes rfl) (ev_var rfl) g14) ?_
      have hS : Sep H (FoldersA a_v_self v_self :: [F] : List (Asn G)) := pack_Folders (hS.sel [0, 1, 2, 3, 4, 5] (by decide) rfl)
      exact hm _ (hS.sel [0, 1] (by decide) rfl)
    ·
      have hS : Sep H ([FoldersA a_v_self v_self, F] : List (Asn G)) := Sep.star (M := [FoldersA a_v_self v_self]) hS
      exact hx _ (hS.sel [0, 1] (by decide) rfl)
def sp_Folders_marks (G : Gx) : Sp := fun vs H Q E => ∃ (a_v_self : Addr) (v_self : Folders) (v_name : Str) (F : Asn G), vs = [.ref a_v_self, (.str (v_name))] ∧ Sep H ([FoldersA a_v_self v_self, F] : List (Asn G)) ∧ R.wp (m_Folders_marks v_self v_name) (fun r => ∀ p H', Sep H' ([lstA p (r : (List Str)), FoldersA a_v_self v_self, F] : List (Asn G)) → Q (.ref p) H') (fun x => ∀ H', Sep H' ([FoldersA a_v_self v_self, F] : List (Asn G)) → Eok G x E H')
abbrev N_Folders_marks : List Str := ["self", "name"]
theorem sc_Folders_marks : FnScope N_Folders_marks ["self", "name"] (defScope s_Folders_marks) := ⟨rfl, rfl, rfl, by decide +kernel, rfl, by decide +kernel, by decide +kernel⟩
theorem ok_Folders_marks (T : Txt G mg) : FnOk P w G.K mg base (L2.CX P w) 2 T.a_Folders_marks T.fd_Folders_marks ["self", "name"] (sp_Folders_marks G) := by
  have nd := sc_Folders_marks.nd
  refine Fun.okX T.F_Folders_marks sc_Folders_marks (fun vs H Q E h => ?_) (fun cdv A outer s H vs Q E hr h => ?_)
  · obtain ⟨a_v_self, v_self, v_name, F, rfl, _⟩ := h; rfl
  · obtain ⟨a_v_self, v_self, v_name, F, rfl, hS, hm⟩ := h
    refine ⟨_, (pss_cons (ps_expr (pe_meth (pv 0) T.cl_Folders T.m_Folders_need (ok_Folders_need T) (hr.mono (by decide)) T.b_Folders_need .nil (passes_call (takes_of rfl rfl rfl rfl) (fun _ _ _ _ h => h)) (pa_cons (pv 1) pa_nil)))
      (pss_one (ps_ret (pe_fz (pe_callB (cr_sortD rfl) (by rfl) T.z_sorted (by decide +kernel) (pa_cons (pe_dget (hu_of hr) (pe_fld (pv 0) rfl) (pv 1) (fun _ _ => rfl)) pa_nil)))))), ?_⟩
    unfold m_Folders_marks at hm
    have hS : Sep H (FoldersA a_v_self v_self :: [F] : List (Asn G)) := hS.sel [0, 1] (by decide) rfl
    obtain ⟨dx1, p2, p3, p4, p5, hS⟩ := open_Folders hS
    have hS : Sep H ([cell a_v_self (.ins (G.cl 2) dx1 [("boxes", (.ref p2)), ("tags", (.ref p3)), ("sums", (.ref p4)), ("tallies", (.ref p5))]), dictA p2 (v_self.boxes : (List (Str × Str))), dictE dictA p3 (v_self.tags : (List (Str × (List (Str × Bool))))), dictA p4 (v_self.sums : (List (Str × (Int × Int)))), dictT p5 (v_self.tallies : (List (Kt × Int))), F] : List (Asn G)) := hS
    refine f_seq ?_
    refine c_drop ?_
    refine c_meth ?_
    refine ev_to (ev_var rfl) ?_
    refine ⟨_, _, _, rfl, (hS.getCell (i := 0) rfl), rfl, ?_⟩
    refine ea_to (ea_cons (ev_var rfl) ea_nil) ?_
    have hS : Sep H (FoldersA a_v_self v_self :: [F] : List (Asn G)) := pack_Folders (hS.sel [0, 1, 2, 3, 4, 5] (by decide) rfl)
    refine ⟨a_v_self, (v_self : Folders), v_name, star [F], rfl, Sep.unstar (M := [FoldersA a_v_self v_self]) (hS.sel [0, 1] (by decide) rfl : Sep H (([FoldersA a_v_self v_self] ++ [F] : List (Asn G)))), R.wp_mono (R.wp_bind hm) (fun r6 hm H hS => ?_) (fun x hx H hS => ?_)⟩
    ·
      have hS : Sep H ([FoldersA a_v_self v_self, F] : List (Asn G)) := Sep.star (M := [FoldersA a_v_self v_self]) hS
      have hS : Sep H (FoldersA a_v_self v_self :: [F] : List (Asn G)) := hS.sel [0, 1] (by decide) rfl
      obtain ⟨dx7, p8, p9, p10, p11, hS⟩ := open_Folders hS
      have hS : Sep H ([cell a_v_self (.ins (G.cl 2) dx7 [("boxes", (.ref p8)), ("tags", (.ref p9)), ("sums", (.ref p10)), ("tallies", (.ref p11))]), dictA p8 (v_self.boxes : (List (Str × Str))), dictE dictA p9 (v_self.tags : (List (Str × (List (Str × Bool))))), dictA p10 (v_self.sums : (List (Str × (Int × Int)))), dictT p11 (v_self.tallies : (List (Kt × Int))), F] : List (Asn G)) := hS
      refine sq_nx ?_
      refine c_ret ?_
      refine c_fz ?_
      refine c_cb ?_
      refine c_cons ?_
      refine c_dget ?_
      refine ev_to (ev_fld (ev_var rfl) (hS.getCell (i := 0) rfl) T.cl_Folders T.n_Folders_tags rfl) ?_
      refine k_dget1 ?_
      refine ev_to (ev_var rfl) ?_
      obtain ⟨x12, h13, hm⟩ := wp_dgetX hm
      refine k_dgetE (y := (x12 : (List (Str × Bool)))) (hS.sel [2, 0, 1, 3, 4, 5] (by decide) rfl : Sep _ (dictE dictA p9 (v_self.tags : (List (Str × (List (Str × Bool))))) :: [cell a_v_self (.ins (G.cl 2) dx7 [("boxes", (.ref p8)), ("tags", (.ref p9)), ("sums", (.ref p10)), ("tallies", (.ref p11))]), dictA p8 (v_self.boxes : (List (Str × Str))), dictA p10 (v_self.sums : (List (Str × (Int × Int)))), dictT p11 (v_self.tallies : (List (Kt × Int))), F] : List (Asn G))) h13 fun ps14 p15 j16 hl17 hj18 hp19 hS => ?_
      have hS : Sep H ([dictA p15 (x12 : (List (Str × Bool))), dictXH id dictA p9 ps14 (v_self.tags : (List (Str × (List (Str × Bool))))) j16, cell a_v_self (.ins (G.cl 2) dx7 [("boxes", (.ref p8)), ("tags", (.ref p9)), ("sums", (.ref p10)), ("tallies", (.ref p11))]), dictA p8 (v_self.boxes : (List (Str × Str))), dictA p10 (v_self.sums : (List (Str × (Int × Int)))), dictT p11 (v_self.tallies : (List (Kt × Int))), F] : List (Asn G)) := hS
      refine c_nil ?_
      obtain ⟨h21, hm⟩ := R.wp_need hm
      refine k_sortDA hS (i := 0) rfl h21 fun p20 H hS => ?_
      refine fz_no ?_
      have hS : Sep H ([dictE dictA p9 (v_self.tags : (List (Str × (List (Str × Bool))))), lstA p20 (sortT (x12.map (·.1)) : (List Str)), cell a_v_self (.ins (G.cl 2) dx7 [("boxes", (.ref p8)), ("tags", (.ref p9)), ("sums", (.ref p10)), ("tallies", (.ref p11))]), dictA p8 (v_self.boxes : (List (Str × Str))), dictA p10 (v_self.sums : (List (Str × (Int × Int)))), dictT p11 (v_self.tallies : (List (Kt × Int))), F] : List (Asn G)) := unfocDE0 hl17 hj18 hp19 (hS.sel [1, 2, 0, 3, 4, 5, 6, 7] (by decide) rfl)
      have hS : Sep H (FoldersA a_v_self v_self :: [lstA p20 (sortT (x12.map (·.1)) : (List Str)), F] : List (Asn G)) := pack_Folders (hS.sel [2, 3, 0, 4, 5, 1, 6] (by decide) rfl)
      exact hm _ _ (hS.sel [1, 0, 2] (by decide) rfl)
    ·
      have hS : Sep H ([FoldersA a_v_self v_self, F] : List (Asn G)) := Sep.star (M := [FoldersA a_v_self v_self]) hS
      exact hx _ (hS.sel [0, 1] (by decide) rfl)
def sp_Folders_counts (G : Gx) : Sp := fun vs H Q E => ∃ (a_v_self : Addr) (v_self : Folders) (v_folder : Str) (F : Asn G), vs = [.ref a_v_self, (.str (v_folder))] ∧ Sep H ([FoldersA a_v_self v_self, F] : List (Asn G)) ∧ R.wp (m_Folders_counts v_self v_folder) (fun r => ∀ (p : Addr) H', Sep H' ([imA (.ref p) (r : (Int × Int)), FoldersA a_v_self v_self, F] : List (Asn G)) → Q (.ref p) H') (fun _ => False)
abbrev N_Folders_counts : List Str := ["self", "folder"]
theorem sc_Folders_counts : FnScope N_Folders_counts ["self", "folder"] (defScope s_Folders_counts) := ⟨rfl, rfl, rfl, by decide +kernel, rfl, by decide +kernel, by decide +kernel⟩
theorem ok_Folders_counts (T : Txt G mg) : FnOk P w G.K mg base CX0 1 T.a_Folders_counts T.fd_Folders_counts ["self", "folder"] (sp_Folders_counts G) := by
  have nd := sc_Folders_counts.nd
  refine Fun.ok T.F_Folders_counts sc_Folders_counts (fun vs H Q E h => ?_) (fun cdv A outer s H vs Q E hr h => ?_)
  · obtain ⟨a_v_self, v_self, v_folder, F, rfl, _⟩ := h; rfl
  · obtain ⟨a_v_self, v_self, v_folder, F, rfl, hS, hm⟩ := h
    refine ⟨_, (pss_one (ps_ret (pe_dget2 (hu_of hr) (pe_fld (pv 0) rfl) (pv 1) (pe_tup (pa_cons pe_int (pa_cons pe_int pa_nil))) m2))), ?_⟩
    unfold m_Folders_counts at hm
    have hS : Sep H (FoldersA a_v_self v_self :: [F] : List (Asn G)) := hS.sel [0, 1] (by decide) rfl
    obtain ⟨dx1, p2, p3, p4, p5, hS⟩ := open_Folders hS
    have hS : Sep H ([cell a_v_self (.ins (G.cl 2) dx1 [("boxes", (.ref p2)), ("tags", (.ref p3)), ("sums", (.ref p4)), ("tallies", (.ref p5))]), dictA p2 (v_self.boxes : (List (Str × Str))), dictE dictA p3 (v_self.tags : (List (Str × (List (Str × Bool))))), dictA p4 (v_self.sums : (List (Str × (Int × Int)))), dictT p5 (v_self.tallies : (List (Kt × Int))), F] : List (Asn G)) := hS
    refine c_ret ?_
    refine c_dget2 ?_
    refine ev_to (ev_fld (ev_var rfl) (hS.getCell (i := 0) rfl) T.cl_Folders T.n_Folders_sums rfl) ?_
    refine k_get2a (isD_of hS (i := 3) rfl) ?_
    refine ev_to (ev_var rfl) ?_
    refine k_get2b ?_
    refine c_tup ?_
    refine ea_to (ea_cons ev_c (ea_cons ev_c ea_nil)) ?_
    refine k_tupP (x := ((0, 0) : (Int × Int))) hS (fun H' p h s => mk2 rfl rfl h s) (by show 2 ≤ sizeLine; decide) fun p6 H hS => ?_
    refine k_get2A (k := v_folder) (y := ((0, 0) : (Int × Int))) hS (i := 4) rfl (hS.im (i := 0) rfl) fun v8 hS => ?_
    obtain ⟨a10, rfl⟩ := isref (hS.im (i := 0) rfl)
    have hS : Sep H ([imA (.ref a10) ((dget v_self.sums v_folder).getD (0, 0) : (Int × Int)), imA (.ref p6) ((0, 0) : (Int × Int)), cell a_v_self (.ins (G.cl 2) dx1 [("boxes", (.ref p2)), ("tags", (.ref p3)), ("sums", (.ref p4)), ("tallies", (.ref p5))]), dictA p2 (v_self.boxes : (List (Str × Str))), dictE dictA p3 (v_self.tags : (List (Str × (List (Str × Bool))))), dictA p4 (v_self.sums : (List (Str × (Int × Int)))), dictT p5 (v_self.tallies : (List (Kt × Int))), F] : List (Asn G)) := hS
    have hS : Sep H (FoldersA a_v_self v_self :: [imA (.ref a10) ((dget v_self.sums v_folder).getD (0, 0) : (Int × Int)), imA (.ref p6) ((0, 0) : (Int × Int)), F] : List (Asn G)) := pack_Folders (hS.sel [2, 3, 4, 5, 6, 0, 1, 7] (by decide) rfl)
    exact hm _ _ (hS.sel [1, 0, 3] (by decide) rfl)
def sp_Folders_marked (G : Gx) : Sp := fun vs H Q E => ∃ (a_v_self : Addr) (v_self : Folders) (v_folder : Str) (v_word : Str) (F : Asn G), vs = [.ref a_v_self, (.str (v_folder)), (.str (v_word))] ∧ Sep H ([FoldersA a_v_self v_self, F] : List (Asn G)) ∧ R.wp (m_Folders_marked v_self v_folder v_word) (fun r => ∀ H', Sep H' ([FoldersA a_v_self v_self, F] : List (Asn G)) → Q (.int (r)) H') (fun _ => False)
abbrev N_Folders_marked : List Str := ["self", "folder", "word"]
theorem sc_Folders_marked : FnScope N_Folders_marked ["self", "folder", "word"] (defScope s_Folders_marked) := ⟨rfl, rfl, rfl, by decide +kernel, rfl, by decide +kernel, by decide +kernel⟩
theorem ok_Folders_marked (T : Txt G mg) : FnOk P w G.K mg base CX0 1 T.a_Folders_marked T.fd_Folders_marked ["self", "folder", "word"] (sp_Folders_marked G) := by
  have nd := sc_Folders_marked.nd
  refine Fun.ok T.F_Folders_marked sc_Folders_marked (fun vs H Q E h => ?_) (fun cdv A outer s H vs Q E hr h => ?_)
  · obtain ⟨a_v_self, v_self, v_folder, v_word, F, rfl, _⟩ := h; rfl
  · obtain ⟨a_v_self, v_self, v_folder, v_word, F, rfl, hS, hm⟩ := h
    refine ⟨_, (pss_one (ps_ret (pe_dget2 (hu_of hr) (pe_fld (pv 0) rfl) (pe_tup (pa_cons (pv 1) (pa_cons (pv 2) pa_nil))) pe_int m2))), ?_⟩
    unfold m_Folders_marked at hm
    have hS : Sep H (FoldersA a_v_self v_self :: [F] : List (Asn G)) := hS.sel [0, 1] (by decide) rfl
    obtain ⟨dx1, p2, p3, p4, p5, hS⟩ := open_Folders hS
    have hS : Sep H ([cell a_v_self (.ins (G.cl 2) dx1 [("boxes", (.ref p2)), ("tags", (.ref p3)), ("sums", (.ref p4)), ("tallies", (.ref p5))]), dictA p2 (v_self.boxes : (List (Str × Str))), dictE dictA p3 (v_self.tags : (List (Str × (List (Str × Bool))))), dictA p4 (v_self.sums : (List (Str × (Int × Int)))), dictT p5 (v_self.tallies : (List (Kt × Int))), F] : List (Asn G)) := hS
    refine c_ret ?_
    refine c_dget2 ?_
    refine ev_to (ev_fld (ev_var rfl) (hS.getCell (i := 0) rfl) T.cl_Folders T.n_Folders_tallies rfl) ?_
    refine k_get2a (isD_T hS (i := 4) rfl) ?_
    refine c_tup ?_
    refine ea_to (ea_cons (ev_var rfl) (ea_cons (ev_var rfl) ea_nil)) ?_
    refine k_tupKt (xs := [v_folder, v_word]) hS (by show 2 ≤ sizeLine; decide) fun p6 H hS => ?_
    refine k_get2b ?_
    refine ev_to ev_c ?_
    refine k_get2T (y := (0 : Int)) hS (i := 5) rfl (hS.im (i := 0) rfl) rfl fun v8 hS => ?_
    obtain rfl : v8 = (.int ((dget v_self.tallies (⟨[v_folder, v_word]⟩ : Kt)).getD 0)) := hS.im (i := 0) rfl
    have hS := hS.tail
    have hS : Sep H ([imA (.ref p6) ((⟨[v_folder, v_word]⟩ : Kt) : Kt), cell a_v_self (.ins (G.cl 2) dx1 [("boxes", (.ref p2)), ("tags", (.ref p3)), ("sums", (.ref p4)), ("tallies", (.ref p5))]), dictA p2 (v_self.boxes : (List (Str × Str))), dictE dictA p3 (v_self.tags : (List (Str × (List (Str × Bool))))), dictA p4 (v_self.sums : (List (Str × (Int × Int)))), dictT p5 (v_self.tallies : (List (Kt × Int))), F] : List (Asn G)) := hS
    have hS : Sep H (FoldersA a_v_self v_self :: [imA (.ref p6) ((⟨[v_folder, v_word]⟩ : Kt) : Kt), F] : List (Asn G)) := pack_Folders (hS.sel [1, 2, 3, 4, 5, 0, 6] (by decide) rfl)
    exact hm _ (hS.sel [0, 2] (by decide) rfl)
def sp_Folders_names (G : Gx) : Sp := fun vs H Q E => ∃ (a_v_self : Addr) (v_self : Folders) (v_folder : Str) (F : Asn G), vs = [.ref a_v_self, (.str (v_folder))] ∧ Sep H ([FoldersA a_v_self v_self, F] : List (Asn G)) ∧ R.wp (m_Folders_names v_self v_folder) (fun r => ∀ p H', Sep H' ([lstA p (r : (List Str)), FoldersA a_v_self v_self, F] : List (Asn G)) → Q (.ref p) H') (fun _ => False)
abbrev N_Folders_names : List Str := ["self", "folder", "name", "box"]
theorem sc_Folders_names : FnScope N_Folders_names ["self", "folder"] (defScope s_Folders_names) := ⟨rfl, rfl, rfl, by decide +kernel, rfl, by decide +kernel, by decide +kernel⟩
theorem ok_Folders_names (T : Txt G mg) : FnOk P w G.K mg base CX0 1 T.a_Folders_names T.fd_Folders_names ["self", "folder"] (sp_Folders_names G) := by
  have nd := sc_Folders_names.nd
  refine Fun.ok T.F_Folders_names sc_Folders_names (fun vs H Q E h => ?_) (fun cdv A outer s H vs Q E hr h => ?_)
  · obtain ⟨a_v_self, v_self, v_folder, F, rfl, _⟩ := h; rfl
  · obtain ⟨a_v_self, v_self, v_folder, F, rfl, hS, hm⟩ := h
    refine ⟨_, (pss_one (ps_ret (pe_fz (pe_callB (sortedSK G.K) (by rfl) T.z_sorted (by decide +kernel) (pa_cons (pe_fz (pe_lock (pe_lc (own := [("name", 2), ("box", 3)]) rfl nd (pi_items (pe_fld (pv 0) rfl)) (blkOk_by (own := [("name", 2), ("box", 3)]) (N := N_Folders_names) (sc := defScope s_Folders_names) (by decide +kernel)) (fun _ _ _ _ _ => (pg_tupK (n := 2) G.K rfl rfl (pgs_cons (pg_name (i := 2) nd rfl (Or.inl rfl)) (pgs_cons (pg_name (i := 3) nd rfl (Or.inl rfl)) pgs_nil)))) (fun _ _ _ _ _ => pts_one (pt_cmpR op_eq (pv 3) (pv 1) (nomark _))) (fun _ _ _ _ _ => (pv 2))))) pa_nil))))), ?_⟩
    unfold m_Folders_names at hm
    have hS : Sep H (FoldersA a_v_self v_self :: [F] : List (Asn G)) := hS.sel [0, 1] (by decide) rfl
    obtain ⟨dx1, p2, p3, p4, p5, hS⟩ := open_Folders hS
    have hS : Sep H ([cell a_v_self (.ins (G.cl 2) dx1 [("boxes", (.ref p2)), ("tags", (.ref p3)), ("sums", (.ref p4)), ("tallies", (.ref p5))]), dictA p2 (v_self.boxes : (List (Str × Str))), dictE dictA p3 (v_self.tags : (List (Str × (List (Str × Bool))))), dictA p4 (v_self.sums : (List (Str × (Int × Int)))), dictT p5 (v_self.tallies : (List (Kt × Int))), F] : List (Asn G)) := hS
    refine c_ret ?_
    refine c_fz ?_
    refine c_cb ?_
    refine c_cons ?_
    refine c_fz ?_
    refine k_lockA hS (i := 1) rfl fun od6 ps7 H hS => ?_
    have hS : Sep H ([cell a_v_self (.ins (G.cl 2) dx1 [("boxes", (.ref p2)), ("tags", (.ref p3)), ("sums", (.ref p4)), ("tallies", (.ref p5))]), lockA p2 od6 ps7 (v_self.boxes : (List (Str × Str))), dictE dictA p3 (v_self.tags : (List (Str × (List (Str × Bool))))), dictA p4 (v_self.sums : (List (Str × (Int × Int)))), dictT p5 (v_self.tallies : (List (Kt × Int))), F] : List (Asn G)) := hS
    refine c_lc ?_
    refine c_items ?_
    refine ev_to (ev_fld (ev_var rfl) (hS.getCell (i := 0) rfl) T.cl_Folders T.n_Folders_boxes rfl) ?_
    refine k_itemsA (hS.lockA (i := 1) rfl).1 ?_
    obtain ⟨h8, hm⟩ := R.wp_need hm
    refine lc_sepG (β := Str) (fun (_ : Unit) => ([cell a_v_self (.ins (G.cl 2) dx1 [("boxes", (.ref p2)), ("tags", (.ref p3)), ("sums", (.ref p4)), ("tallies", (.ref p5))]), lockA p2 od6 ps7 (v_self.boxes : (List (Str × Str))), dictE dictA p3 (v_self.tags : (List (Str × (List (Str × Bool))))), dictA p4 (v_self.sums : (List (Str × (Int × Int)))), dictT p5 (v_self.tallies : (List (Kt × Int))), F] : List (Asn G))) (s := ()) (im := (Im.im G)) hS (fun _ _ _ => wk_itemsA (fun _ _ h => h.lockA (i := 2) rfl) (fun _ _ _ h s => h.more s)) h8 hm (fun p9 _ ys12 x10 v11 H q Nx hS hx hm kS kN => ?_) (fun p9 t H hm hS => ?_)
    ·
      obtain ⟨a13, rfl⟩ := isref hx
      have hS := hS.addIm (v := (.ref a13)) (x := (x10 : (Str × Str))) hx
      obtain ⟨u15, u16, hT19, h17, h18⟩ := im2 (hS.im (i := 0) rfl)
      obtain rfl : u15 = (.str (x10.1)) := h17
      obtain rfl : u16 = (.str (x10.2)) := h18
      refine k_gT hT19 rfl ?_
      refine k_gC (σ' := [some (.ref a_v_self), some (.str (v_folder)), some (.str (x10.1)), none]) rfl ?_
      refine k_gC (σ' := [some (.ref a_v_self), some (.str (v_folder)), some (.str (x10.1)), some (.str (x10.2))]) rfl ?_
      refine k_gE ?_
      refine c_gLT (σ' := [some (.ref a_v_self), some (.str (v_folder)), some (.str (x10.1)), some (.str (x10.2))]) rfl ?_
      refine et_to (et_test (ev_eqS (ev_var rfl) (ev_var rfl))) ?_
      refine lc_if (fun hb20 => ?_) (fun hb20 => ?_)
      · have hm := R.wp_ifY hm hb20
        refine ev_to (ev_var rfl) ?_
        exact kS () _ _ _ hm rfl (hS.sel [1, 2, 3, 4, 5, 6, 7] (by decide) rfl)
      · have hm := R.wp_ifN hm (by first | (rw [hb20]; decide) | simpa using hb20)
        exact kN () _ hm (hS.sel [1, 2, 3, 4, 5, 6, 7] (by decide) rfl)
    · revert hm hS; generalize t = t21; intro hm hS
      refine k_unlA hS (i := 2) rfl fun H hS => ?_
      have hS : Sep H ([lstA p9 (t21.2 : (List Str)), cell a_v_self (.ins (G.cl 2) dx1 [("boxes", (.ref p2)), ("tags", (.ref p3)), ("sums", (.ref p4)), ("tallies", (.ref p5))]), dictA p2 (v_self.boxes : (List (Str × Str))), dictE dictA p3 (v_self.tags : (List (Str × (List (Str × Bool))))), dictA p4 (v_self.sums : (List (Str × (Int × Int)))), dictT p5 (v_self.tallies : (List (Kt × Int))), F] : List (Asn G)) := hS
      refine fz_no ?_
      refine c_nil ?_
      obtain ⟨h23, hm⟩ := R.wp_need hm
      refine k_sorted hS (hS.sqF (i := 0) rfl) h23 fun p22 H hS => ?_
      refine fz_no ?_
      have hS : Sep H (FoldersA a_v_self v_self :: [lstA p22 (sortT t21.2 : (List Str)), lstA p9 (t21.2 : (List Str)), F] : List (Asn G)) := pack_Folders (hS.sel [2, 3, 4, 5, 6, 0, 1, 7] (by decide) rfl)
      exact hm _ _ (hS.sel [1, 0, 3] (by decide) rfl)
def sp_Folders_folders (G : Gx) : Sp := fun vs H Q E => ∃ (a_v_self : Addr) (v_self : Folders) (F : Asn G), vs = [.ref a_v_self] ∧ Sep H ([FoldersA a_v_self v_self, F] : List (Asn G)) ∧ R.wp (m_Folders_folders v_self) (fun r => ∀ p H', Sep H' ([lstA p (r : (List (T3 Str Int Int))), FoldersA a_v_self v_self, F] : List (Asn G)) → Q (.ref p) H') (fun _ => False)
abbrev N_Folders_folders : List Str := ["self", "box"]
theorem sc_Folders_folders : FnScope N_Folders_folders ["self"] (defScope s_Folders_folders) := ⟨rfl, rfl, rfl, by decide +kernel, rfl, by decide +kernel, by decide +kernel⟩
theorem ok_Folders_folders (T : Txt G mg) : FnOk P w G.K mg base CX0 1 T.a_Folders_folders T.fd_Folders_folders ["self"] (sp_Folders_folders G) := by
  have nd := sc_Folders_folders.nd
  refine Fun.ok T.F_Folders_folders sc_Folders_folders (fun vs H Q E h => ?_) (fun cdv A outer s H vs Q E hr h => ?_)
  · obtain ⟨a_v_self, v_self, F, rfl, _⟩ := h; rfl
  · obtain ⟨a_v_self, v_self, F, rfl, hS, hm⟩ := h
    refine ⟨_, (pss_one (ps_ret (pe_fz (pe_lc (own := [("box", 1)]) (g := gName 1) rfl nd (pi_listK G.K (pe_fz (pe_callB (cr_sortD rfl) (by rfl) T.z_sorted (by decide +kernel) (pa_cons (pe_fld (pv 0) rfl) pa_nil)))) (blkOk_by (own := [("box", 1)]) (N := N_Folders_folders) (sc := defScope s_Folders_folders) (by decide +kernel)) (fun _ _ _ _ _ => pg_name (i := 1) nd rfl (Or.inl rfl)) (fun _ _ _ _ _ => pts_nil) (fun _ _ _ _ _ => (pe_tup (pa_cons (pv 1) (pa_cons (pe_ix (ix_tupK G.K) (pe_dget (hu_of hr) (pe_fldK G.K (pv 0)) (pv 1) (fun _ _ => rfl)) pe_int (fun _ _ => rfl)) (pa_cons (pe_ix (ix_tupK G.K) (pe_dget (hu_of hr) (pe_fldK G.K (pv 0)) (pv 1) (fun _ _ => rfl)) pe_int (fun _ _ => rfl)) pa_nil))))))))), ?_⟩
    unfold m_Folders_folders at hm
    have hS : Sep H (FoldersA a_v_self v_self :: [F] : List (Asn G)) := hS.sel [0, 1] (by decide) rfl
    obtain ⟨dx1, p2, p3, p4, p5, hS⟩ := open_Folders hS
    have hS : Sep H ([cell a_v_self (.ins (G.cl 2) dx1 [("boxes", (.ref p2)), ("tags", (.ref p3)), ("sums", (.ref p4)), ("tallies", (.ref p5))]), dictA p2 (v_self.boxes : (List (Str × Str))), dictE dictA p3 (v_self.tags : (List (Str × (List (Str × Bool))))), dictA p4 (v_self.sums : (List (Str × (Int × Int)))), dictT p5 (v_self.tallies : (List (Kt × Int))), F] : List (Asn G)) := hS
    refine c_ret ?_
    refine c_fz ?_
    refine c_lc ?_
    refine c_il ?_
    refine c_fz ?_
    refine c_cb ?_
    refine ea_to (ea_cons (ev_fld (ev_var rfl) (hS.getCell (i := 0) rfl) T.cl_Folders T.n_Folders_sums rfl) ea_nil) ?_
    obtain ⟨h7, hm⟩ := R.wp_need hm
    refine k_sortDA hS (i := 3) rfl h7 fun p6 H hS => ?_
    refine fz_no ?_
    refine k_il hS (i := 0) rfl ?_
    obtain ⟨h8, hm⟩ := R.wp_need hm
    refine lc_sep (β := (T3 Str Int Int)) (fun (_ : Unit) => ([lstA p6 (sortT (v_self.sums.map (·.1)) : (List Str)), cell a_v_self (.ins (G.cl 2) dx1 [("boxes", (.ref p2)), ("tags", (.ref p3)), ("sums", (.ref p4)), ("tallies", (.ref p5))]), dictA p2 (v_self.boxes : (List (Str × Str))), dictE dictA p3 (v_self.tags : (List (Str × (List (Str × Bool))))), dictA p4 (v_self.sums : (List (Str × (Int × Int)))), dictT p5 (v_self.tallies : (List (Kt × Int))), F] : List (Asn G))) (s := ()) (im := (Im.im G)) hS (fun _ _ _ => wk_list fun _ _ h => h.sq (i := 1) rfl) h8 hm (fun p9 _ ys12 x10 v11 H q Nx hS hx hm kS kN => ?_) (fun p9 t H hm hS => ?_)
    ·
      cases hx
      refine c_gLc (σ' := [some (.ref a_v_self), some (.str (x10))]) rfl rfl ?_
      refine c_yes ?_
      refine c_tup ?_
      obtain ⟨y13, hy13, hm⟩ := wp_dget hm
      obtain ⟨v14, g15, hv16⟩ := dget_some hS (i := 5) rfl hy13
      obtain ⟨a17, rfl⟩ := isref hv16
      obtain ⟨u18, u19, hT22, h20, h21⟩ := im2 hv16
      obtain rfl : u18 = (.int (y13.1)) := h20
      obtain rfl : u19 = (.int (y13.2)) := h21
      obtain ⟨y23, hy23, hm⟩ := wp_dget hm
      obtain ⟨v24, g25, hv26⟩ := dget_some hS (i := 5) rfl hy23
      obtain ⟨a27, rfl⟩ := isref hv26
      obtain ⟨u28, u29, hT32, h30, h31⟩ := im2 hv26
      obtain rfl : u28 = (.int (y23.1)) := h30
      obtain rfl : u29 = (.int (y23.2)) := h31
      refine ea_to (ea_cons (ev_var rfl) (ea_cons (ev_ixT (ev_dget (y := y13) hS (i := 5) rfl (ev_fld (ev_var rfl) (hS.getCell (i := 2) rfl) T.cl_Folders T.n_Folders_sums rfl) (ev_var rfl) g15) ev_c hT22 rfl) (ea_cons (ev_ixT (ev_dget (y := y23) hS (i := 5) rfl (ev_fld (ev_var rfl) (hS.getCell (i := 2) rfl) T.cl_Folders T.n_Folders_sums rfl) (ev_var rfl) g25) ev_c hT32 rfl) ea_nil))) ?_
      refine k_tupP (x := ((⟨x10, y13.1, y23.2⟩ : T3 _ _ _) : (T3 Str Int Int))) hS (fun H' p h s => mk3 rfl rfl rfl h s) (by show 3 ≤ sizeLine; decide) fun p33 H hS => ?_
      exact kS () _ _ _ hm (hS.im (i := 0) rfl) (hS.sel [1, 2, 3, 4, 5, 6, 7, 8] (by decide) rfl)
    · revert hm hS; generalize t = t35; intro hm hS
      refine fz_no ?_
      have hS : Sep H (FoldersA a_v_self v_self :: [lstA p9 (t35.2 : (List (T3 Str Int Int))), lstA p6 (sortT (v_self.sums.map (·.1)) : (List Str)), F] : List (Asn G)) := pack_Folders (hS.sel [2, 3, 4, 5, 6, 0, 1, 7] (by decide) rfl)
      exact hm _ _ (hS.sel [1, 0, 3] (by decide) rfl)
def sp_law_row (G : Gx) : Sp := fun vs H Q E => ∃ (a_v_law_script : V) (v_law_script : Script) (v_law_many : Int) (F : Asn G), vs = [a_v_law_script, (.int (v_law_many))] ∧ Im.im G H a_v_law_script v_law_script ∧ Sep H ([F] : List (Asn G)) ∧ R.wp (m_law_row v_law_script v_law_many) (fun r => ∀ p H', Sep H' ([lstA p (r : (List Int)), F] : List (Asn G)) → Q (.ref p) H') (fun _ => False)
abbrev N_law_row : List Str := ["_law_script", "_law_many", "_law_found", "_law_more", "_law_k", "_law_cell"]
theorem sc_law_row : FnScope N_law_row ["_law_script", "_law_many"] (defScope s_law_row) := ⟨rfl, rfl, rfl, by decide +kernel, rfl, by decide +kernel, by decide +kernel⟩
theorem ok_law_row (T : Txt G mg) : FnOk P w G.K mg base CX0 1 T.a_law_row T.fd_law_row ["_law_script", "_law_many"] (sp_law_row G) := by
  have nd := sc_law_row.nd
  refine Fun.ok T.F_law_row sc_law_row (fun vs H Q E h => ?_) (fun cdv A outer s H vs Q E hr h => ?_)
  · obtain ⟨a_v_law_script, v_law_script, v_law_many, F, rfl, _⟩ := h; rfl
  · obtain ⟨a_v_law_script, v_law_script, v_law_many, F, rfl, him_v_law_script, hS, hm⟩ := h
    obtain ⟨ad_v_law_script, rfl, _⟩ := im_script him_v_law_script
    have hS := hS.addIm him_v_law_script
    refine ⟨_, (pss_cons (ps_set (i := 2) nd rfl (Or.inl rfl) (pe_fz (pe_lst pa_nil)))
      (pss_cons (ps_set (i := 3) nd rfl (Or.inl rfl) pe_int)
      (pss_cons (ps_for PassesOwn.never rfl (pi_range1 rfl T.z_range (pa_cons (pv 1) pa_nil)) (pg_name (i := 4) nd rfl (Or.inl rfl)) (pss_cons (ps_set (i := 5) nd rfl (Or.inl rfl) pe_int)
      (pss_cons (ps_if (pt_cmpR op_gt (pe_callB (lenSqK G.K) (by rfl) T.z_len PySem.boot_len (pa_cons (pv 0) pa_nil)) pe_int (nomark _)) (pss_one (ps_set (i := 5) nd rfl (Or.inl rfl) (pe_ix (ix_listK G.K) (pv 0) (pe_op op_mod (pv 4) (pe_callB (lenSqK G.K) (by rfl) T.z_len PySem.boot_len (pa_cons (pv 0) pa_nil))) (fun _ _ => rfl)))) pss_nil)
      (pss_cons (ps_set (i := 3) nd rfl (Or.inl rfl) (pe_op op_mod (pe_op op_add (pe_op op_add (pe_op op_mul (pv 3) pe_int) (pv 5)) (pv 4)) pe_int))
      (pss_one (ps_expr (pe_bmK G.K PySem.F.plainAttrs_list PySem.F.slot_list_append PySem.F.type_list_append mt_append (pe_fz (pv 2)) (pa_cons (pe_op op_mod (pe_op op_add (pe_op op_mul (pv 3) (pv 3)) (pe_op op_mul pe_int (pv 3))) pe_int) pa_nil))))))))
      (pss_one (ps_ret (pe_fz (pv 2))))))), ?_⟩
    unfold m_law_row at hm
    refine f_seq ?_
    refine c_asg ?_
    refine c_fz ?_
    refine c_lst ?_
    refine ea_to ea_nil ?_
    refine k_lst (α := Int) (vs := []) (xs := ([] : (List Int))) hS True.intro (by show 0 ≤ sizeLine; decide) fun p1 H hS => ?_
    refine fz_no ?_
    refine c_set (σ' := [some (.ref ad_v_law_script), some (.int (v_law_many)), some (.ref p1), none, none, none]) rfl ?_
    refine sq_nx ?_
    refine f_seq ?_
    refine c_asg ?_
    refine ev_to ev_c ?_
    refine c_set (σ' := [some (.ref ad_v_law_script), some (.int (v_law_many)), some (.ref p1), some (.int (7)), none, none]) rfl ?_
    refine sq_nx ?_
    refine f_seq ?_
    refine c_for ?_
    refine c_rng1 ?_
    refine ea_to (ea_cons (ev_var rfl) ea_nil) ?_
    obtain ⟨h2, hm⟩ := R.wp_need hm
    refine k_rng1 h2.1 h2.2 ?_
    refine k_for (τ := (List Int) × Int) (fun (s3 : (List Int) × Int) (σ : L2.St) (H : Hp) => ∃ (w6 w7 : Option V), σ = [some (.ref ad_v_law_script), some (.int (v_law_many)), some (.ref p1), some (.int (s3.2)), w6, w7] ∧ Sep H ([lstA p1 (s3.1 : (List Int)), imA (.ref ad_v_law_script) v_law_script, F] : List (Asn G))) (im := (fun _ v (x : Int) => v = .int x)) (s := (([] : (List Int)), 7)) (fun _ => wk_range) ⟨_, _, rfl, hS.sel [0, 1, 2] (by decide) rfl⟩ hm (fun s3 x4 v5 σ H q N hI hx hm nx => ?_) (fun s3 σ H hm hI => ?_)
    ·
      obtain ⟨w6, w7, rfl, hS⟩ := hI
      cases hx
      refine c_gN (σ' := [some (.ref ad_v_law_script), some (.int (v_law_many)), some (.ref p1), some (.int (s3.2)), some (.int (x4)), w7]) rfl ?_
      refine f_seq ?_
      refine c_asg ?_
      refine ev_to ev_c ?_
      refine c_set (σ' := [some (.ref ad_v_law_script), some (.int (v_law_many)), some (.ref p1), some (.int (s3.2)), some (.int (x4)), some (.int (0))]) rfl ?_
      refine sq_nx ?_
      refine f_seq ?_
      refine f_if ?_
      refine et_to (et_test (ev_i0 (ev_lenLm (ev_var rfl) (sq_script (hS.im (i := 1) rfl))) ev_c)) ?_
      refine ifK_J (τ := Int) (fun (s8 : Int) (σ : L2.St) (H : Hp) => σ = [some (.ref ad_v_law_script), some (.int (v_law_many)), some (.ref p1), some (.int (s3.2)), some (.int (x4)), some (.int (s8))] ∧ Sep H ([lstA p1 (s3.1 : (List Int)), imA (.ref ad_v_law_script) v_law_script, F] : List (Asn G))) hm (fun hb q hm nx => ?_) (fun hb q hm nx => ?_) (fun s8 σ H hm hI => ?_)
      ·
        refine c_asg ?_
        obtain ⟨h9, hm⟩ := R.wp_need hm
        obtain ⟨x10, hx10, hm⟩ := wp_idx hm
        refine ev_to (ev_ixSq (ev_var rfl) (ev_mod (ev_var rfl) (ev_lenLm (ev_var rfl) (sq_script (hS.im (i := 1) rfl))) h9) (sq_script (hS.im (i := 1) rfl)) (atI_map hx10)) ?_
        refine c_set (σ' := [some (.ref ad_v_law_script), some (.int (v_law_many)), some (.ref p1), some (.int (s3.2)), some (.int (x4)), some (.int (x10))]) rfl ?_
        exact nx _ _ _ hm ⟨rfl, hS.sel [0, 1, 2] (by decide) rfl⟩
      ·
        refine st_nx ?_
        exact nx _ _ _ hm ⟨rfl, hS.sel [0, 1, 2] (by decide) rfl⟩
      · obtain ⟨rfl, hS⟩ := hI
        refine sq_nx ?_
        refine f_seq ?_
        refine c_asg ?_
        refine ev_to (ev_mod (ev_add (ev_add (ev_mul (ev_var rfl) ev_c (.inr (by constructor <;> decide))) (ev_var rfl)) (ev_var rfl)) ev_c (by decide)) ?_
        obtain ⟨y11, hy11, hm⟩ := wp_let hm
        refine n_is (w := (.int (y11))) (by first | rw [hy11] | (subst hy11; rfl)) ?_
        refine c_set (σ' := [some (.ref ad_v_law_script), some (.int (v_law_many)), some (.ref p1), some (.int (y11)), some (.int (x4)), some (.int (s8))]) rfl ?_
        refine sq_nx ?_
        refine c_drop ?_
        refine c_bm ?_
        refine ev_to (ev_fz (ev_var rfl)) ⟨tyL hS (i := 0) rfl, ?_⟩
        obtain ⟨h12, hm⟩ := R.wp_need hm
        refine ea_to (ea_cons (ev_mod (ev_add (ev_mul (ev_var rfl) (ev_var rfl) h12) (ev_mul ev_c (ev_var rfl) (.inl (by constructor <;> decide)))) ev_c (by decide)) ea_nil) ?_
        obtain ⟨h13, hm⟩ := R.wp_need hm
        refine k_append (x := ((y11 * y11) + (16807 * y11)) % 2147483629) hS (i := 0) rfl rfl h13 rfl fun H hS => ?_
        exact nx _ _ _ hm ⟨_, _, rfl, hS.sel [0, 1, 2] (by decide) rfl⟩
    · obtain ⟨w6, w7, rfl, hS⟩ := hI
      refine sq_nx ?_
      refine c_ret ?_
      refine ev_to (ev_fz (ev_var rfl)) ?_
      exact hm _ _ (hS.sel [0, 2] (by decide) rfl)
def sp_law_word (G : Gx) : Sp := fun vs H Q E => ∃ (v_law_base : Int) (v_law_turn : Int) (F : Asn G), vs = [(.int (v_law_base)), (.int (v_law_turn))] ∧ Sep H ([F] : List (Asn G)) ∧ R.wp (m_law_word v_law_base v_law_turn) (fun r => ∀ H', Sep H' ([F] : List (Asn G)) → Q (.str (r)) H') (fun _ => False)
abbrev N_law_word : List Str := ["_law_base", "_law_turn", "_law_some_here", "_law_k", "_law_signs", "_law_size", "_law_at"]
theorem sc_law_word : FnScope N_law_word ["_law_base", "_law_turn"] (defScope s_law_word) := ⟨rfl, rfl, rfl, by decide +kernel, rfl, by decide +kernel, by decide +kernel⟩
theorem ok_law_word (T : Txt G mg) : FnOk P w G.K mg base CX0 1 T.a_law_word T.fd_law_word ["_law_base", "_law_turn"] (sp_law_word G) := by
  have nd := sc_law_word.nd
  refine Fun.ok T.F_law_word sc_law_word (fun vs H Q E h => ?_) (fun cdv A outer s H vs Q E hr h => ?_)
  · obtain ⟨v_law_base, v_law_turn, F, rfl, _⟩ := h; rfl
  · obtain ⟨v_law_base, v_law_turn, F, rfl, hS, hm⟩ := h
    refine ⟨_, (pss_cons (ps_set (i := 2) nd rfl (Or.inr rfl) pe_str)
      (pss_cons (ps_setLc (i := 4) (own := [("_law_k", 3)]) (g := gName 3) rfl nd rfl rfl (sw_true rfl rfl rfl (by decide +kernel)) (pi_range1 rfl T.z_range (pa_cons pe_int pa_nil)) (blkOk_by (own := [("_law_k", 3)]) (N := N_law_word) (sc := defScope s_law_word) (by decide +kernel)) (fun _ _ _ _ _ => pg_name (i := 3) nd rfl (Or.inl rfl)) (fun _ _ _ _ _ => pts_nil) (fun _ _ _ _ _ => (pe_ix ix_str (pv 2) (pe_op op_mod (pe_op op_add (pe_op op_add (pe_op op_fdiv (pv 0) pe_int) (pe_op op_mul pe_int (pv 3))) (pe_op op_mul (pe_op op_fdiv (pv 0) pe_int) (pv 3))) pe_int) (fun _ _ => rfl))))
      (pss_cons (ps_if (PW.pt (pw_and (pt_cmpR op_eq (pe_op op_mod (pv 0) pe_int) pe_int (nomark _)) (pw_and1 (pt_cmpR op_lt (pv 1) pe_int (nomark _))))) (pss_one (ps_ret (pe_m1 PySem.F.slot_str_join PySem.F.type_str_join (joinK G.K) pe_str (pe_fz (pe_slice (sl_listK G.K) (pe_fz (pv 4)) po_none (po_some (pe_op op_add pe_int (pv 1)))))))) pss_nil)
      (pss_cons (ps_if (PW.pt (pw_or (pt_cmpR op_lt (pe_op op_mod (pv 0) pe_int) pe_int (nomark _)) (pw_or1 (pt_cmpR op_gt (pv 1) pe_int (nomark _))))) (pss_one (ps_ret (pe_op op_catS (pe_op op_catS (pe_m1 PySem.F.slot_str_join PySem.F.type_str_join (joinK G.K) pe_str (pe_fz (pe_slice (sl_listK G.K) (pe_fz (pv 4)) po_none (po_some (pe_op op_add pe_int (pe_op op_mod (pe_op op_fdiv (pv 0) pe_int) pe_int)))))) pe_str) (pe_callTy call_str_int (by rfl) T.z_str (by decide +kernel) (pa_cons (pv 1) pa_nil))))) pss_nil)
      (pss_cons (ps_set (i := 5) nd rfl (Or.inl rfl) (pe_op op_add pe_int (pe_op op_mod (pe_op op_fdiv (pv 0) pe_int) pe_int)))
      (pss_cons (ps_set (i := 6) nd rfl (Or.inl rfl) (pe_op op_mod (pe_op op_fdiv (pv 0) pe_int) (pv 5)))
      (pss_cons (ps_asg (pe_ix ix_str (pv 2) (pe_op op_mod (pe_op op_add (pe_op op_fdiv (pv 0) pe_int) (pv 1)) pe_int) (fun _ _ => rfl)) (pg_sub (pe_fz (pv 4)) (pv 6) set_list))
      (pss_one (ps_ret (pe_m1 PySem.F.slot_str_join PySem.F.type_str_join (joinK G.K) pe_str (pe_fz (pe_slice (sl_listK G.K) (pe_fz (pv 4)) po_none (po_some (pv 5)))))))))))))), ?_⟩
    unfold m_law_word at hm
    refine f_seq ?_
    refine c_asg ?_
    refine ev_to ev_c ?_
    refine c_set (σ' := [some (.int (v_law_base)), some (.int (v_law_turn)), some (.str (("abcdefghijklmnopqrstuvwxyz0123456789" : Str))), none, none, none, none]) rfl ?_
    refine sq_nx ?_
    refine f_seq ?_
    refine c_asg ?_
    refine c_lc ?_
    refine c_rng1 ?_
    refine ea_to (ea_cons ev_c ea_nil) ?_
    refine k_rng1 (by decide) (by decide) ?_
    refine lc_sep (β := Str) (fun (_ : Unit) => ([F] : List (Asn G))) (s := ()) (im := (fun _ v (x : Int) => v = .int x)) hS (fun _ _ _ => wk_range) (by rw [rngL_len]; decide) hm (fun p1 _ ys4 x2 v3 H q Nx hS hx hm kS kN => ?_) (fun p1 t H hm hS => ?_)
    ·
      cases hx
      refine c_gLc (σ' := [some (.int (v_law_base)), some (.int (v_law_turn)), some (.str (("abcdefghijklmnopqrstuvwxyz0123456789" : Str))), some (.int (x2)), none, none, none]) rfl rfl ?_
      refine c_yes ?_
      obtain ⟨h5, hm⟩ := R.wp_need hm
      obtain ⟨c6, hc6, hm⟩ := wp_idx hm
      refine ev_to (ev_ixS (ev_var rfl) (ev_mod (ev_add (ev_add (ev_fdiv (ev_var rfl) ev_c ⟨by decide, by decide⟩) (ev_mul ev_c (ev_var rfl) (.inl (by constructor <;> decide)))) (ev_mul (ev_fdiv (ev_var rfl) ev_c ⟨by decide, by decide⟩) (ev_var rfl) h5)) ev_c (by decide)) (by decide +kernel) hc6) ?_
      exact kS () _ _ _ hm rfl (hS.sel [0, 1] (by decide) rfl)
    · revert hm hS; generalize t = t7; intro hm hS
      refine c_set (σ' := [some (.int (v_law_base)), some (.int (v_law_turn)), some (.str (("abcdefghijklmnopqrstuvwxyz0123456789" : Str))), none, some (.ref p1), none, none]) rfl ?_
      refine sq_nx ?_
      refine f_seq ?_
      refine f_if ?_
      refine et_to (et_and (et_test (ev_eqI (ev_mod (ev_var rfl) ev_c (by decide)) ev_c)) fun _ => (et_test (ev_i0 (ev_var rfl) ev_c))) ?_
      refine ifK_2 (fun hb8 => ?_) (fun hb8 => ?_)
      · have hm := R.wp_ifY hm hb8
        refine c_ret ?_
        refine c_m1 ev_c ?_
        refine c_fz ?_
        refine c_sl ?_
        refine ev_to (ev_fz (ev_var rfl)) ?_
        refine eo_to eo_no ?_
        refine eo_to (eo_some (ev_add ev_c (ev_var rfl))) ?_
        refine k_slG hS (hS.sq (i := 0) rfl) fun p9 H hS => ?_
        refine fz_no ?_
        obtain ⟨h10, hm⟩ := R.wp_need hm
        refine ⟨_, _, _, rfl, rfl, .inl (hS.sqF (i := 0) rfl), h10, ?_⟩
        exact hm _ (hS.sel [2] (by decide) rfl)
      · have hm := R.wp_ifN hm (by first | (rw [hb8]; decide) | simpa using hb8)
        refine st_nx ?_
        refine sq_nx ?_
        refine f_seq ?_
        refine f_if ?_
        refine et_to (et_or (et_test (ev_i0 (ev_mod (ev_var rfl) ev_c (by decide)) ev_c)) fun _ => (et_test (ev_i0 (ev_var rfl) ev_c))) ?_
        refine ifK_2 (fun hb11 => ?_) (fun hb11 => ?_)
        · have hm := R.wp_ifY hm hb11
          refine c_ret ?_
          refine c_op ?_
          refine c_op ?_
          refine c_m1 ev_c ?_
          refine c_fz ?_
          refine c_sl ?_
          refine ev_to (ev_fz (ev_var rfl)) ?_
          refine eo_to eo_no ?_
          refine eo_to (eo_some (ev_add ev_c (ev_mod (ev_fdiv (ev_var rfl) ev_c ⟨by decide, by decide⟩) ev_c (by decide)))) ?_
          refine k_slG hS (hS.sq (i := 0) rfl) fun p12 H hS => ?_
          refine fz_no ?_
          obtain ⟨h13, hm⟩ := R.wp_need hm
          refine ⟨_, _, _, rfl, rfl, .inl (hS.sqF (i := 0) rfl), h13, ?_⟩
          refine ev_to ev_c ?_
          obtain ⟨h14, hm⟩ := R.wp_need hm
          refine r_catS h14 _ ?_
          obtain ⟨h15, hm⟩ := R.wp_need hm
          refine ev_to (ev_cb (ea_cons (ev_var rfl) ea_nil) fun _ q => ⟨_, rfl, h15, q⟩) ?_
          revert hm; refine R.need_rev fun h16 hm => ?_
          refine r_catS h16 _ ?_
          exact hm _ (hS.sel [2] (by decide) rfl)
        · have hm := R.wp_ifN hm (by first | (rw [hb11]; decide) | simpa using hb11)
          refine st_nx ?_
          refine sq_nx ?_
          refine f_seq ?_
          refine c_asg ?_
          refine ev_to (ev_add ev_c (ev_mod (ev_fdiv (ev_var rfl) ev_c ⟨by decide, by decide⟩) ev_c (by decide))) ?_
          obtain ⟨y17, hy17, hm⟩ := wp_let hm
          refine n_is (w := (.int (y17))) (by first | rw [hy17] | (subst hy17; rfl)) ?_
          refine c_set (σ' := [some (.int (v_law_base)), some (.int (v_law_turn)), some (.str (("abcdefghijklmnopqrstuvwxyz0123456789" : Str))), none, some (.ref p1), some (.int (y17)), none]) rfl ?_
          refine sq_nx ?_
          refine f_seq ?_
          refine c_asg ?_
          obtain ⟨h18, hm⟩ := R.wp_need hm
          refine ev_to (ev_mod (ev_fdiv (ev_var rfl) ev_c ⟨by decide, by decide⟩) (ev_var rfl) h18) ?_
          obtain ⟨y19, hy19, hm⟩ := wp_let hm
          refine n_is (w := (.int (y19))) (by first | rw [hy19] | (subst hy19; rfl)) ?_
          refine c_set (σ' := [some (.int (v_law_base)), some (.int (v_law_turn)), some (.str (("abcdefghijklmnopqrstuvwxyz0123456789" : Str))), none, some (.ref p1), some (.int (y17)), some (.int (y19))]) rfl ?_
          refine sq_nx ?_
          refine f_seq ?_
          refine c_asgS ?_
          obtain ⟨c20, hc20, hm⟩ := wp_idx hm
          refine ev_to (ev_ixS (ev_var rfl) (ev_mod (ev_add (ev_fdiv (ev_var rfl) ev_c ⟨by decide, by decide⟩) (ev_var rfl)) ev_c (by decide)) (by decide +kernel) hc20) ?_
          obtain ⟨j21, hj21, hm⟩ := wp_ix hm
          refine ev_to (ev_fz (ev_var rfl)) ?_
          refine ev_to (ev_var rfl) ?_
          refine k_setL (x := sg (c20)) hS (n := 0) rfl rfl j21 hj21 rfl fun H hS => ?_
          refine sq_nx ?_
          refine c_ret ?_
          refine c_m1 ev_c ?_
          refine c_fz ?_
          refine c_sl ?_
          refine ev_to (ev_fz (ev_var rfl)) ?_
          refine eo_to eo_no ?_
          refine eo_to (eo_some (ev_var rfl)) ?_
          refine k_slG hS (hS.sq (i := 0) rfl) fun p22 H hS => ?_
          refine fz_no ?_
          obtain ⟨h23, hm⟩ := R.wp_need hm
          refine ⟨_, _, _, rfl, rfl, .inl (hS.sqF (i := 0) rfl), h23, ?_⟩
          exact hm _ (hS.sel [2] (by decide) rfl)
def sp_law_some (G : Gx) : Sp := fun vs H Q E => ∃ (v_law_base : Int) (F : Asn G), vs = [(.int (v_law_base))] ∧ Sep H ([F] : List (Asn G)) ∧ R.wp (m_law_some v_law_base) (fun r => ∀ p H', Sep H' ([lstA p (r : (List (List Str))), F] : List (Asn G)) → Q (.ref p) H') (fun _ => False)
abbrev N_law_some : List Str := ["_law_base", "_law_turn", "_law_folders", "_law_marks"]
theorem sc_law_some : FnScope N_law_some ["_law_base"] (defScope s_law_some) := ⟨rfl, rfl, rfl, by decide +kernel, rfl, by decide +kernel, by decide +kernel⟩
theorem ok_law_some (T : Txt G mg) : FnOk P w G.K mg base CX0 2 T.a_law_some T.fd_law_some ["_law_base"] (sp_law_some G) := by
  have nd := sc_law_some.nd
  refine Fun.ok T.F_law_some sc_law_some (fun vs H Q E h => ?_) (fun cdv A outer s H vs Q E hr h => ?_)
  · obtain ⟨v_law_base, F, rfl, _⟩ := h; rfl
  · obtain ⟨v_law_base, F, rfl, hS, hm⟩ := h
    refine ⟨_, (pss_cons (ps_set (i := 2) nd rfl (Or.inl rfl) (pe_fz (pe_op op_catR (pe_fz (pe_lst (pa_cons pe_str pa_nil))) (pe_fz (pe_lc (own := [("_law_turn", 1)]) (g := gName 1) rfl nd (pi_range1 rfl T.z_range (pa_cons pe_int pa_nil)) (blkOk_by (own := [("_law_turn", 1)]) (N := N_law_some) (sc := defScope s_law_some) (by decide +kernel)) (fun _ _ _ _ _ => pg_name (i := 1) nd rfl (Or.inl rfl)) (fun _ _ _ _ _ => pts_nil) (fun _ _ _ _ _ => (pe_call (ok_law_word T) (hr.mono (by decide)) rfl T.g_law_word T.kp_law_word T.b_law_word .nil pass0 (pa_cons (pe_op op_fdiv (pv 0) pe_int) (pa_cons (pv 1) pa_nil)))))))))
      (pss_cons (ps_set (i := 3) nd rfl (Or.inl rfl) (pe_fz (pe_op op_catR (pe_fz (pe_lst (pa_cons pe_str (pa_cons pe_str pa_nil)))) (pe_fz (pe_lc (own := [("_law_turn", 1)]) (g := gName 1) rfl nd (pi_range1 rfl T.z_range (pa_cons pe_int pa_nil)) (blkOk_by (own := [("_law_turn", 1)]) (N := N_law_some) (sc := defScope s_law_some) (by decide +kernel)) (fun _ _ _ _ _ => pg_name (i := 1) nd rfl (Or.inl rfl)) (fun _ _ _ _ _ => pts_nil) (fun _ _ _ _ _ => (pe_call (ok_law_word T) (hr.mono (by decide)) rfl T.g_law_word T.kp_law_word T.b_law_word .nil pass0 (pa_cons (pe_op op_fdiv (pv 0) pe_int) (pa_cons (pv 1) pa_nil)))))))))
      (pss_one (ps_ret (pe_fz (pe_lst (pa_cons (pe_fz (pe_lc (own := [("_law_turn", 1)]) (g := gName 1) rfl nd (pi_range1 rfl T.z_range (pa_cons pe_int pa_nil)) (blkOk_by (own := [("_law_turn", 1)]) (N := N_law_some) (sc := defScope s_law_some) (by decide +kernel)) (fun _ _ _ _ _ => pg_name (i := 1) nd rfl (Or.inl rfl)) (fun _ _ _ _ _ => pts_nil) (fun _ _ _ _ _ => (pe_call (ok_law_word T) (hr.mono (by decide)) rfl T.g_law_word T.kp_law_word T.b_law_word .nil pass0 (pa_cons (pv 0) (pa_cons (pv 1) pa_nil)))))) (pa_cons (pe_fz (pv 2)) (pa_cons (pe_fz (pv 3)) pa_nil))))))))), ?_⟩
    unfold m_law_some at hm
    refine f_seq ?_
    refine c_asg ?_
    refine c_fz ?_
    refine c_op ?_
    refine c_fz ?_
    refine c_lst ?_
    refine ea_to (ea_cons ev_c ea_nil) ?_
    refine k_lst (α := Str) (vs := [(.str (("inbox" : Str)))]) (xs := [("inbox" : Str)]) hS ⟨rfl, True.intro⟩ (by show 1 ≤ sizeLine; decide) fun p1 H hS => ?_
    refine fz_no ?_
    refine c_fz ?_
    refine c_lc ?_
    refine c_rng1 ?_
    refine ea_to (ea_cons ev_c ea_nil) ?_
    refine k_rng1 (by decide) (by decide) ?_
    refine lc_sep (β := Str) (fun (_ : Unit) => ([lstA p1 ([("inbox" : Str)] : (List Str)), F] : List (Asn G))) (s := ()) (im := (fun _ v (x : Int) => v = .int x)) hS (fun _ _ _ => wk_range) (by rw [rngL_len]; decide) hm (fun p2 _ ys5 x3 v4 H q Nx hS hx hm kS kN => ?_) (fun p2 t H hm hS => ?_)
    ·
      cases hx
      refine c_gLc (σ' := [some (.int (v_law_base)), some (.int (x3)), none, none]) rfl rfl ?_
      refine c_yes ?_
      refine c_call ?_
      refine ea_to (ea_cons (ev_fdiv (ev_var rfl) ev_c ⟨by decide, by decide⟩) (ea_cons (ev_var rfl) ea_nil)) ?_
      refine ⟨(v_law_base / 7), x3, star [lstA p2 (ys5 : List Str), lstA p1 ([("inbox" : Str)] : (List Str)), F], rfl, Sep.unstar (M := []) (hS.sel [0, 1, 2] (by decide) rfl : Sep H (([] ++ [lstA p2 (ys5 : List Str), lstA p1 ([("inbox" : Str)] : (List Str)), F] : List (Asn G)))), R.wp_mono (R.wp_bind hm) (fun r6 hm H hS => ?_) (fun _ z => z)⟩
      have hS : Sep H ([lstA p2 (ys5 : List Str), lstA p1 ([("inbox" : Str)] : (List Str)), F] : List (Asn G)) := Sep.star (M := []) hS
      exact kS () _ _ _ hm rfl (hS.sel [0, 1, 2] (by decide) rfl)
    · revert hm hS; generalize t = t7; intro hm hS
      refine fz_no ?_
      obtain ⟨h8, hm⟩ := R.wp_need hm
      refine k_catG hS (hS.rdL (i := 1) rfl) (hS.rdL (i := 0) rfl) h8 fun p9 H hS => ?_
      refine fz_no ?_
      obtain ⟨y10, hy10, hm⟩ := wp_let hm
      have hS : Sep H ([lstA p9 (y10 : (List Str)), lstA p2 (t7.2 : (List Str)), lstA p1 ([("inbox" : Str)] : (List Str)), F] : List (Asn G)) := by rw [← hy10]; exact hS
      refine c_set (σ' := [some (.int (v_law_base)), none, some (.ref p9), none]) rfl ?_
      refine sq_nx ?_
      refine f_seq ?_
      refine c_asg ?_
      refine c_fz ?_
      refine c_op ?_
      refine c_fz ?_
      refine c_lst ?_
      refine ea_to (ea_cons ev_c (ea_cons ev_c ea_nil)) ?_
      refine k_lst (α := Str) (vs := [(.str (("seen" : Str))), (.str (("seen" : Str)))]) (xs := [("seen" : Str), ("seen" : Str)]) hS ⟨rfl, ⟨rfl, True.intro⟩⟩ (by show 2 ≤ sizeLine; decide) fun p11 H hS => ?_
      refine fz_no ?_
      refine c_fz ?_
      refine c_lc ?_
      refine c_rng1 ?_
      refine ea_to (ea_cons ev_c ea_nil) ?_
      refine k_rng1 (by decide) (by decide) ?_
      refine lc_sep (β := Str) (fun (_ : Unit) => ([lstA p11 ([("seen" : Str), ("seen" : Str)] : (List Str)), lstA p9 (y10 : (List Str)), lstA p2 (t7.2 : (List Str)), lstA p1 ([("inbox" : Str)] : (List Str)), F] : List (Asn G))) (s := ()) (im := (fun _ v (x : Int) => v = .int x)) hS (fun _ _ _ => wk_range) (by rw [rngL_len]; decide) hm (fun p12 _ ys15 x13 v14 H q Nx hS hx hm kS kN => ?_) (fun p12 t H hm hS => ?_)
      ·
        cases hx
        refine c_gLc (σ' := [some (.int (v_law_base)), some (.int (x13)), some (.ref p9), none]) rfl rfl ?_
        refine c_yes ?_
        refine c_call ?_
        refine ea_to (ea_cons (ev_fdiv (ev_var rfl) ev_c ⟨by decide, by decide⟩) (ea_cons (ev_var rfl) ea_nil)) ?_
        refine ⟨(v_law_base / 5), x13, star [lstA p12 (ys15 : List Str), lstA p11 ([("seen" : Str), ("seen" : Str)] : (List Str)), lstA p9 (y10 : (List Str)), lstA p2 (t7.2 : (List Str)), lstA p1 ([("inbox" : Str)] : (List Str)), F], rfl, Sep.unstar (M := []) (hS.sel [0, 1, 2, 3, 4, 5] (by decide) rfl : Sep H (([] ++ [lstA p12 (ys15 : List Str), lstA p11 ([("seen" : Str), ("seen" : Str)] : (List Str)), lstA p9 (y10 : (List Str)), lstA p2 (t7.2 : (List Str)), lstA p1 ([("inbox" : Str)] : (List Str)), F] : List (Asn G)))), R.wp_mono (R.wp_bind hm) (fun r16 hm H hS => ?_) (fun _ z => z)⟩
        have hS : Sep H ([lstA p12 (ys15 : List Str), lstA p11 ([("seen" : Str), ("seen" : Str)] : (List Str)), lstA p9 (y10 : (List Str)), lstA p2 (t7.2 : (List Str)), lstA p1 ([("inbox" : Str)] : (List Str)), F] : List (Asn G)) := Sep.star (M := []) hS
        exact kS () _ _ _ hm rfl (hS.sel [0, 1, 2, 3, 4, 5] (by decide) rfl)
      · revert hm hS; generalize t = t17; intro hm hS
        refine fz_no ?_
        obtain ⟨h18, hm⟩ := R.wp_need hm
        refine k_catG hS (hS.rdL (i := 1) rfl) (hS.rdL (i := 0) rfl) h18 fun p19 H hS => ?_
        refine fz_no ?_
        obtain ⟨y20, hy20, hm⟩ := wp_let hm
        have hS : Sep H ([lstA p19 (y20 : (List Str)), lstA p12 (t17.2 : (List Str)), lstA p11 ([("seen" : Str), ("seen" : Str)] : (List Str)), lstA p9 (y10 : (List Str)), lstA p2 (t7.2 : (List Str)), lstA p1 ([("inbox" : Str)] : (List Str)), F] : List (Asn G)) := by rw [← hy20]; exact hS
        refine c_set (σ' := [some (.int (v_law_base)), none, some (.ref p9), some (.ref p19)]) rfl ?_
        refine sq_nx ?_
        refine c_ret ?_
        refine c_fz ?_
        refine c_lst ?_
        refine c_cons ?_
        refine c_fz ?_
        refine c_lc ?_
        refine c_rng1 ?_
        refine ea_to (ea_cons ev_c ea_nil) ?_
        refine k_rng1 (by decide) (by decide) ?_
        refine lc_sep (β := Str) (fun (_ : Unit) => ([lstA p19 (y20 : (List Str)), lstA p12 (t17.2 : (List Str)), lstA p11 ([("seen" : Str), ("seen" : Str)] : (List Str)), lstA p9 (y10 : (List Str)), lstA p2 (t7.2 : (List Str)), lstA p1 ([("inbox" : Str)] : (List Str)), F] : List (Asn G))) (s := ()) (im := (fun _ v (x : Int) => v = .int x)) hS (fun _ _ _ => wk_range) (by rw [rngL_len]; decide) hm (fun p21 _ ys24 x22 v23 H q Nx hS hx hm kS kN => ?_) (fun p21 t H hm hS => ?_)
        ·
          cases hx
          refine c_gLc (σ' := [some (.int (v_law_base)), some (.int (x22)), some (.ref p9), some (.ref p19)]) rfl rfl ?_
          refine c_yes ?_
          refine c_call ?_
          refine ea_to (ea_cons (ev_var rfl) (ea_cons (ev_var rfl) ea_nil)) ?_
          refine ⟨v_law_base, x22, star [lstA p21 (ys24 : List Str), lstA p19 (y20 : (List Str)), lstA p12 (t17.2 : (List Str)), lstA p11 ([("seen" : Str), ("seen" : Str)] : (List Str)), lstA p9 (y10 : (List Str)), lstA p2 (t7.2 : (List Str)), lstA p1 ([("inbox" : Str)] : (List Str)), F], rfl, Sep.unstar (M := []) (hS.sel [0, 1, 2, 3, 4, 5, 6, 7] (by decide) rfl : Sep H (([] ++ [lstA p21 (ys24 : List Str), lstA p19 (y20 : (List Str)), lstA p12 (t17.2 : (List Str)), lstA p11 ([("seen" : Str), ("seen" : Str)] : (List Str)), lstA p9 (y10 : (List Str)), lstA p2 (t7.2 : (List Str)), lstA p1 ([("inbox" : Str)] : (List Str)), F] : List (Asn G)))), R.wp_mono (R.wp_bind hm) (fun r25 hm H hS => ?_) (fun _ z => z)⟩
          have hS : Sep H ([lstA p21 (ys24 : List Str), lstA p19 (y20 : (List Str)), lstA p12 (t17.2 : (List Str)), lstA p11 ([("seen" : Str), ("seen" : Str)] : (List Str)), lstA p9 (y10 : (List Str)), lstA p2 (t7.2 : (List Str)), lstA p1 ([("inbox" : Str)] : (List Str)), F] : List (Asn G)) := Sep.star (M := []) hS
          exact kS () _ _ _ hm rfl (hS.sel [0, 1, 2, 3, 4, 5, 6, 7] (by decide) rfl)
        · revert hm hS; generalize t = t26; intro hm hS
          refine fz_yes (xs := (t26.2 : (List Str))) hS (i := 0) rfl fun H hS => ?_
          have hS : Sep H ([imA (.ref p21) (t26.2 : (List Str)), lstA p19 (y20 : (List Str)), lstA p12 (t17.2 : (List Str)), lstA p11 ([("seen" : Str), ("seen" : Str)] : (List Str)), lstA p9 (y10 : (List Str)), lstA p2 (t7.2 : (List Str)), lstA p1 ([("inbox" : Str)] : (List Str)), F] : List (Asn G)) := hS
          refine c_cons ?_
          refine c_fz ?_
          refine ev_to (ev_var rfl) ?_
          refine fz_yes (xs := (y10 : (List Str))) hS (i := 4) rfl fun H hS => ?_
          have hS : Sep H ([imA (.ref p9) (y10 : (List Str)), imA (.ref p21) (t26.2 : (List Str)), lstA p19 (y20 : (List Str)), lstA p12 (t17.2 : (List Str)), lstA p11 ([("seen" : Str), ("seen" : Str)] : (List Str)), lstA p2 (t7.2 : (List Str)), lstA p1 ([("inbox" : Str)] : (List Str)), F] : List (Asn G)) := hS
          refine c_cons ?_
          refine c_fz ?_
          refine ev_to (ev_var rfl) ?_
          refine fz_yes (xs := (y20 : (List Str))) hS (i := 2) rfl fun H hS => ?_
          have hS : Sep H ([imA (.ref p19) (y20 : (List Str)), imA (.ref p9) (y10 : (List Str)), imA (.ref p21) (t26.2 : (List Str)), lstA p12 (t17.2 : (List Str)), lstA p11 ([("seen" : Str), ("seen" : Str)] : (List Str)), lstA p2 (t7.2 : (List Str)), lstA p1 ([("inbox" : Str)] : (List Str)), F] : List (Asn G)) := hS
          refine c_nil ?_
          refine k_lst (α := (List Str)) (vs := [(.ref p21), (.ref p9), (.ref p19)]) (xs := [t26.2, y10, y20]) hS ⟨(hS.im (i := 2) rfl), ⟨(hS.im (i := 1) rfl), ⟨(hS.im (i := 0) rfl), True.intro⟩⟩⟩ (by show 3 ≤ sizeLine; decide) fun p30 H hS => ?_
          refine fz_no ?_
          exact hm _ _ (hS.sel [0, 8] (by decide) rfl)
def sp_law_road (G : Gx) : Sp := fun vs H Q E => ∃ (a_v_law_folders : Addr) (v_law_folders : Folders) (v_law_name : Str) (a_v_law_end : Addr) (v_law_end : (Str × (List Str))) (a_v_law_row_here : Addr) (v_law_row_here : (List Int)) (v_law_at : Int) (a_v_law_some_here : Addr) (v_law_some_here : (List (List Str))) (F : Asn G), vs = [.ref a_v_law_folders, (.str (v_law_name)), (.ref a_v_law_end), .ref a_v_law_row_here, (.int (v_law_at)), .ref a_v_law_some_here] ∧ Im.im G H (.ref a_v_law_end) v_law_end ∧ Sep H ([FoldersA a_v_law_folders v_law_folders, lstA a_v_law_row_here (v_law_row_here : (List Int)), lstA a_v_law_some_here (v_law_some_here : (List (List Str))), F] : List (Asn G)) ∧ R.wp (m_law_road v_law_folders v_law_name v_law_end v_law_row_here v_law_at v_law_some_here) (fun r => ∀ (p : V) H', Sep H' ([imA p (r.1 : Opq), FoldersA a_v_law_folders r.2, lstA a_v_law_row_here (v_law_row_here : (List Int)), lstA a_v_law_some_here (v_law_some_here : (List (List Str))), F] : List (Asn G)) → Q p H') (fun _ => False)
abbrev N_law_road : List Str := ["_law_folders", "_law_name", "_law_end", "_law_row_here", "_law_at", "_law_some_here", "_law_k", "_law_word_here"]
theorem sc_law_road : FnScope N_law_road ["_law_folders", "_law_name", "_law_end", "_law_row_here", "_law_at", "_law_some_here"] (defScope s_law_road) := ⟨rfl, rfl, rfl, by decide +kernel, rfl, by decide +kernel, by decide +kernel⟩
theorem ok_law_road (T : Txt G mg) : FnOk P w G.K mg base CX0 4 T.a_law_road T.fd_law_road ["_law_folders", "_law_name", "_law_end", "_law_row_here", "_law_at", "_law_some_here"] (sp_law_road G) := by
  have nd := sc_law_road.nd
  refine Fun.ok T.F_law_road sc_law_road (fun vs H Q E h => ?_) (fun cdv A outer s H vs Q E hr h => ?_)
  · obtain ⟨a_v_law_folders, v_law_folders, v_law_name, a_v_law_end, v_law_end, a_v_law_row_here, v_law_row_here, v_law_at, a_v_law_some_here, v_law_some_here, F, rfl, _⟩ := h; rfl
  · obtain ⟨a_v_law_folders, v_law_folders, v_law_name, a_v_law_end, v_law_end, a_v_law_row_here, v_law_row_here, v_law_at, a_v_law_some_here, v_law_some_here, F, rfl, him_v_law_end, hS, hm⟩ := h
    have hS := hS.addIm him_v_law_end
    refine ⟨_, (pss_cons (ps_expr (pe_meth (pv 0) T.cl_Folders T.m_Folders_add (ok_Folders_add_L T) (hr.mono (by decide)) T.b_Folders_add .nil passL (pa_cons (pv 1) (pa_cons (pe_ix (ix_listK G.K) (pe_ix (ix_listK G.K) (pe_fz (pv 5)) pe_int (fun _ _ => rfl)) (pe_op op_mod (pe_ix (ix_listK G.K) (pe_fz (pv 3)) (pv 4) (fun _ _ => rfl)) pe_int) (fun _ _ => rfl)) (pa_cons (pe_fz (pe_slice (sl_listK G.K) (pe_ix (ix_listK G.K) (pe_fz (pv 5)) pe_int (fun _ _ => rfl)) po_none (po_some (pe_op op_mod (pe_op op_fdiv (pe_ix (ix_listK G.K) (pe_fz (pv 3)) (pv 4) (fun _ _ => rfl)) pe_int) pe_int)))) pa_nil)))))
      (pss_cons (ps_for PassesOwn.never rfl (pi_range1 rfl T.z_range (pa_cons (pe_op op_mod (pe_op op_fdiv (pe_ix (ix_listK G.K) (pe_fz (pv 3)) (pv 4) (fun _ _ => rfl)) pe_int) pe_int) pa_nil)) (pg_name (i := 6) nd rfl (Or.inl rfl)) (pss_cons (ps_set (i := 7) nd rfl (Or.inl rfl) (pe_ix (ix_listK G.K) (pe_ix (ix_listK G.K) (pe_fz (pv 5)) pe_int (fun _ _ => rfl)) (pe_op op_mod (pe_op op_fdiv (pe_ix (ix_listK G.K) (pe_fz (pv 3)) (pe_op op_add (pv 4) pe_int) (fun _ _ => rfl)) (pe_ix (ix_listK G.K) (pe_fz (pe_lst (pa_cons pe_int (pa_cons pe_int (pa_cons pe_int pa_nil))))) (pv 6) (fun _ _ => rfl))) pe_int) (fun _ _ => rfl)))
      (pss_cons (ps_expr (pe_meth (pv 0) T.cl_Folders T.m_Folders_mark (ok_Folders_mark T) (hr.mono (by decide)) T.b_Folders_mark .nil passL (pa_cons (pv 1) (pa_cons (pv 7) pa_nil))))
      (pss_cons (ps_expr (pe_meth (pv 0) T.cl_Folders T.m_Folders_place (ok_Folders_place T) (hr.mono (by decide)) T.b_Folders_place .nil passL (pa_cons (pv 1) (pa_cons (pe_ix (ix_listK G.K) (pe_ix (ix_listK G.K) (pe_fz (pv 5)) pe_int (fun _ _ => rfl)) (pe_op op_mod (pe_op op_fdiv (pe_ix (ix_listK G.K) (pe_fz (pv 3)) (pe_op op_add (pv 4) pe_int) (fun _ _ => rfl)) (pe_ix (ix_listK G.K) (pe_fz (pe_lst (pa_cons pe_int (pa_cons pe_int (pa_cons pe_int pa_nil))))) (pv 6) (fun _ _ => rfl))) pe_int) (fun _ _ => rfl)) pa_nil))))
      (pss_one (ps_if (pt_cmpR op_eq (pe_op op_mod (pe_op op_fdiv (pe_op op_fdiv (pe_ix (ix_listK G.K) (pe_fz (pv 3)) (pe_op op_add (pv 4) pe_int) (fun _ _ => rfl)) pe_int) (pe_ix (ix_listK G.K) (pe_fz (pe_lst (pa_cons pe_int (pa_cons pe_int (pa_cons pe_int pa_nil))))) (pv 6) (fun _ _ => rfl))) pe_int) pe_int (nomark _)) (pss_one (ps_expr (pe_meth (pv 0) T.cl_Folders T.m_Folders_unmark (ok_Folders_unmark T) (hr.mono (by decide)) T.b_Folders_unmark .nil passL (pa_cons (pv 1) (pa_cons (pv 7) pa_nil))))) pss_nil))))))
      (pss_cons (ps_for PassesOwn.never rfl (pi_listK G.K (pe_fz (pe_meth (pv 0) T.cl_Folders T.m_Folders_marks (ok_Folders_marks T) (hr.mono (by decide)) T.b_Folders_marks .nil passL (pa_cons (pv 1) pa_nil)))) (pg_name (i := 7) nd rfl (Or.inl rfl)) (pss_one (ps_if (pt_cmpR (niSqK G.K) (pv 7) (pe_ix (ix_tupK G.K) (pv 2) pe_int (fun _ _ => rfl)) (by rfl)) (pss_one (ps_expr (pe_meth (pv 0) T.cl_Folders T.m_Folders_unmark (ok_Folders_unmark T) (hr.mono (by decide)) T.b_Folders_unmark .nil passL (pa_cons (pv 1) (pa_cons (pv 7) pa_nil))))) pss_nil)))
      (pss_cons (ps_for PassesOwn.never rfl (pi_listK G.K (pe_fz (pe_revLK G.K (pe_ix (ix_tupK G.K) (pv 2) pe_int (fun _ _ => rfl))))) (pg_name (i := 7) nd rfl (Or.inl rfl)) (pss_one (ps_expr (pe_meth (pv 0) T.cl_Folders T.m_Folders_mark (ok_Folders_mark T) (hr.mono (by decide)) T.b_Folders_mark .nil passL (pa_cons (pv 1) (pa_cons (pv 7) pa_nil))))))
      (pss_cons (ps_expr (pe_meth (pv 0) T.cl_Folders T.m_Folders_place (ok_Folders_place T) (hr.mono (by decide)) T.b_Folders_place .nil passL (pa_cons (pv 1) (pa_cons (pe_ix (ix_tupK G.K) (pv 2) pe_int (fun _ _ => rfl)) pa_nil))))
      (pss_one (ps_ret (pv 0)))))))), ?_⟩
    unfold m_law_road at hm
    refine f_seq ?_
    refine c_drop ?_
    refine c_meth ?_
    refine ev_to (ev_var rfl) ?_
    obtain ⟨d1, _, _, _, _, hO2⟩ := ins_Folders hS (i := 1) rfl
    refine ⟨_, _, _, rfl, hO2, rfl, ?_⟩
    refine c_cons ?_
    refine ev_to (ev_var rfl) ?_
    refine c_cons ?_
    obtain ⟨x3, hx3, hm⟩ := wp_idx hm
    obtain ⟨vs4, hq5, hM6⟩ := hS.sq (i := 3) rfl
    obtain ⟨u7, hu8, hi9⟩ := atI_im hM6 hx3
    obtain ⟨a10, rfl⟩ := isref hi9
    obtain ⟨x11, hx11, hm⟩ := wp_idx hm
    obtain ⟨x12, hx12, hm⟩ := wp_idx hm
    refine ev_to (ev_ixSq (ev_ixSq (ev_fz (ev_var rfl)) ev_c hq5 hu8) (ev_mod (ev_ixSq (ev_fz (ev_var rfl)) (ev_var rfl) (hS.sqF (i := 2) rfl) (atI_map hx11)) ev_c (by decide)) (imPlF hi9) (atI_map hx12)) ?_
    refine c_cons ?_
    refine c_fz ?_
    refine c_sl ?_
    obtain ⟨x13, hx13, hm⟩ := wp_idx hm
    obtain ⟨vs14, hq15, hM16⟩ := hS.sq (i := 3) rfl
    obtain ⟨u17, hu18, hi19⟩ := atI_im hM16 hx13
    obtain ⟨a20, rfl⟩ := isref hi19
    refine ev_to (ev_ixSq (ev_fz (ev_var rfl)) ev_c hq15 hu18) ?_
    have hS := hS.addIm (v := (.ref a20)) (x := (x13 : (List Str))) hi19
    obtain ⟨x22, hx22, hm⟩ := wp_idx hm
    refine eo_to eo_no ?_
    refine eo_to (eo_some (ev_mod (ev_fdiv (ev_ixSq (ev_fz (ev_var rfl)) (ev_var rfl) (hS.sqF (i := 3) rfl) (atI_map hx22)) ev_c ⟨by decide, by decide⟩) ev_c (by decide))) ?_
    refine k_slG hS (imPl (hS.im (i := 0) rfl)) fun p23 H hS => ?_
    refine fz_no ?_
    refine c_nil ?_
    refine ⟨a_v_law_folders, (v_law_folders : Folders), v_law_name, x12, p23, (cutL x13 none (some ((x22 / 5) % 4)) : (List Str)), star [imA (.ref a20) (x13 : (List Str)), imA (.ref a_v_law_end) (v_law_end : (Str × (List Str))), lstA a_v_law_row_here (v_law_row_here : (List Int)), lstA a_v_law_some_here (v_law_some_here : (List (List Str))), F], rfl, Sep.unstar (M := [FoldersA a_v_law_folders v_law_folders, lstA p23 (cutL x13 none (some ((x22 / 5) % 4)) : (List Str))]) (hS.sel [3, 0, 1, 2, 4, 5, 6] (by decide) rfl : Sep H (([FoldersA a_v_law_folders v_law_folders, lstA p23 (cutL x13 none (some ((x22 / 5) % 4)) : (List Str))] ++ [imA (.ref a20) (x13 : (List Str)), imA (.ref a_v_law_end) (v_law_end : (Str × (List Str))), lstA a_v_law_row_here (v_law_row_here : (List Int)), lstA a_v_law_some_here (v_law_some_here : (List (List Str))), F] : List (Asn G)))), R.wp_mono (R.wp_bind hm) (fun r24 hm H hS => ?_) (fun _ z => z.elim)⟩
    have hS : Sep H ([FoldersA a_v_law_folders r24, lstA p23 (cutL x13 none (some ((x22 / 5) % 4)) : (List Str)), imA (.ref a20) (x13 : (List Str)), imA (.ref a_v_law_end) (v_law_end : (Str × (List Str))), lstA a_v_law_row_here (v_law_row_here : (List Int)), lstA a_v_law_some_here (v_law_some_here : (List (List Str))), F] : List (Asn G)) := Sep.star (M := [FoldersA a_v_law_folders r24, lstA p23 (cutL x13 none (some ((x22 / 5) % 4)) : (List Str))]) hS
    refine sq_nx ?_
    refine f_seq ?_
    refine c_for ?_
    refine c_rng1 ?_
    obtain ⟨x25, hx25, hm⟩ := wp_idx hm
    refine ea_to (ea_cons (ev_mod (ev_fdiv (ev_ixSq (ev_fz (ev_var rfl)) (ev_var rfl) (hS.sqF (i := 4) rfl) (atI_map hx25)) ev_c ⟨by decide, by decide⟩) ev_c (by decide)) ea_nil) ?_
    obtain ⟨h26, hm⟩ := R.wp_need hm
    refine k_rng1 h26.1 h26.2 ?_
    refine k_for (τ := Folders) (fun (s27 : Folders) (σ : L2.St) (H : Hp) => ∃ (w30 w31 : Option V), σ = [some (.ref a_v_law_folders), some (.str (v_law_name)), some (.ref a_v_law_end), some (.ref a_v_law_row_here), some (.int (v_law_at)), some (.ref a_v_law_some_here), w30, w31] ∧ Sep H ([FoldersA a_v_law_folders s27, lstA p23 (cutL x13 none (some ((x22 / 5) % 4)) : (List Str)), imA (.ref a20) (x13 : (List Str)), imA (.ref a_v_law_end) (v_law_end : (Str × (List Str))), lstA a_v_law_row_here (v_law_row_here : (List Int)), lstA a_v_law_some_here (v_law_some_here : (List (List Str))), F] : List (Asn G))) (im := (fun _ v (x : Int) => v = .int x)) (s := (r24)) (fun _ => wk_range) ⟨_, _, rfl, hS.sel [0, 1, 2, 3, 4, 5, 6] (by decide) rfl⟩ hm (fun s27 x28 v29 σ H q N hI hx hm nx => ?_) (fun s27 σ H hm hI => ?_)
    ·
      obtain ⟨w30, w31, rfl, hS⟩ := hI
      cases hx
      refine c_gN (σ' := [some (.ref a_v_law_folders), some (.str (v_law_name)), some (.ref a_v_law_end), some (.ref a_v_law_row_here), some (.int (v_law_at)), some (.ref a_v_law_some_here), some (.int (x28)), w31]) rfl ?_
      refine f_seq ?_
      refine c_asg ?_
      refine c_op ?_
      obtain ⟨x32, hx32, hm⟩ := wp_idx hm
      obtain ⟨vs33, hq34, hM35⟩ := hS.sq (i := 5) rfl
      obtain ⟨u36, hu37, hi38⟩ := atI_im hM35 hx32
      obtain ⟨a39, rfl⟩ := isref hi38
      refine ev_to (ev_ixSq (ev_fz (ev_var rfl)) ev_c hq34 hu37) ?_
      have hS := hS.addIm (v := (.ref a39)) (x := (x32 : (List Str))) hi38
      refine c_op ?_
      refine c_op ?_
      obtain ⟨x41, hx41, hm⟩ := wp_idx hm
      refine ev_to (ev_ixSq (ev_fz (ev_var rfl)) (ev_add (ev_var rfl) ev_c) (hS.sqF (i := 5) rfl) (atI_map hx41)) ?_
      refine c_op ?_
      refine c_fz ?_
      refine c_lst ?_
      refine ea_to (ea_cons ev_c (ea_cons ev_c (ea_cons ev_c ea_nil))) ?_
      refine k_lst (α := Int) (vs := [(.int (1)), (.int (6)), (.int (36))]) (xs := [1, 6, 36]) hS ⟨rfl, ⟨rfl, ⟨rfl, True.intro⟩⟩⟩ (by show 3 ≤ sizeLine; decide) fun p42 H hS => ?_
      refine fz_no ?_
      refine ev_to (ev_var rfl) ?_
      obtain ⟨x43, hx43, hm⟩ := wp_idx hm
      refine r_ixSq (hS.sqF (i := 0) rfl) (atI_map hx43) _ ?_
      obtain ⟨h44, hm⟩ := R.wp_need hm
      refine r_fdiv h44 ?_
      refine ev_to ev_c ?_
      refine r_mod (by decide) ?_
      obtain ⟨x45, hx45, hm⟩ := wp_idx hm
      refine r_ixSq (imPlF (hS.im (i := 1) rfl)) (atI_map hx45) _ ?_
      refine c_set (σ' := [some (.ref a_v_law_folders), some (.str (v_law_name)), some (.ref a_v_law_end), some (.ref a_v_law_row_here), some (.int (v_law_at)), some (.ref a_v_law_some_here), some (.int (x28)), some (.str (x45))]) rfl ?_
      refine sq_nx ?_
      refine f_seq ?_
      refine c_drop ?_
      refine c_meth ?_
      refine ev_to (ev_var rfl) ?_
      obtain ⟨d46, _, _, _, _, hO47⟩ := ins_Folders hS (i := 2) rfl
      refine ⟨_, _, _, rfl, hO47, rfl, ?_⟩
      refine ea_to (ea_cons (ev_var rfl) (ea_cons (ev_var rfl) ea_nil)) ?_
      refine ⟨a_v_law_folders, (s27 : Folders), v_law_name, x45, star [lstA p42 ([1, 6, 36] : (List Int)), imA (.ref a39) (x32 : (List Str)), lstA p23 (cutL x13 none (some ((x22 / 5) % 4)) : (List Str)), imA (.ref a20) (x13 : (List Str)), imA (.ref a_v_law_end) (v_law_end : (Str × (List Str))), lstA a_v_law_row_here (v_law_row_here : (List Int)), lstA a_v_law_some_here (v_law_some_here : (List (List Str))), F], rfl, Sep.unstar (M := [FoldersA a_v_law_folders s27]) (hS.sel [2, 0, 1, 3, 4, 5, 6, 7, 8] (by decide) rfl : Sep H (([FoldersA a_v_law_folders s27] ++ [lstA p42 ([1, 6, 36] : (List Int)), imA (.ref a39) (x32 : (List Str)), lstA p23 (cutL x13 none (some ((x22 / 5) % 4)) : (List Str)), imA (.ref a20) (x13 : (List Str)), imA (.ref a_v_law_end) (v_law_end : (Str × (List Str))), lstA a_v_law_row_here (v_law_row_here : (List Int)), lstA a_v_law_some_here (v_law_some_here : (List (List Str))), F] : List (Asn G)))), R.wp_mono (R.wp_bind hm) (fun r48 hm H hS => ?_) (fun _ z => z.elim)⟩
      have hS : Sep H ([FoldersA a_v_law_folders r48, lstA p42 ([1, 6, 36] : (List Int)), imA (.ref a39) (x32 : (List Str)), lstA p23 (cutL x13 none (some ((x22 / 5) % 4)) : (List Str)), imA (.ref a20) (x13 : (List Str)), imA (.ref a_v_law_end) (v_law_end : (Str × (List Str))), lstA a_v_law_row_here (v_law_row_here : (List Int)), lstA a_v_law_some_here (v_law_some_here : (List (List Str))), F] : List (Asn G)) := Sep.star (M := [FoldersA a_v_law_folders r48]) hS
      refine sq_nx ?_
      refine f_seq ?_
      refine c_drop ?_
      refine c_meth ?_
      refine ev_to (ev_var rfl) ?_
      obtain ⟨d49, _, _, _, _, hO50⟩ := ins_Folders hS (i := 0) rfl
      refine ⟨_, _, _, rfl, hO50, rfl, ?_⟩
      refine c_cons ?_
      refine ev_to (ev_var rfl) ?_
      refine c_cons ?_
      refine c_op ?_
      obtain ⟨x51, hx51, hm⟩ := wp_idx hm
      obtain ⟨vs52, hq53, hM54⟩ := hS.sq (i := 7) rfl
      obtain ⟨u55, hu56, hi57⟩ := atI_im hM54 hx51
      obtain ⟨a58, rfl⟩ := isref hi57
      refine ev_to (ev_ixSq (ev_fz (ev_var rfl)) ev_c hq53 hu56) ?_
      have hS := hS.addIm (v := (.ref a58)) (x := (x51 : (List Str))) hi57
      refine c_op ?_
      refine c_op ?_
      obtain ⟨x60, hx60, hm⟩ := wp_idx hm
      refine ev_to (ev_ixSq (ev_fz (ev_var rfl)) (ev_add (ev_var rfl) ev_c) (hS.sqF (i := 7) rfl) (atI_map hx60)) ?_
      refine c_op ?_
      refine c_fz ?_
      refine c_lst ?_
      refine ea_to (ea_cons ev_c (ea_cons ev_c (ea_cons ev_c ea_nil))) ?_
      refine k_lst (α := Int) (vs := [(.int (1)), (.int (5)), (.int (25))]) (xs := [1, 5, 25]) hS ⟨rfl, ⟨rfl, ⟨rfl, True.intro⟩⟩⟩ (by show 3 ≤ sizeLine; decide) fun p61 H hS => ?_
      refine fz_no ?_
      refine ev_to (ev_var rfl) ?_
      obtain ⟨x62, hx62, hm⟩ := wp_idx hm
      refine r_ixSq (hS.sqF (i := 0) rfl) (atI_map hx62) _ ?_
      obtain ⟨h63, hm⟩ := R.wp_need hm
      refine r_fdiv h63 ?_
      refine ev_to ev_c ?_
      refine r_mod (by decide) ?_
      obtain ⟨x64, hx64, hm⟩ := wp_idx hm
      refine r_ixSq (imPlF (hS.im (i := 1) rfl)) (atI_map hx64) _ ?_
      refine c_nil ?_
      refine ⟨a_v_law_folders, (r48 : Folders), v_law_name, x64, star [lstA p61 ([1, 5, 25] : (List Int)), imA (.ref a58) (x51 : (List Str)), lstA p42 ([1, 6, 36] : (List Int)), imA (.ref a39) (x32 : (List Str)), lstA p23 (cutL x13 none (some ((x22 / 5) % 4)) : (List Str)), imA (.ref a20) (x13 : (List Str)), imA (.ref a_v_law_end) (v_law_end : (Str × (List Str))), lstA a_v_law_row_here (v_law_row_here : (List Int)), lstA a_v_law_some_here (v_law_some_here : (List (List Str))), F], rfl, Sep.unstar (M := [FoldersA a_v_law_folders r48]) (hS.sel [2, 0, 1, 3, 4, 5, 6, 7, 8, 9, 10] (by decide) rfl : Sep H (([FoldersA a_v_law_folders r48] ++ [lstA p61 ([1, 5, 25] : (List Int)), imA (.ref a58) (x51 : (List Str)), lstA p42 ([1, 6, 36] : (List Int)), imA (.ref a39) (x32 : (List Str)), lstA p23 (cutL x13 none (some ((x22 / 5) % 4)) : (List Str)), imA (.ref a20) (x13 : (List Str)), imA (.ref a_v_law_end) (v_law_end : (Str × (List Str))), lstA a_v_law_row_here (v_law_row_here : (List Int)), lstA a_v_law_some_here (v_law_some_here : (List (List Str))), F] : List (Asn G)))), R.wp_mono (R.wp_bind hm) (fun r65 hm H hS => ?_) (fun _ z => z.elim)⟩
      have hS : Sep H ([FoldersA a_v_law_folders r65, lstA p61 ([1, 5, 25] : (List Int)), imA (.ref a58) (x51 : (List Str)), lstA p42 ([1, 6, 36] : (List Int)), imA (.ref a39) (x32 : (List Str)), lstA p23 (cutL x13 none (some ((x22 / 5) % 4)) : (List Str)), imA (.ref a20) (x13 : (List Str)), imA (.ref a_v_law_end) (v_law_end : (Str × (List Str))), lstA a_v_law_row_here (v_law_row_here : (List Int)), lstA a_v_law_some_here (v_law_some_here : (List (List Str))), F] : List (Asn G)) := Sep.star (M := [FoldersA a_v_law_folders r65]) hS
      refine sq_nx ?_
      refine f_if ?_
      refine f_test ?_
      refine c_op ?_
      refine c_op ?_
      refine c_op ?_
      obtain ⟨x66, hx66, hm⟩ := wp_idx hm
      refine ev_to (ev_fdiv (ev_ixSq (ev_fz (ev_var rfl)) (ev_add (ev_var rfl) ev_c) (hS.sqF (i := 8) rfl) (atI_map hx66)) ev_c ⟨by decide, by decide⟩) ?_
      refine c_op ?_
      refine c_fz ?_
      refine c_lst ?_
      refine ea_to (ea_cons ev_c (ea_cons ev_c (ea_cons ev_c ea_nil))) ?_
      refine k_lst (α := Int) (vs := [(.int (1)), (.int (2)), (.int (4))]) (xs := [1, 2, 4]) hS ⟨rfl, ⟨rfl, ⟨rfl, True.intro⟩⟩⟩ (by show 3 ≤ sizeLine; decide) fun p67 H hS => ?_
      refine fz_no ?_
      refine ev_to (ev_var rfl) ?_
      obtain ⟨x68, hx68, hm⟩ := wp_idx hm
      refine r_ixSq (hS.sqF (i := 0) rfl) (atI_map hx68) _ ?_
      obtain ⟨h69, hm⟩ := R.wp_need hm
      refine r_fdiv h69 ?_
      refine ev_to ev_c ?_
      refine r_mod (by decide) ?_
      refine ev_to ev_c ?_
      refine ev_op2 (ev_eqI ev_c ev_c) ?_
      refine f_bl ?_
      refine ifK_J (τ := Folders) (fun (s70 : Folders) (σ : L2.St) (H : Hp) => σ = [some (.ref a_v_law_folders), some (.str (v_law_name)), some (.ref a_v_law_end), some (.ref a_v_law_row_here), some (.int (v_law_at)), some (.ref a_v_law_some_here), some (.int (x28)), some (.str (x45))] ∧ Sep H ([lstA p67 ([1, 2, 4] : (List Int)), FoldersA a_v_law_folders s70, lstA p61 ([1, 5, 25] : (List Int)), imA (.ref a58) (x51 : (List Str)), lstA p42 ([1, 6, 36] : (List Int)), imA (.ref a39) (x32 : (List Str)), lstA p23 (cutL x13 none (some ((x22 / 5) % 4)) : (List Str)), imA (.ref a20) (x13 : (List Str)), imA (.ref a_v_law_end) (v_law_end : (Str × (List Str))), lstA a_v_law_row_here (v_law_row_here : (List Int)), lstA a_v_law_some_here (v_law_some_here : (List (List Str))), F] : List (Asn G))) hm (fun hb q hm nx => ?_) (fun hb q hm nx => ?_) (fun s70 σ H hm hI => ?_)
      ·
        refine c_drop ?_
        refine c_meth ?_
        refine ev_to (ev_var rfl) ?_
        obtain ⟨d71, _, _, _, _, hO72⟩ := ins_Folders hS (i := 1) rfl
        refine ⟨_, _, _, rfl, hO72, rfl, ?_⟩
        refine ea_to (ea_cons (ev_var rfl) (ea_cons (ev_var rfl) ea_nil)) ?_
        refine ⟨a_v_law_folders, (r65 : Folders), v_law_name, x45, star [lstA p67 ([1, 2, 4] : (List Int)), lstA p61 ([1, 5, 25] : (List Int)), imA (.ref a58) (x51 : (List Str)), lstA p42 ([1, 6, 36] : (List Int)), imA (.ref a39) (x32 : (List Str)), lstA p23 (cutL x13 none (some ((x22 / 5) % 4)) : (List Str)), imA (.ref a20) (x13 : (List Str)), imA (.ref a_v_law_end) (v_law_end : (Str × (List Str))), lstA a_v_law_row_here (v_law_row_here : (List Int)), lstA a_v_law_some_here (v_law_some_here : (List (List Str))), F], rfl, Sep.unstar (M := [FoldersA a_v_law_folders r65]) (hS.sel [1, 0, 2, 3, 4, 5, 6, 7, 8, 9, 10, 11] (by decide) rfl : Sep H (([FoldersA a_v_law_folders r65] ++ [lstA p67 ([1, 2, 4] : (List Int)), lstA p61 ([1, 5, 25] : (List Int)), imA (.ref a58) (x51 : (List Str)), lstA p42 ([1, 6, 36] : (List Int)), imA (.ref a39) (x32 : (List Str)), lstA p23 (cutL x13 none (some ((x22 / 5) % 4)) : (List Str)), imA (.ref a20) (x13 : (List Str)), imA (.ref a_v_law_end) (v_law_end : (Str × (List Str))), lstA a_v_law_row_here (v_law_row_here : (List Int)), lstA a_v_law_some_here (v_law_some_here : (List (List Str))), F] : List (Asn G)))), R.wp_mono (R.wp_bind hm) (fun r73 hm H hS => ?_) (fun _ z => z.elim)⟩
        have hS : Sep H ([FoldersA a_v_law_folders r73, lstA p67 ([1, 2, 4] : (List Int)), lstA p61 ([1, 5, 25] : (List Int)), imA (.ref a58) (x51 : (List Str)), lstA p42 ([1, 6, 36] : (List Int)), imA (.ref a39) (x32 : (List Str)), lstA p23 (cutL x13 none (some ((x22 / 5) % 4)) : (List Str)), imA (.ref a20) (x13 : (List Str)), imA (.ref a_v_law_end) (v_law_end : (Str × (List Str))), lstA a_v_law_row_here (v_law_row_here : (List Int)), lstA a_v_law_some_here (v_law_some_here : (List (List Str))), F] : List (Asn G)) := Sep.star (M := [FoldersA a_v_law_folders r73]) hS
        exact nx _ _ _ hm ⟨rfl, hS.sel [1, 0, 2, 3, 4, 5, 6, 7, 8, 9, 10, 11] (by decide) rfl⟩
      ·
        refine st_nx ?_
        exact nx _ _ _ hm ⟨rfl, hS.sel [0, 1, 2, 3, 4, 5, 6, 7, 8, 9, 10, 11] (by decide) rfl⟩
      · obtain ⟨rfl, hS⟩ := hI
        exact nx _ _ _ hm ⟨_, _, rfl, hS.sel [1, 6, 7, 8, 9, 10, 11] (by decide) rfl⟩
    · obtain ⟨w30, w31, rfl, hS⟩ := hI
      refine sq_nx ?_
      refine f_seq ?_
      refine c_for ?_
      refine c_il ?_
      refine c_fz ?_
      refine c_meth ?_
      refine ev_to (ev_var rfl) ?_
      obtain ⟨d74, _, _, _, _, hO75⟩ := ins_Folders hS (i := 0) rfl
      refine ⟨_, _, _, rfl, hO75, rfl, ?_⟩
      refine ea_to (ea_cons (ev_var rfl) ea_nil) ?_
      refine ⟨a_v_law_folders, (s27 : Folders), v_law_name, star [lstA p23 (cutL x13 none (some ((x22 / 5) % 4)) : (List Str)), imA (.ref a20) (x13 : (List Str)), imA (.ref a_v_law_end) (v_law_end : (Str × (List Str))), lstA a_v_law_row_here (v_law_row_here : (List Int)), lstA a_v_law_some_here (v_law_some_here : (List (List Str))), F], rfl, Sep.unstar (M := [FoldersA a_v_law_folders s27]) (hS.sel [0, 1, 2, 3, 4, 5, 6] (by decide) rfl : Sep H (([FoldersA a_v_law_folders s27] ++ [lstA p23 (cutL x13 none (some ((x22 / 5) % 4)) : (List Str)), imA (.ref a20) (x13 : (List Str)), imA (.ref a_v_law_end) (v_law_end : (Str × (List Str))), lstA a_v_law_row_here (v_law_row_here : (List Int)), lstA a_v_law_some_here (v_law_some_here : (List (List Str))), F] : List (Asn G)))), R.wp_mono (R.wp_bind hm) (fun r76 hm p77 H hS => ?_) (fun _ z => z.elim)⟩
      have hS : Sep H ([lstA p77 (r76 : (List Str)), FoldersA a_v_law_folders s27, lstA p23 (cutL x13 none (some ((x22 / 5) % 4)) : (List Str)), imA (.ref a20) (x13 : (List Str)), imA (.ref a_v_law_end) (v_law_end : (Str × (List Str))), lstA a_v_law_row_here (v_law_row_here : (List Int)), lstA a_v_law_some_here (v_law_some_here : (List (List Str))), F] : List (Asn G)) := Sep.star (M := [lstA p77 (r76 : (List Str)), FoldersA a_v_law_folders s27]) hS
      refine fz_no ?_
      refine k_il hS (i := 0) rfl ?_
      refine k_for (τ := Folders) (fun (s78 : Folders) (σ : L2.St) (H : Hp) => ∃ (w81 : Option V), σ = [some (.ref a_v_law_folders), some (.str (v_law_name)), some (.ref a_v_law_end), some (.ref a_v_law_row_here), some (.int (v_law_at)), some (.ref a_v_law_some_here), w30, w81] ∧ Sep H ([lstA p77 (r76 : (List Str)), FoldersA a_v_law_folders s78, lstA p23 (cutL x13 none (some ((x22 / 5) % 4)) : (List Str)), imA (.ref a20) (x13 : (List Str)), imA (.ref a_v_law_end) (v_law_end : (Str × (List Str))), lstA a_v_law_row_here (v_law_row_here : (List Int)), lstA a_v_law_some_here (v_law_some_here : (List (List Str))), F] : List (Asn G))) (im := (Im.im G)) (s := (s27)) (fun _ => wk_list fun _ _ ⟨_, _, h⟩ => h.sq (i := 0) rfl) ⟨_, rfl, hS.sel [0, 1, 2, 3, 4, 5, 6, 7] (by decide) rfl⟩ hm (fun s78 x79 v80 σ H q N hI hx hm nx => ?_) (fun s78 σ H hm hI => ?_)
      ·
        obtain ⟨w81, rfl, hS⟩ := hI
        cases hx
        refine c_gN (σ' := [some (.ref a_v_law_folders), some (.str (v_law_name)), some (.ref a_v_law_end), some (.ref a_v_law_row_here), some (.int (v_law_at)), some (.ref a_v_law_some_here), w30, some (.str (x79))]) rfl ?_
        refine f_if ?_
        obtain ⟨u82, u83, hT86, h84, h85⟩ := im2 (hS.im (i := 4) rfl)
        obtain rfl : u82 = (.str (v_law_end.1)) := h84
        obtain ⟨a87, rfl⟩ := isref h85
        refine et_to (et_test (ev_niPl h85 (ev_var rfl) (ev_ixT (ev_var rfl) ev_c hT86 rfl))) ?_
        refine ifK_J (τ := Folders) (fun (s88 : Folders) (σ : L2.St) (H : Hp) => σ = [some (.ref a_v_law_folders), some (.str (v_law_name)), some (.ref a_v_law_end), some (.ref a_v_law_row_here), some (.int (v_law_at)), some (.ref a_v_law_some_here), w30, some (.str (x79))] ∧ Sep H ([lstA p77 (r76 : (List Str)), FoldersA a_v_law_folders s88, lstA p23 (cutL x13 none (some ((x22 / 5) % 4)) : (List Str)), imA (.ref a20) (x13 : (List Str)), imA (.ref a_v_law_end) (v_law_end : (Str × (List Str))), lstA a_v_law_row_here (v_law_row_here : (List Int)), lstA a_v_law_some_here (v_law_some_here : (List (List Str))), F] : List (Asn G))) hm (fun hb q hm nx => ?_) (fun hb q hm nx => ?_) (fun s88 σ H hm hI => ?_)
        ·
          refine c_drop ?_
          refine c_meth ?_
          refine ev_to (ev_var rfl) ?_
          obtain ⟨d89, _, _, _, _, hO90⟩ := ins_Folders hS (i := 1) rfl
          refine ⟨_, _, _, rfl, hO90, rfl, ?_⟩
          refine ea_to (ea_cons (ev_var rfl) (ea_cons (ev_var rfl) ea_nil)) ?_
          refine ⟨a_v_law_folders, (s78 : Folders), v_law_name, x79, star [lstA p77 (r76 : (List Str)), lstA p23 (cutL x13 none (some ((x22 / 5) % 4)) : (List Str)), imA (.ref a20) (x13 : (List Str)), imA (.ref a_v_law_end) (v_law_end : (Str × (List Str))), lstA a_v_law_row_here (v_law_row_here : (List Int)), lstA a_v_law_some_here (v_law_some_here : (List (List Str))), F], rfl, Sep.unstar (M := [FoldersA a_v_law_folders s78]) (hS.sel [1, 0, 2, 3, 4, 5, 6, 7] (by decide) rfl : Sep H (([FoldersA a_v_law_folders s78] ++ [lstA p77 (r76 : (List Str)), lstA p23 (cutL x13 none (some ((x22 / 5) % 4)) : (List Str)), imA (.ref a20) (x13 : (List Str)), imA (.ref a_v_law_end) (v_law_end : (Str × (List Str))), lstA a_v_law_row_here (v_law_row_here : (List Int)), lstA a_v_law_some_here (v_law_some_here : (List (List Str))), F] : List (Asn G)))), R.wp_mono (R.wp_bind hm) (fun r91 hm H hS => ?_) (fun _ z => z.elim)⟩
          have hS : Sep H ([FoldersA a_v_law_folders r91, lstA p77 (r76 : (List Str)), lstA p23 (cutL x13 none (some ((x22 / 5) % 4)) : (List Str)), imA (.ref a20) (x13 : (List Str)), imA (.ref a_v_law_end) (v_law_end : (Str × (List Str))), lstA a_v_law_row_here (v_law_row_here : (List Int)), lstA a_v_law_some_here (v_law_some_here : (List (List Str))), F] : List (Asn G)) := Sep.star (M := [FoldersA a_v_law_folders r91]) hS
          exact nx _ _ _ hm ⟨rfl, hS.sel [1, 0, 2, 3, 4, 5, 6, 7] (by decide) rfl⟩
        ·
          refine st_nx ?_
          exact nx _ _ _ hm ⟨rfl, hS.sel [0, 1, 2, 3, 4, 5, 6, 7] (by decide) rfl⟩
        · obtain ⟨rfl, hS⟩ := hI
          exact nx _ _ _ hm ⟨_, rfl, hS.sel [0, 1, 2, 3, 4, 5, 6, 7] (by decide) rfl⟩
      · obtain ⟨w81, rfl, hS⟩ := hI
        refine sq_nx ?_
        refine f_seq ?_
        refine c_for ?_
        refine c_il ?_
        refine c_fz ?_
        refine c_rev ?_
        obtain ⟨u92, u93, hT96, h94, h95⟩ := im2 (hS.im (i := 4) rfl)
        obtain rfl : u92 = (.str (v_law_end.1)) := h94
        obtain ⟨a97, rfl⟩ := isref h95
        refine ev_to (ev_ixT (ev_var rfl) ev_c hT96 rfl) ?_
        have hS := hS.addIm (v := (.ref a97)) (x := (v_law_end.2 : (List Str))) h95
        refine k_rev hS (imPl (hS.im (i := 0) rfl)) fun p99 H hS => ?_
        refine fz_no ?_
        refine k_il hS (i := 0) rfl ?_
        refine k_for (τ := Folders) (fun (s100 : Folders) (σ : L2.St) (H : Hp) => ∃ (w103 : Option V), σ = [some (.ref a_v_law_folders), some (.str (v_law_name)), some (.ref a_v_law_end), some (.ref a_v_law_row_here), some (.int (v_law_at)), some (.ref a_v_law_some_here), w30, w103] ∧ Sep H ([lstA p99 (v_law_end.2.reverse : (List Str)), imA (.ref a97) (v_law_end.2 : (List Str)), lstA p77 (r76 : (List Str)), FoldersA a_v_law_folders s100, lstA p23 (cutL x13 none (some ((x22 / 5) % 4)) : (List Str)), imA (.ref a20) (x13 : (List Str)), imA (.ref a_v_law_end) (v_law_end : (Str × (List Str))), lstA a_v_law_row_here (v_law_row_here : (List Int)), lstA a_v_law_some_here (v_law_some_here : (List (List Str))), F] : List (Asn G))) (im := (Im.im G)) (s := (s78)) (fun _ => wk_list fun _ _ ⟨_, _, h⟩ => h.sq (i := 0) rfl) ⟨_, rfl, hS.sel [0, 1, 2, 3, 4, 5, 6, 7, 8, 9] (by decide) rfl⟩ hm (fun s100 x101 v102 σ H q N hI hx hm nx => ?_) (fun s100 σ H hm hI => ?_)
        ·
          obtain ⟨w103, rfl, hS⟩ := hI
          cases hx
          refine c_gN (σ' := [some (.ref a_v_law_folders), some (.str (v_law_name)), some (.ref a_v_law_end), some (.ref a_v_law_row_here), some (.int (v_law_at)), some (.ref a_v_law_some_here), w30, some (.str (x101))]) rfl ?_
          refine c_drop ?_
          refine c_meth ?_
          refine ev_to (ev_var rfl) ?_
          obtain ⟨d104, _, _, _, _, hO105⟩ := ins_Folders hS (i := 3) rfl
          refine ⟨_, _, _, rfl, hO105, rfl, ?_⟩
          refine ea_to (ea_cons (ev_var rfl) (ea_cons (ev_var rfl) ea_nil)) ?_
          refine ⟨a_v_law_folders, (s100 : Folders), v_law_name, x101, star [lstA p99 (v_law_end.2.reverse : (List Str)), imA (.ref a97) (v_law_end.2 : (List Str)), lstA p77 (r76 : (List Str)), lstA p23 (cutL x13 none (some ((x22 / 5) % 4)) : (List Str)), imA (.ref a20) (x13 : (List Str)), imA (.ref a_v_law_end) (v_law_end : (Str × (List Str))), lstA a_v_law_row_here (v_law_row_here : (List Int)), lstA a_v_law_some_here (v_law_some_here : (List (List Str))), F], rfl, Sep.unstar (M := [FoldersA a_v_law_folders s100]) (hS.sel [3, 0, 1, 2, 4, 5, 6, 7, 8, 9] (by decide) rfl : Sep H (([FoldersA a_v_law_folders s100] ++ [lstA p99 (v_law_end.2.reverse : (List Str)), imA (.ref a97) (v_law_end.2 : (List Str)), lstA p77 (r76 : (List Str)), lstA p23 (cutL x13 none (some ((x22 / 5) % 4)) : (List Str)), imA (.ref a20) (x13 : (List Str)), imA (.ref a_v_law_end) (v_law_end : (Str × (List Str))), lstA a_v_law_row_here (v_law_row_here : (List Int)), lstA a_v_law_some_here (v_law_some_here : (List (List Str))), F] : List (Asn G)))), R.wp_mono (R.wp_bind hm) (fun r106 hm H hS => ?_) (fun _ z => z.elim)⟩
          have hS : Sep H ([FoldersA a_v_law_folders r106, lstA p99 (v_law_end.2.reverse : (List Str)), imA (.ref a97) (v_law_end.2 : (List Str)), lstA p77 (r76 : (List Str)), lstA p23 (cutL x13 none (some ((x22 / 5) % 4)) : (List Str)), imA (.ref a20) (x13 : (List Str)), imA (.ref a_v_law_end) (v_law_end : (Str × (List Str))), lstA a_v_law_row_here (v_law_row_here : (List Int)), lstA a_v_law_some_here (v_law_some_here : (List (List Str))), F] : List (Asn G)) := Sep.star (M := [FoldersA a_v_law_folders r106]) hS
          exact nx _ _ _ hm ⟨_, rfl, hS.sel [1, 2, 3, 0, 4, 5, 6, 7, 8, 9] (by decide) rfl⟩
        · obtain ⟨w103, rfl, hS⟩ := hI
          refine sq_nx ?_
          refine f_seq ?_
          refine c_drop ?_
          refine c_meth ?_
          refine ev_to (ev_var rfl) ?_
          obtain ⟨d107, _, _, _, _, hO108⟩ := ins_Folders hS (i := 3) rfl
          refine ⟨_, _, _, rfl, hO108, rfl, ?_⟩
          obtain ⟨u109, u110, hT113, h111, h112⟩ := im2 (hS.im (i := 6) rfl)
          obtain rfl : u109 = (.str (v_law_end.1)) := h111
          obtain ⟨a114, rfl⟩ := isref h112
          refine ea_to (ea_cons (ev_var rfl) (ea_cons (ev_ixT (ev_var rfl) ev_c hT113 rfl) ea_nil)) ?_
          refine ⟨a_v_law_folders, (s100 : Folders), v_law_name, v_law_end.1, star [lstA p99 (v_law_end.2.reverse : (List Str)), imA (.ref a97) (v_law_end.2 : (List Str)), lstA p77 (r76 : (List Str)), lstA p23 (cutL x13 none (some ((x22 / 5) % 4)) : (List Str)), imA (.ref a20) (x13 : (List Str)), imA (.ref a_v_law_end) (v_law_end : (Str × (List Str))), lstA a_v_law_row_here (v_law_row_here : (List Int)), lstA a_v_law_some_here (v_law_some_here : (List (List Str))), F], rfl, Sep.unstar (M := [FoldersA a_v_law_folders s100]) (hS.sel [3, 0, 1, 2, 4, 5, 6, 7, 8, 9] (by decide) rfl : Sep H (([FoldersA a_v_law_folders s100] ++ [lstA p99 (v_law_end.2.reverse : (List Str)), imA (.ref a97) (v_law_end.2 : (List Str)), lstA p77 (r76 : (List Str)), lstA p23 (cutL x13 none (some ((x22 / 5) % 4)) : (List Str)), imA (.ref a20) (x13 : (List Str)), imA (.ref a_v_law_end) (v_law_end : (Str × (List Str))), lstA a_v_law_row_here (v_law_row_here : (List Int)), lstA a_v_law_some_here (v_law_some_here : (List (List Str))), F] : List (Asn G)))), R.wp_mono (R.wp_bind hm) (fun r115 hm H hS => ?_) (fun _ z => z.elim)⟩
          have hS : Sep H ([FoldersA a_v_law_folders r115, lstA p99 (v_law_end.2.reverse : (List Str)), imA (.ref a97) (v_law_end.2 : (List Str)), lstA p77 (r76 : (List Str)), lstA p23 (cutL x13 none (some ((x22 / 5) % 4)) : (List Str)), imA (.ref a20) (x13 : (List Str)), imA (.ref a_v_law_end) (v_law_end : (Str × (List Str))), lstA a_v_law_row_here (v_law_row_here : (List Int)), lstA a_v_law_some_here (v_law_some_here : (List (List Str))), F] : List (Asn G)) := Sep.star (M := [FoldersA a_v_law_folders r115]) hS
          refine sq_nx ?_
          refine c_ret ?_
          refine ev_to (ev_var rfl) ?_
          have hS := hS.addIm (v := (.ref a_v_law_folders)) (x := (Opq.mk : Opq)) opq_i
          exact hm _ _ (hS.sel [0, 1, 8, 9, 10] (by decide) rfl)
def sp_law_counted_plainly (G : Gx) : Sp := fun vs H Q E => ∃ (a_v_law_folders : Addr) (v_law_folders : Folders) (v_law_box : Str) (a_v_law_words : Addr) (v_law_words : (List Str)) (F : Asn G), vs = [.ref a_v_law_folders, (.str (v_law_box)), (.ref a_v_law_words)] ∧ Im.im G H (.ref a_v_law_words) v_law_words ∧ Sep H ([FoldersA a_v_law_folders v_law_folders, F] : List (Asn G)) ∧ R.wp (m_law_counted_plainly v_law_folders v_law_box v_law_words) (fun r => ∀ H', Sep H' ([FoldersA a_v_law_folders v_law_folders, F] : List (Asn G)) → Q (.bl (r)) H') (fun _ => False)
abbrev N_law_counted_plainly : List Str := ["_law_folders", "_law_box", "_law_words", "_law_names", "_law_word_here", "_law_name", "_law_unseen"]
theorem sc_law_counted_plainly : FnScope N_law_counted_plainly ["_law_folders", "_law_box", "_law_words"] (defScope s_law_counted_plainly) := ⟨rfl, rfl, rfl, by decide +kernel, rfl, by decide +kernel, by decide +kernel⟩
theorem ok_law_counted_plainly (T : Txt G mg) : FnOk P w G.K mg base CX0 3 T.a_law_counted_plainly T.fd_law_counted_plainly ["_law_folders", "_law_box", "_law_words"] (sp_law_counted_plainly G) := by
  have nd := sc_law_counted_plainly.nd
  refine Fun.ok T.F_law_counted_plainly sc_law_counted_plainly (fun vs H Q E h => ?_) (fun cdv A outer s H vs Q E hr h => ?_)
  · obtain ⟨a_v_law_folders, v_law_folders, v_law_box, a_v_law_words, v_law_words, F, rfl, _⟩ := h; rfl
  · obtain ⟨a_v_law_folders, v_law_folders, v_law_box, a_v_law_words, v_law_words, F, rfl, him_v_law_words, hS, hm⟩ := h
    have hS := hS.addIm him_v_law_words
    refine ⟨_, (pss_cons (ps_set (i := 3) nd rfl (Or.inl rfl) (pe_fz (pe_meth (pv 0) T.cl_Folders T.m_Folders_names (ok_Folders_names T) (hr.mono (by decide)) T.b_Folders_names .nil pass0 (pa_cons (pv 1) pa_nil))))
      (pss_cons (ps_for PassesOwn.never rfl (pi_listK G.K (pv 2)) (pg_name (i := 4) nd rfl (Or.inr rfl)) (pss_one (ps_if (pt_cmpR op_ne (pe_meth (pv 0) T.cl_Folders T.m_Folders_marked (ok_Folders_marked T) (hr.mono (by decide)) T.b_Folders_marked .nil pass0 (pa_cons (pv 1) (pa_cons (pv 4) pa_nil))) (pe_callB (lenSqK G.K) (by rfl) T.z_len PySem.boot_len (pa_cons (pe_fz (pe_lc (own := [("_law_name", 5)]) (g := gName 5) rfl nd (pi_listK G.K (pe_fz (pv 3))) (blkOk_by (own := [("_law_name", 5)]) (N := N_law_counted_plainly) (sc := defScope s_law_counted_plainly) (by decide +kernel)) (fun _ _ _ _ _ => pg_name (i := 5) nd rfl (Or.inl rfl)) (fun _ _ _ _ _ => pts_one (pt_cmpR (inSqK G.K) (pv 4) (pe_fz (pe_meth (pv 0) T.cl_Folders T.m_Folders_marks (ok_Folders_marks T) (hr.mono (by decide)) T.b_Folders_marks .nil passL (pa_cons (pv 5) pa_nil))) (by rfl))) (fun _ _ _ _ _ => (pv 5)))) pa_nil)) (nomark _)) (pss_one (ps_ret pe_bl)) pss_nil)))
      (pss_cons (ps_setLc (i := 6) (own := [("_law_name", 5)]) (g := gName 5) rfl nd rfl rfl (sw_true rfl rfl rfl (by decide +kernel)) (pi_listK G.K (pe_fz (pv 3))) (blkOk_by (own := [("_law_name", 5)]) (N := N_law_counted_plainly) (sc := defScope s_law_counted_plainly) (by decide +kernel)) (fun _ _ _ _ _ => pg_name (i := 5) nd rfl (Or.inl rfl)) (fun _ _ _ _ _ => pts_one (pt_cmpR (niSqK G.K) pe_str (pe_fz (pe_meth (pv 0) T.cl_Folders T.m_Folders_marks (ok_Folders_marks T) (hr.mono (by decide)) T.b_Folders_marks .nil passL (pa_cons (pv 5) pa_nil))) (by rfl))) (fun _ _ _ _ _ => (pv 5)))
      (pss_cons (ps_for PassesOwn.never rfl (pi_listK G.K (pe_fz (pv 3))) (pg_name (i := 5) nd rfl (Or.inl rfl)) (pss_one (ps_if (pt_cmpR op_ne (pe_meth (pv 0) T.cl_Folders T.m_Folders_folder (ok_Folders_folder T) (hr.mono (by decide)) T.b_Folders_folder .nil passL (pa_cons (pv 5) pa_nil)) (pv 1) (nomark _)) (pss_one (ps_ret pe_bl)) pss_nil)))
      (pss_one (ps_ret (pe_cmpR (eqDK G.K hr.units) (pe_meth (pv 0) T.cl_Folders T.m_Folders_counts (ok_Folders_counts T) (hr.mono (by decide)) T.b_Folders_counts .nil pass0 (pa_cons (pv 1) pa_nil)) (pe_tup (pa_cons (pe_callB (lenSqK G.K) (by rfl) T.z_len PySem.boot_len (pa_cons (pe_fz (pv 3)) pa_nil)) (pa_cons (pe_callB (lenSqK G.K) (by rfl) T.z_len PySem.boot_len (pa_cons (pe_fz (pv 6)) pa_nil)) pa_nil))) (nomark _)))))))), ?_⟩
    unfold m_law_counted_plainly at hm
    refine f_seq ?_
    refine c_asg ?_
    refine c_fz ?_
    refine c_meth ?_
    refine ev_to (ev_var rfl) ?_
    obtain ⟨d1, _, _, _, _, hO2⟩ := ins_Folders hS (i := 1) rfl
    refine ⟨_, _, _, rfl, hO2, rfl, ?_⟩
    refine ea_to (ea_cons (ev_var rfl) ea_nil) ?_
    refine ⟨a_v_law_folders, (v_law_folders : Folders), v_law_box, star [imA (.ref a_v_law_words) (v_law_words : (List Str)), F], rfl, Sep.unstar (M := [FoldersA a_v_law_folders v_law_folders]) (hS.sel [1, 0, 2] (by decide) rfl : Sep H (([FoldersA a_v_law_folders v_law_folders] ++ [imA (.ref a_v_law_words) (v_law_words : (List Str)), F] : List (Asn G)))), R.wp_mono (R.wp_bind hm) (fun r3 hm p4 H hS => ?_) (fun _ z => z)⟩
    have hS : Sep H ([lstA p4 (r3 : (List Str)), FoldersA a_v_law_folders v_law_folders, imA (.ref a_v_law_words) (v_law_words : (List Str)), F] : List (Asn G)) := Sep.star (M := [lstA p4 (r3 : (List Str)), FoldersA a_v_law_folders v_law_folders]) hS
    refine fz_no ?_
    refine c_set (σ' := [some (.ref a_v_law_folders), some (.str (v_law_box)), some (.ref a_v_law_words), some (.ref p4), none, none, none]) rfl ?_
    refine sq_nx ?_
    refine f_seq ?_
    refine c_for ?_
    refine c_il ?_
    refine ev_to (ev_var rfl) ?_
    refine k_ilG (imPl (hS.im (i := 2) rfl)) ?_
    refine k_forF (τ := Unit) (fun (s5 : Unit) (σ : L2.St) (H : Hp) => ∃ (w8 : Option V), σ = [some (.ref a_v_law_folders), some (.str (v_law_box)), some (.ref a_v_law_words), some (.ref p4), w8, none, none] ∧ Sep H ([lstA p4 (r3 : (List Str)), FoldersA a_v_law_folders v_law_folders, imA (.ref a_v_law_words) (v_law_words : (List Str)), F] : List (Asn G))) (im := (Im.im G)) (s := ()) (fun _ => wk_list fun _ _ ⟨_, _, h⟩ => imPl (h.im (i := 2) rfl)) ⟨_, rfl, hS.sel [0, 1, 2, 3] (by decide) rfl⟩ hm (fun s5 x6 v7 σ H q N B hI hx hm nx bk ho9 => ?_) (fun s5 σ H hm hI => ?_)
    ·
      obtain ⟨w8, rfl, hS⟩ := hI
      cases hx
      refine c_gN (σ' := [some (.ref a_v_law_folders), some (.str (v_law_box)), some (.ref a_v_law_words), some (.ref p4), some (.str (x6)), none, none]) rfl ?_
      refine f_if ?_
      refine f_test ?_
      refine c_op ?_
      refine c_meth ?_
      refine ev_to (ev_var rfl) ?_
      obtain ⟨d10, _, _, _, _, hO11⟩ := ins_Folders hS (i := 1) rfl
      refine ⟨_, _, _, rfl, hO11, rfl, ?_⟩
      refine ea_to (ea_cons (ev_var rfl) (ea_cons (ev_var rfl) ea_nil)) ?_
      refine ⟨a_v_law_folders, (v_law_folders : Folders), v_law_box, x6, star [lstA p4 (r3 : (List Str)), imA (.ref a_v_law_words) (v_law_words : (List Str)), F], rfl, Sep.unstar (M := [FoldersA a_v_law_folders v_law_folders]) (hS.sel [1, 0, 2, 3] (by decide) rfl : Sep H (([FoldersA a_v_law_folders v_law_folders] ++ [lstA p4 (r3 : (List Str)), imA (.ref a_v_law_words) (v_law_words : (List Str)), F] : List (Asn G)))), R.wp_mono (R.wp_bind hm) (fun r12 hm H hS => ?_) (fun _ z => z)⟩
      have hS : Sep H ([FoldersA a_v_law_folders v_law_folders, lstA p4 (r3 : (List Str)), imA (.ref a_v_law_words) (v_law_words : (List Str)), F] : List (Asn G)) := Sep.star (M := [FoldersA a_v_law_folders v_law_folders]) hS
      refine c_cb ?_
      refine c_cons ?_
      refine c_fz ?_
      refine c_lc ?_
      refine c_il ?_
      refine ev_to (ev_fz (ev_var rfl)) ?_
      refine k_il hS (i := 1) rfl ?_
      obtain ⟨h13, hm⟩ := R.wp_need hm
      refine lc_sep (β := Str) (fun (_ : Unit) => ([FoldersA a_v_law_folders v_law_folders, lstA p4 (r3 : (List Str)), imA (.ref a_v_law_words) (v_law_words : (List Str)), F] : List (Asn G))) (s := ()) (im := (Im.im G)) hS (fun _ _ _ => wk_list fun _ _ h => h.sq (i := 2) rfl) h13 hm (fun p14 _ ys17 x15 v16 H q Nx hS hx hm kS kN => ?_) (fun p14 t H hm hS => ?_)
      ·
        cases hx
        refine c_gLc (σ' := [some (.ref a_v_law_folders), some (.str (v_law_box)), some (.ref a_v_law_words), some (.ref p4), some (.str (x6)), some (.str (x15)), none]) rfl rfl ?_
        refine f_test ?_
        refine c_op ?_
        refine ev_to (ev_var rfl) ?_
        refine c_fz ?_
        refine c_meth ?_
        refine ev_to (ev_var rfl) ?_
        obtain ⟨d18, _, _, _, _, hO19⟩ := ins_Folders hS (i := 1) rfl
        refine ⟨_, _, _, rfl, hO19, rfl, ?_⟩
        refine ea_to (ea_cons (ev_var rfl) ea_nil) ?_
        refine ⟨a_v_law_folders, (v_law_folders : Folders), x15, star [lstA p14 (ys17 : List Str), lstA p4 (r3 : (List Str)), imA (.ref a_v_law_words) (v_law_words : (List Str)), F], rfl, Sep.unstar (M := [FoldersA a_v_law_folders v_law_folders]) (hS.sel [1, 0, 2, 3, 4] (by decide) rfl : Sep H (([FoldersA a_v_law_folders v_law_folders] ++ [lstA p14 (ys17 : List Str), lstA p4 (r3 : (List Str)), imA (.ref a_v_law_words) (v_law_words : (List Str)), F] : List (Asn G)))), R.wp_mono (R.wp_bind hm) (fun r20 hm p21 H hS => ?_) (fun _ z => z.elim)⟩
        have hS : Sep H ([lstA p21 (r20 : (List Str)), FoldersA a_v_law_folders v_law_folders, lstA p14 (ys17 : List Str), lstA p4 (r3 : (List Str)), imA (.ref a_v_law_words) (v_law_words : (List Str)), F] : List (Asn G)) := Sep.star (M := [lstA p21 (r20 : (List Str)), FoldersA a_v_law_folders v_law_folders]) hS
        refine fz_no ?_
        refine ev_op2 (ev_inL hS (i := 0) rfl ev_c ev_c) ?_
        refine f_bl ?_
        refine lc_if (fun hb22 => ?_) (fun hb22 => ?_)
        · have hm := R.wp_ifY hm hb22
          refine ev_to (ev_var rfl) ?_
          exact kS () _ _ _ hm rfl (hS.sel [2, 1, 3, 4, 5] (by decide) rfl)
        · have hm := R.wp_ifN hm (by first | (rw [hb22]; decide) | simpa using hb22)
          exact kN () _ hm (hS.sel [2, 1, 3, 4, 5] (by decide) rfl)
      · revert hm hS; generalize t = t23; intro hm hS
        refine fz_no ?_
        refine c_nil ?_
        refine k_lenG (hS.sq (i := 0) rfl) ?_
        refine ev_op2 (ev_neI ev_c ev_c) ?_
        refine f_bl ?_
        refine ifK_2 (fun hb24 => ?_) (fun hb24 => ?_)
        · have hm := R.wp_ifY hm hb24
          refine c_ret ?_
          refine ev_to ev_c ?_
          exact (ho9 _ hm) _ (hS.sel [1, 4] (by decide) rfl)
        · have hm := R.wp_ifN hm (by first | (rw [hb24]; decide) | simpa using hb24)
          refine st_nx ?_
          exact nx _ _ _ hm ⟨_, rfl, hS.sel [2, 1, 3, 4] (by decide) rfl⟩
    · obtain ⟨w8, rfl, hS⟩ := hI
      refine sq_nx ?_
      refine f_seq ?_
      refine c_asg ?_
      refine c_lc ?_
      refine c_il ?_
      refine ev_to (ev_fz (ev_var rfl)) ?_
      refine k_il hS (i := 0) rfl ?_
      obtain ⟨h25, hm⟩ := R.wp_need hm
      refine lc_sep (β := Str) (fun (_ : Unit) => ([lstA p4 (r3 : (List Str)), FoldersA a_v_law_folders v_law_folders, imA (.ref a_v_law_words) (v_law_words : (List Str)), F] : List (Asn G))) (s := ()) (im := (Im.im G)) hS (fun _ _ _ => wk_list fun _ _ h => h.sq (i := 1) rfl) h25 hm (fun p26 _ ys29 x27 v28 H q Nx hS hx hm kS kN => ?_) (fun p26 t H hm hS => ?_)
      ·
        cases hx
        refine c_gLc (σ' := [some (.ref a_v_law_folders), some (.str (v_law_box)), some (.ref a_v_law_words), some (.ref p4), w8, some (.str (x27)), none]) rfl rfl ?_
        refine f_test ?_
        refine c_op ?_
        refine ev_to ev_c ?_
        refine c_fz ?_
        refine c_meth ?_
        refine ev_to (ev_var rfl) ?_
        obtain ⟨d30, _, _, _, _, hO31⟩ := ins_Folders hS (i := 2) rfl
        refine ⟨_, _, _, rfl, hO31, rfl, ?_⟩
        refine ea_to (ea_cons (ev_var rfl) ea_nil) ?_
        refine ⟨a_v_law_folders, (v_law_folders : Folders), x27, star [lstA p26 (ys29 : List Str), lstA p4 (r3 : (List Str)), imA (.ref a_v_law_words) (v_law_words : (List Str)), F], rfl, Sep.unstar (M := [FoldersA a_v_law_folders v_law_folders]) (hS.sel [2, 0, 1, 3, 4] (by decide) rfl : Sep H (([FoldersA a_v_law_folders v_law_folders] ++ [lstA p26 (ys29 : List Str), lstA p4 (r3 : (List Str)), imA (.ref a_v_law_words) (v_law_words : (List Str)), F] : List (Asn G)))), R.wp_mono (R.wp_bind hm) (fun r32 hm p33 H hS => ?_) (fun _ z => z.elim)⟩
        have hS : Sep H ([lstA p33 (r32 : (List Str)), FoldersA a_v_law_folders v_law_folders, lstA p26 (ys29 : List Str), lstA p4 (r3 : (List Str)), imA (.ref a_v_law_words) (v_law_words : (List Str)), F] : List (Asn G)) := Sep.star (M := [lstA p33 (r32 : (List Str)), FoldersA a_v_law_folders v_law_folders]) hS
        refine fz_no ?_
        refine ev_op2 (ev_niL hS (i := 0) rfl ev_c ev_c) ?_
        refine f_bl ?_
        refine lc_if (fun hb34 => ?_) (fun hb34 => ?_)
        · have hm := R.wp_ifY hm hb34
          refine ev_to (ev_var rfl) ?_
          exact kS () _ _ _ hm rfl (hS.sel [2, 3, 1, 4, 5] (by decide) rfl)
        · have hm := R.wp_ifN hm (by first | (rw [hb34]; decide) | simpa using hb34)
          exact kN () _ hm (hS.sel [2, 3, 1, 4, 5] (by decide) rfl)
      · revert hm hS; generalize t = t35; intro hm hS
        refine c_set (σ' := [some (.ref a_v_law_folders), some (.str (v_law_box)), some (.ref a_v_law_words), some (.ref p4), w8, none, some (.ref p26)]) rfl ?_
        refine sq_nx ?_
        refine f_seq ?_
        refine c_for ?_
        refine c_il ?_
        refine ev_to (ev_fz (ev_var rfl)) ?_
        refine k_il hS (i := 1) rfl ?_
        refine k_forF (τ := Unit) (fun (s36 : Unit) (σ : L2.St) (H : Hp) => ∃ (w39 : Option V), σ = [some (.ref a_v_law_folders), some (.str (v_law_box)), some (.ref a_v_law_words), some (.ref p4), w8, w39, some (.ref p26)] ∧ Sep H ([lstA p26 (t35.2 : (List Str)), lstA p4 (r3 : (List Str)), FoldersA a_v_law_folders v_law_folders, imA (.ref a_v_law_words) (v_law_words : (List Str)), F] : List (Asn G))) (im := (Im.im G)) (s := ()) (fun _ => wk_list fun _ _ ⟨_, _, h⟩ => h.sq (i := 1) rfl) ⟨_, rfl, hS.sel [0, 1, 2, 3, 4] (by decide) rfl⟩ hm (fun s36 x37 v38 σ H q N B hI hx hm nx bk ho40 => ?_) (fun s36 σ H hm hI => ?_)
        ·
          obtain ⟨w39, rfl, hS⟩ := hI
          cases hx
          refine c_gN (σ' := [some (.ref a_v_law_folders), some (.str (v_law_box)), some (.ref a_v_law_words), some (.ref p4), w8, some (.str (x37)), some (.ref p26)]) rfl ?_
          refine f_if ?_
          refine f_test ?_
          refine c_op ?_
          refine c_meth ?_
          refine ev_to (ev_var rfl) ?_
          obtain ⟨d41, _, _, _, _, hO42⟩ := ins_Folders hS (i := 2) rfl
          refine ⟨_, _, _, rfl, hO42, rfl, ?_⟩
          refine ea_to (ea_cons (ev_var rfl) ea_nil) ?_
          refine ⟨a_v_law_folders, (v_law_folders : Folders), x37, star [lstA p26 (t35.2 : (List Str)), lstA p4 (r3 : (List Str)), imA (.ref a_v_law_words) (v_law_words : (List Str)), F], rfl, Sep.unstar (M := [FoldersA a_v_law_folders v_law_folders]) (hS.sel [2, 0, 1, 3, 4] (by decide) rfl : Sep H (([FoldersA a_v_law_folders v_law_folders] ++ [lstA p26 (t35.2 : (List Str)), lstA p4 (r3 : (List Str)), imA (.ref a_v_law_words) (v_law_words : (List Str)), F] : List (Asn G)))), R.wp_mono (R.wp_bind hm) (fun r43 hm H hS => ?_) (fun _ z => z.elim)⟩
          have hS : Sep H ([FoldersA a_v_law_folders v_law_folders, lstA p26 (t35.2 : (List Str)), lstA p4 (r3 : (List Str)), imA (.ref a_v_law_words) (v_law_words : (List Str)), F] : List (Asn G)) := Sep.star (M := [FoldersA a_v_law_folders v_law_folders]) hS
          refine ev_to (ev_var rfl) ?_
          refine ev_op2 (ev_neS ev_c ev_c) ?_
          refine f_bl ?_
          refine ifK_2 (fun hb44 => ?_) (fun hb44 => ?_)
          · have hm := R.wp_ifY hm hb44
            refine c_ret ?_
            refine ev_to ev_c ?_
            exact (ho40 _ hm) _ (hS.sel [0, 4] (by decide) rfl)
          · have hm := R.wp_ifN hm (by first | (rw [hb44]; decide) | simpa using hb44)
            refine st_nx ?_
            exact nx _ _ _ hm ⟨_, rfl, hS.sel [1, 2, 0, 3, 4] (by decide) rfl⟩
        · obtain ⟨w39, rfl, hS⟩ := hI
          refine sq_nx ?_
          refine c_ret ?_
          refine c_op ?_
          refine c_meth ?_
          refine ev_to (ev_var rfl) ?_
          obtain ⟨d45, _, _, _, _, hO46⟩ := ins_Folders hS (i := 2) rfl
          refine ⟨_, _, _, rfl, hO46, rfl, ?_⟩
          refine ea_to (ea_cons (ev_var rfl) ea_nil) ?_
          refine ⟨a_v_law_folders, (v_law_folders : Folders), v_law_box, star [lstA p26 (t35.2 : (List Str)), lstA p4 (r3 : (List Str)), imA (.ref a_v_law_words) (v_law_words : (List Str)), F], rfl, Sep.unstar (M := [FoldersA a_v_law_folders v_law_folders]) (hS.sel [2, 0, 1, 3, 4] (by decide) rfl : Sep H (([FoldersA a_v_law_folders v_law_folders] ++ [lstA p26 (t35.2 : (List Str)), lstA p4 (r3 : (List Str)), imA (.ref a_v_law_words) (v_law_words : (List Str)), F] : List (Asn G)))), R.wp_mono (R.wp_bind hm) (fun r47 hm p48 H hS => ?_) (fun _ z => z)⟩
          have hS : Sep H ([imA (.ref p48) (r47 : (Int × Int)), FoldersA a_v_law_folders v_law_folders, lstA p26 (t35.2 : (List Str)), lstA p4 (r3 : (List Str)), imA (.ref a_v_law_words) (v_law_words : (List Str)), F] : List (Asn G)) := Sep.star (M := [imA (.ref p48) (r47 : (Int × Int)), FoldersA a_v_law_folders v_law_folders]) hS
          refine c_tup ?_
          refine ea_to (ea_cons (ev_lenLm (ev_fz (ev_var rfl)) (hS.sqF (i := 3) rfl)) (ea_cons (ev_lenLm (ev_fz (ev_var rfl)) (hS.sqF (i := 2) rfl)) ea_nil)) ?_
          refine k_tupP (x := (((r3.length : Int), (t35.2.length : Int)) : (Int × Int))) hS (fun H' p h s => mk2 rfl rfl h s) (by show 2 ≤ sizeLine; decide) fun p50 H hS => ?_
          obtain ⟨h52, hm⟩ := R.wp_need hm
          obtain ⟨h53, hm⟩ := R.wp_need hm
          refine ev_op2 (ev_eqP (G := G) (x := (r47 : (Int × Int))) (y := ((r3.length : Int), (t35.2.length : Int))) ev_c ev_c (Pd.dp (hS.im (i := 1) rfl)) (Pd.dp (hS.im (i := 0) rfl)) h52 h53 (Nat.le_of_ble_eq_true rfl)) ?_
          exact hm _ (hS.sel [2, 6] (by decide) rfl)
def sp_law_seen (G : Gx) : Sp := fun vs H Q E => ∃ (a_v_law_folders : Addr) (v_law_folders : Folders) (a_v_law_ends : Addr) (v_law_ends : (List (Str × (Str × (List Str))))) (a_v_law_some_here : Addr) (v_law_some_here : (List (List Str))) (F : Asn G), vs = [.ref a_v_law_folders, .ref a_v_law_ends, .ref a_v_law_some_here] ∧ Sep H ([FoldersA a_v_law_folders v_law_folders, dictA a_v_law_ends (v_law_ends : (List (Str × (Str × (List Str))))), lstA a_v_law_some_here (v_law_some_here : (List (List Str))), F] : List (Asn G)) ∧ R.wp (m_law_seen v_law_folders v_law_ends v_law_some_here) (fun r => ∀ (p : Addr) H', Sep H' ([imA (.ref p) (r : (List Any)), FoldersA a_v_law_folders v_law_folders, dictA a_v_law_ends (v_law_ends : (List (Str × (Str × (List Str))))), lstA a_v_law_some_here (v_law_some_here : (List (List Str))), F] : List (Asn G)) → Q (.ref p) H') (fun _ => False)
abbrev N_law_seen : List Str := ["_law_folders", "_law_ends", "_law_some_here", "_law_found", "_law_name", "_law_box", "_law_word_here"]
theorem sc_law_seen : FnScope N_law_seen ["_law_folders", "_law_ends", "_law_some_here"] (defScope s_law_seen) := ⟨rfl, rfl, rfl, by decide +kernel, rfl, by decide +kernel, by decide +kernel⟩
theorem ok_law_seen (T : Txt G mg) : FnOk P w G.K mg base CX0 3 T.a_law_seen T.fd_law_seen ["_law_folders", "_law_ends", "_law_some_here"] (sp_law_seen G) := by
  have nd := sc_law_seen.nd
  refine Fun.ok T.F_law_seen sc_law_seen (fun vs H Q E h => ?_) (fun cdv A outer s H vs Q E hr h => ?_)
  · obtain ⟨a_v_law_folders, v_law_folders, a_v_law_ends, v_law_ends, a_v_law_some_here, v_law_some_here, F, rfl, _⟩ := h; rfl
  · obtain ⟨a_v_law_folders, v_law_folders, a_v_law_ends, v_law_ends, a_v_law_some_here, v_law_some_here, F, rfl, hS, hm⟩ := h
    refine ⟨_, (pss_cons (ps_set (i := 3) nd rfl (Or.inl rfl) (pe_fz (pe_lst (pa_cons (pe_fz (pe_meth0 (pv 0) T.cl_Folders T.m_Folders_folders (ok_Folders_folders T) (hr.mono (by decide)) T.b_Folders_folders .nil pass0)) pa_nil))))
      (pss_cons (ps_for PassesOwn.never rfl (pi_listK G.K (pe_fz (pe_callB (cr_sortD rfl) (by rfl) T.z_sorted (by decide +kernel) (pa_cons (pv 1) pa_nil)))) (pg_name (i := 4) nd rfl (Or.inl rfl)) (pss_one (ps_expr (pe_bmK G.K PySem.F.plainAttrs_list PySem.F.slot_list_append PySem.F.type_list_append mt_append (pe_fz (pv 3)) (pa_cons (pe_tup (pa_cons (pe_meth (pv 0) T.cl_Folders T.m_Folders_folder (ok_Folders_folder T) (hr.mono (by decide)) T.b_Folders_folder .nil passL (pa_cons (pv 4) pa_nil)) (pa_cons (pe_fz (pe_meth (pv 0) T.cl_Folders T.m_Folders_marks (ok_Folders_marks T) (hr.mono (by decide)) T.b_Folders_marks .nil passL (pa_cons (pv 4) pa_nil))) pa_nil))) pa_nil)))))
      (pss_cons (ps_for PassesOwn.never rfl (pi_listK G.K (pe_ix (ix_listK G.K) (pe_fz (pv 2)) pe_int (fun _ _ => rfl))) (pg_name (i := 5) nd rfl (Or.inr rfl)) (pss_cons (ps_expr (pe_bmK G.K PySem.F.plainAttrs_list PySem.F.slot_list_append PySem.F.type_list_append mt_append (pe_fz (pv 3)) (pa_cons (pe_tup (pa_cons (pe_meth (pv 0) T.cl_Folders T.m_Folders_counts (ok_Folders_counts T) (hr.mono (by decide)) T.b_Folders_counts .nil pass0 (pa_cons (pv 5) pa_nil)) (pa_cons (pe_fz (pe_meth (pv 0) T.cl_Folders T.m_Folders_names (ok_Folders_names T) (hr.mono (by decide)) T.b_Folders_names .nil pass0 (pa_cons (pv 5) pa_nil))) pa_nil))) pa_nil)))
      (pss_one (ps_expr (pe_bmK G.K PySem.F.plainAttrs_list PySem.F.slot_list_append PySem.F.type_list_append mt_append (pe_fz (pv 3)) (pa_cons (pe_fz (pe_lc (own := [("_law_word_here", 6)]) (g := gName 6) rfl nd (pi_listK G.K (pe_ix (ix_listK G.K) (pe_fz (pv 2)) pe_int (fun _ _ => rfl))) (blkOk_by (own := [("_law_word_here", 6)]) (N := N_law_seen) (sc := defScope s_law_seen) (by decide +kernel)) (fun _ _ _ _ _ => pg_name (i := 6) nd rfl (Or.inl rfl)) (fun _ _ _ _ _ => pts_nil) (fun _ _ _ _ _ => (pe_meth (pv 0) T.cl_Folders T.m_Folders_marked (ok_Folders_marked T) (hr.mono (by decide)) T.b_Folders_marked .nil pass0 (pa_cons (pv 5) (pa_cons (pv 6) pa_nil)))))) pa_nil))))))
      (pss_one (ps_ret (pe_fz (pv 3))))))), ?_⟩
    unfold m_law_seen at hm
    refine f_seq ?_
    refine c_asg ?_
    refine c_fz ?_
    refine c_lst ?_
    refine c_cons ?_
    refine c_fz ?_
    refine c_meth ?_
    refine ev_to (ev_var rfl) ?_
    obtain ⟨d1, _, _, _, _, hO2⟩ := ins_Folders hS (i := 0) rfl
    refine ⟨_, _, _, rfl, hO2, rfl, ?_⟩
    refine ea_to ea_nil ?_
    refine ⟨a_v_law_folders, (v_law_folders : Folders), star [dictA a_v_law_ends (v_law_ends : (List (Str × (Str × (List Str))))), lstA a_v_law_some_here (v_law_some_here : (List (List Str))), F], rfl, Sep.unstar (M := [FoldersA a_v_law_folders v_law_folders]) (hS.sel [0, 1, 2, 3] (by decide) rfl : Sep H (([FoldersA a_v_law_folders v_law_folders] ++ [dictA a_v_law_ends (v_law_ends : (List (Str × (Str × (List Str))))), lstA a_v_law_some_here (v_law_some_here : (List (List Str))), F] : List (Asn G)))), R.wp_mono (R.wp_bind hm) (fun r3 hm p4 H hS => ?_) (fun _ z => z)⟩
    have hS : Sep H ([lstA p4 (r3 : (List (T3 Str Int Int))), FoldersA a_v_law_folders v_law_folders, dictA a_v_law_ends (v_law_ends : (List (Str × (Str × (List Str))))), lstA a_v_law_some_here (v_law_some_here : (List (List Str))), F] : List (Asn G)) := Sep.star (M := [lstA p4 (r3 : (List (T3 Str Int Int))), FoldersA a_v_law_folders v_law_folders]) hS
    refine fz_yes (xs := (r3 : (List (T3 Str Int Int)))) hS (i := 0) rfl fun H hS => ?_
    have hS : Sep H ([imA (.ref p4) (r3 : (List (T3 Str Int Int))), FoldersA a_v_law_folders v_law_folders, dictA a_v_law_ends (v_law_ends : (List (Str × (Str × (List Str))))), lstA a_v_law_some_here (v_law_some_here : (List (List Str))), F] : List (Asn G)) := hS
    refine c_nil ?_
    refine k_lst (α := Any) (vs := [(.ref p4)]) (xs := [(Any.lst (r3.map sii))]) hS ⟨(any_lstSII (hS.im (i := 0) rfl)), True.intro⟩ (by show 1 ≤ sizeLine; decide) fun p6 H hS => ?_
    refine fz_no ?_
    obtain ⟨y7, hy7, hm⟩ := wp_let hm
    have hS : Sep H ([lstA p6 (y7 : (List Any)), imA (.ref p4) (r3 : (List (T3 Str Int Int))), FoldersA a_v_law_folders v_law_folders, dictA a_v_law_ends (v_law_ends : (List (Str × (Str × (List Str))))), lstA a_v_law_some_here (v_law_some_here : (List (List Str))), F] : List (Asn G)) := by rw [← hy7]; exact hS
    refine c_set (σ' := [some (.ref a_v_law_folders), some (.ref a_v_law_ends), some (.ref a_v_law_some_here), some (.ref p6), none, none, none]) rfl ?_
    refine sq_nx ?_
    refine f_seq ?_
    refine c_for ?_
    refine c_il ?_
    refine c_fz ?_
    refine c_cb ?_
    refine ea_to (ea_cons (ev_var rfl) ea_nil) ?_
    obtain ⟨h9, hm⟩ := R.wp_need hm
    refine k_sortDA hS (i := 3) rfl h9 fun p8 H hS => ?_
    refine fz_no ?_
    refine k_il hS (i := 0) rfl ?_
    refine k_for (τ := (List Any)) (fun (s10 : (List Any)) (σ : L2.St) (H : Hp) => ∃ (w13 : Option V), σ = [some (.ref a_v_law_folders), some (.ref a_v_law_ends), some (.ref a_v_law_some_here), some (.ref p6), w13, none, none] ∧ Sep H ([lstA p8 (sortT (v_law_ends.map (·.1)) : (List Str)), lstA p6 (s10 : (List Any)), imA (.ref p4) (r3 : (List (T3 Str Int Int))), FoldersA a_v_law_folders v_law_folders, dictA a_v_law_ends (v_law_ends : (List (Str × (Str × (List Str))))), lstA a_v_law_some_here (v_law_some_here : (List (List Str))), F] : List (Asn G))) (im := (Im.im G)) (s := (y7)) (fun _ => wk_list fun _ _ ⟨_, _, h⟩ => h.sq (i := 0) rfl) ⟨_, rfl, hS.sel [0, 1, 2, 3, 4, 5, 6] (by decide) rfl⟩ hm (fun s10 x11 v12 σ H q N hI hx hm nx => ?_) (fun s10 σ H hm hI => ?_)
    ·
      obtain ⟨w13, rfl, hS⟩ := hI
      cases hx
      refine c_gN (σ' := [some (.ref a_v_law_folders), some (.ref a_v_law_ends), some (.ref a_v_law_some_here), some (.ref p6), some (.str (x11)), none, none]) rfl ?_
      refine c_drop ?_
      refine c_bm ?_
      refine ev_to (ev_fz (ev_var rfl)) ⟨tyL hS (i := 1) rfl, ?_⟩
      refine c_cons ?_
      refine c_tup ?_
      refine c_cons ?_
      refine c_meth ?_
      refine ev_to (ev_var rfl) ?_
      obtain ⟨d14, _, _, _, _, hO15⟩ := ins_Folders hS (i := 3) rfl
      refine ⟨_, _, _, rfl, hO15, rfl, ?_⟩
      refine ea_to (ea_cons (ev_var rfl) ea_nil) ?_
      refine ⟨a_v_law_folders, (v_law_folders : Folders), x11, star [lstA p8 (sortT (v_law_ends.map (·.1)) : (List Str)), lstA p6 (s10 : (List Any)), imA (.ref p4) (r3 : (List (T3 Str Int Int))), dictA a_v_law_ends (v_law_ends : (List (Str × (Str × (List Str))))), lstA a_v_law_some_here (v_law_some_here : (List (List Str))), F], rfl, Sep.unstar (M := [FoldersA a_v_law_folders v_law_folders]) (hS.sel [3, 0, 1, 2, 4, 5, 6] (by decide) rfl : Sep H (([FoldersA a_v_law_folders v_law_folders] ++ [lstA p8 (sortT (v_law_ends.map (·.1)) : (List Str)), lstA p6 (s10 : (List Any)), imA (.ref p4) (r3 : (List (T3 Str Int Int))), dictA a_v_law_ends (v_law_ends : (List (Str × (Str × (List Str))))), lstA a_v_law_some_here (v_law_some_here : (List (List Str))), F] : List (Asn G)))), R.wp_mono (R.wp_bind hm) (fun r16 hm H hS => ?_) (fun _ z => z.elim)⟩
      have hS : Sep H ([FoldersA a_v_law_folders v_law_folders, lstA p8 (sortT (v_law_ends.map (·.1)) : (List Str)), lstA p6 (s10 : (List Any)), imA (.ref p4) (r3 : (List (T3 Str Int Int))), dictA a_v_law_ends (v_law_ends : (List (Str × (Str × (List Str))))), lstA a_v_law_some_here (v_law_some_here : (List (List Str))), F] : List (Asn G)) := Sep.star (M := [FoldersA a_v_law_folders v_law_folders]) hS
      refine c_cons ?_
      refine c_fz ?_
      refine c_meth ?_
      refine ev_to (ev_var rfl) ?_
      obtain ⟨d17, _, _, _, _, hO18⟩ := ins_Folders hS (i := 0) rfl
      refine ⟨_, _, _, rfl, hO18, rfl, ?_⟩
      refine ea_to (ea_cons (ev_var rfl) ea_nil) ?_
      refine ⟨a_v_law_folders, (v_law_folders : Folders), x11, star [lstA p8 (sortT (v_law_ends.map (·.1)) : (List Str)), lstA p6 (s10 : (List Any)), imA (.ref p4) (r3 : (List (T3 Str Int Int))), dictA a_v_law_ends (v_law_ends : (List (Str × (Str × (List Str))))), lstA a_v_law_some_here (v_law_some_here : (List (List Str))), F], rfl, Sep.unstar (M := [FoldersA a_v_law_folders v_law_folders]) (hS.sel [0, 1, 2, 3, 4, 5, 6] (by decide) rfl : Sep H (([FoldersA a_v_law_folders v_law_folders] ++ [lstA p8 (sortT (v_law_ends.map (·.1)) : (List Str)), lstA p6 (s10 : (List Any)), imA (.ref p4) (r3 : (List (T3 Str Int Int))), dictA a_v_law_ends (v_law_ends : (List (Str × (Str × (List Str))))), lstA a_v_law_some_here (v_law_some_here : (List (List Str))), F] : List (Asn G)))), R.wp_mono (R.wp_bind hm) (fun r19 hm p20 H hS => ?_) (fun _ z => z.elim)⟩
      have hS : Sep H ([lstA p20 (r19 : (List Str)), FoldersA a_v_law_folders v_law_folders, lstA p8 (sortT (v_law_ends.map (·.1)) : (List Str)), lstA p6 (s10 : (List Any)), imA (.ref p4) (r3 : (List (T3 Str Int Int))), dictA a_v_law_ends (v_law_ends : (List (Str × (Str × (List Str))))), lstA a_v_law_some_here (v_law_some_here : (List (List Str))), F] : List (Asn G)) := Sep.star (M := [lstA p20 (r19 : (List Str)), FoldersA a_v_law_folders v_law_folders]) hS
      refine fz_yes (xs := (r19 : (List Str))) hS (i := 0) rfl fun H hS => ?_
      have hS : Sep H ([imA (.ref p20) (r19 : (List Str)), FoldersA a_v_law_folders v_law_folders, lstA p8 (sortT (v_law_ends.map (·.1)) : (List Str)), lstA p6 (s10 : (List Any)), imA (.ref p4) (r3 : (List (T3 Str Int Int))), dictA a_v_law_ends (v_law_ends : (List (Str × (Str × (List Str))))), lstA a_v_law_some_here (v_law_some_here : (List (List Str))), F] : List (Asn G)) := hS
      refine c_nil ?_
      refine k_tupA (vs := [(.str (r16)), (.ref p20)]) (xs := [(Any.str r16), (Any.lst (r19.map Any.str))]) hS ⟨(any_str.mpr rfl), ⟨(any_lstS (hS.im (i := 0) rfl)), True.intro⟩⟩ (by show 2 ≤ sizeLine; decide) fun p22 H hS => ?_
      refine c_nil ?_
      obtain ⟨h24, hm⟩ := R.wp_need hm
      refine k_append (x := (Any.tup [(Any.str r16), (Any.lst (r19.map Any.str))])) hS (i := 4) rfl (hS.im (i := 0) rfl) h24 rfl fun H hS => ?_
      exact nx _ _ _ hm ⟨_, rfl, hS.sel [3, 4, 5, 2, 6, 7, 8] (by decide) rfl⟩
    · obtain ⟨w13, rfl, hS⟩ := hI
      refine sq_nx ?_
      refine f_seq ?_
      refine c_for ?_
      refine c_il ?_
      obtain ⟨x25, hx25, hm⟩ := wp_idx hm
      obtain ⟨vs26, hq27, hM28⟩ := hS.sq (i := 5) rfl
      obtain ⟨u29, hu30, hi31⟩ := atI_im hM28 hx25
      obtain ⟨a32, rfl⟩ := isref hi31
      refine ev_to (ev_ixSq (ev_fz (ev_var rfl)) ev_c hq27 hu30) ?_
      have hS := hS.addIm (v := (.ref a32)) (x := (x25 : (List Str))) hi31
      refine k_ilG (imPl (hS.im (i := 0) rfl)) ?_
      refine k_for (τ := (List Any)) (fun (s34 : (List Any)) (σ : L2.St) (H : Hp) => ∃ (w37 : Option V), σ = [some (.ref a_v_law_folders), some (.ref a_v_law_ends), some (.ref a_v_law_some_here), some (.ref p6), w13, w37, none] ∧ Sep H ([imA (.ref a32) (x25 : (List Str)), lstA p8 (sortT (v_law_ends.map (·.1)) : (List Str)), lstA p6 (s34 : (List Any)), imA (.ref p4) (r3 : (List (T3 Str Int Int))), FoldersA a_v_law_folders v_law_folders, dictA a_v_law_ends (v_law_ends : (List (Str × (Str × (List Str))))), lstA a_v_law_some_here (v_law_some_here : (List (List Str))), F] : List (Asn G))) (im := (Im.im G)) (s := (s10)) (fun _ => wk_list fun _ _ ⟨_, _, h⟩ => imPl (h.im (i := 0) rfl)) ⟨_, rfl, hS.sel [0, 1, 2, 3, 4, 5, 6, 7] (by decide) rfl⟩ hm (fun s34 x35 v36 σ H q N hI hx hm nx => ?_) (fun s34 σ H hm hI => ?_)
      ·
        obtain ⟨w37, rfl, hS⟩ := hI
        cases hx
        refine c_gN (σ' := [some (.ref a_v_law_folders), some (.ref a_v_law_ends), some (.ref a_v_law_some_here), some (.ref p6), w13, some (.str (x35)), none]) rfl ?_
        refine f_seq ?_
        refine c_drop ?_
        refine c_bm ?_
        refine ev_to (ev_fz (ev_var rfl)) ⟨tyL hS (i := 2) rfl, ?_⟩
        refine c_cons ?_
        refine c_tup ?_
        refine c_cons ?_
        refine c_meth ?_
        refine ev_to (ev_var rfl) ?_
        obtain ⟨d38, _, _, _, _, hO39⟩ := ins_Folders hS (i := 4) rfl
        refine ⟨_, _, _, rfl, hO39, rfl, ?_⟩
        refine ea_to (ea_cons (ev_var rfl) ea_nil) ?_
        refine ⟨a_v_law_folders, (v_law_folders : Folders), x35, star [imA (.ref a32) (x25 : (List Str)), lstA p8 (sortT (v_law_ends.map (·.1)) : (List Str)), lstA p6 (s34 : (List Any)), imA (.ref p4) (r3 : (List (T3 Str Int Int))), dictA a_v_law_ends (v_law_ends : (List (Str × (Str × (List Str))))), lstA a_v_law_some_here (v_law_some_here : (List (List Str))), F], rfl, Sep.unstar (M := [FoldersA a_v_law_folders v_law_folders]) (hS.sel [4, 0, 1, 2, 3, 5, 6, 7] (by decide) rfl : Sep H (([FoldersA a_v_law_folders v_law_folders] ++ [imA (.ref a32) (x25 : (List Str)), lstA p8 (sortT (v_law_ends.map (·.1)) : (List Str)), lstA p6 (s34 : (List Any)), imA (.ref p4) (r3 : (List (T3 Str Int Int))), dictA a_v_law_ends (v_law_ends : (List (Str × (Str × (List Str))))), lstA a_v_law_some_here (v_law_some_here : (List (List Str))), F] : List (Asn G)))), R.wp_mono (R.wp_bind hm) (fun r40 hm p41 H hS => ?_) (fun _ z => z)⟩
        have hS : Sep H ([imA (.ref p41) (r40 : (Int × Int)), FoldersA a_v_law_folders v_law_folders, imA (.ref a32) (x25 : (List Str)), lstA p8 (sortT (v_law_ends.map (·.1)) : (List Str)), lstA p6 (s34 : (List Any)), imA (.ref p4) (r3 : (List (T3 Str Int Int))), dictA a_v_law_ends (v_law_ends : (List (Str × (Str × (List Str))))), lstA a_v_law_some_here (v_law_some_here : (List (List Str))), F] : List (Asn G)) := Sep.star (M := [imA (.ref p41) (r40 : (Int × Int)), FoldersA a_v_law_folders v_law_folders]) hS
        refine c_cons ?_
        refine c_fz ?_
        refine c_meth ?_
        refine ev_to (ev_var rfl) ?_
        obtain ⟨d43, _, _, _, _, hO44⟩ := ins_Folders hS (i := 1) rfl
        refine ⟨_, _, _, rfl, hO44, rfl, ?_⟩
        refine ea_to (ea_cons (ev_var rfl) ea_nil) ?_
        refine ⟨a_v_law_folders, (v_law_folders : Folders), x35, star [imA (.ref p41) (r40 : (Int × Int)), imA (.ref a32) (x25 : (List Str)), lstA p8 (sortT (v_law_ends.map (·.1)) : (List Str)), lstA p6 (s34 : (List Any)), imA (.ref p4) (r3 : (List (T3 Str Int Int))), dictA a_v_law_ends (v_law_ends : (List (Str × (Str × (List Str))))), lstA a_v_law_some_here (v_law_some_here : (List (List Str))), F], rfl, Sep.unstar (M := [FoldersA a_v_law_folders v_law_folders]) (hS.sel [1, 0, 2, 3, 4, 5, 6, 7, 8] (by decide) rfl : Sep H (([FoldersA a_v_law_folders v_law_folders] ++ [imA (.ref p41) (r40 : (Int × Int)), imA (.ref a32) (x25 : (List Str)), lstA p8 (sortT (v_law_ends.map (·.1)) : (List Str)), lstA p6 (s34 : (List Any)), imA (.ref p4) (r3 : (List (T3 Str Int Int))), dictA a_v_law_ends (v_law_ends : (List (Str × (Str × (List Str))))), lstA a_v_law_some_here (v_law_some_here : (List (List Str))), F] : List (Asn G)))), R.wp_mono (R.wp_bind hm) (fun r45 hm p46 H hS => ?_) (fun _ z => z)⟩
        have hS : Sep H ([lstA p46 (r45 : (List Str)), FoldersA a_v_law_folders v_law_folders, imA (.ref p41) (r40 : (Int × Int)), imA (.ref a32) (x25 : (List Str)), lstA p8 (sortT (v_law_ends.map (·.1)) : (List Str)), lstA p6 (s34 : (List Any)), imA (.ref p4) (r3 : (List (T3 Str Int Int))), dictA a_v_law_ends (v_law_ends : (List (Str × (Str × (List Str))))), lstA a_v_law_some_here (v_law_some_here : (List (List Str))), F] : List (Asn G)) := Sep.star (M := [lstA p46 (r45 : (List Str)), FoldersA a_v_law_folders v_law_folders]) hS
        refine fz_yes (xs := (r45 : (List Str))) hS (i := 0) rfl fun H hS => ?_
        have hS : Sep H ([imA (.ref p46) (r45 : (List Str)), FoldersA a_v_law_folders v_law_folders, imA (.ref p41) (r40 : (Int × Int)), imA (.ref a32) (x25 : (List Str)), lstA p8 (sortT (v_law_ends.map (·.1)) : (List Str)), lstA p6 (s34 : (List Any)), imA (.ref p4) (r3 : (List (T3 Str Int Int))), dictA a_v_law_ends (v_law_ends : (List (Str × (Str × (List Str))))), lstA a_v_law_some_here (v_law_some_here : (List (List Str))), F] : List (Asn G)) := hS
        refine c_nil ?_
        obtain ⟨u48, u49, hT52, h50, h51⟩ := im2 (hS.im (i := 2) rfl)
        obtain rfl : u48 = (.int (r40.1)) := h50
        obtain rfl : u49 = (.int (r40.2)) := h51
        refine k_tupA (vs := [(.ref p41), (.ref p46)]) (xs := [(Any.tup [(Any.int r40.1), (Any.int r40.2)]), (Any.lst (r45.map Any.str))]) hS ⟨((any_tup (xs := [(Any.int r40.1), (Any.int r40.2)])).mpr ⟨_, _, rfl, hT52, ⟨(any_int.mpr rfl), ⟨(any_int.mpr rfl), True.intro⟩⟩⟩), ⟨(any_lstS (hS.im (i := 0) rfl)), True.intro⟩⟩ (by show 2 ≤ sizeLine; decide) fun p53 H hS => ?_
        refine c_nil ?_
        obtain ⟨h55, hm⟩ := R.wp_need hm
        refine k_append (x := (Any.tup [(Any.tup [(Any.int r40.1), (Any.int r40.2)]), (Any.lst (r45.map Any.str))])) hS (i := 6) rfl (hS.im (i := 0) rfl) h55 rfl fun H hS => ?_
        refine sq_nx ?_
        refine c_drop ?_
        refine c_bm ?_
        refine ev_to (ev_fz (ev_var rfl)) ⟨tyL hS (i := 6) rfl, ?_⟩
        refine c_cons ?_
        refine c_fz ?_
        refine c_lc ?_
        refine c_il ?_
        obtain ⟨x56, hx56, hm⟩ := wp_idx hm
        obtain ⟨vs57, hq58, hM59⟩ := hS.sq (i := 9) rfl
        obtain ⟨u60, hu61, hi62⟩ := atI_im hM59 hx56
        obtain ⟨a63, rfl⟩ := isref hi62
        refine ev_to (ev_ixSq (ev_fz (ev_var rfl)) ev_c hq58 hu61) ?_
        have hS := hS.addIm (v := (.ref a63)) (x := (x56 : (List Str))) hi62
        refine k_ilG (imPl (hS.im (i := 0) rfl)) ?_
        obtain ⟨h65, hm⟩ := R.wp_need hm
        refine lc_sep (β := Int) (fun (_ : Unit) => ([imA (.ref a63) (x56 : (List Str)), imA (.ref p53) ((Any.tup [(Any.tup [(Any.int r40.1), (Any.int r40.2)]), (Any.lst (r45.map Any.str))]) : Any), imA (.ref p46) (r45 : (List Str)), FoldersA a_v_law_folders v_law_folders, imA (.ref p41) (r40 : (Int × Int)), imA (.ref a32) (x25 : (List Str)), lstA p8 (sortT (v_law_ends.map (·.1)) : (List Str)), lstA p6 (s34 ++ [(Any.tup [(Any.tup [(Any.int r40.1), (Any.int r40.2)]), (Any.lst (r45.map Any.str))])] : (List Any)), imA (.ref p4) (r3 : (List (T3 Str Int Int))), dictA a_v_law_ends (v_law_ends : (List (Str × (Str × (List Str))))), lstA a_v_law_some_here (v_law_some_here : (List (List Str))), F] : List (Asn G))) (s := ()) (im := (Im.im G)) hS (fun _ _ _ => wk_list fun _ _ h => imPl (h.im (i := 1) rfl)) h65 hm (fun p66 _ ys69 x67 v68 H q Nx hS hx hm kS kN => ?_) (fun p66 t H hm hS => ?_)
        ·
          cases hx
          refine c_gLc (σ' := [some (.ref a_v_law_folders), some (.ref a_v_law_ends), some (.ref a_v_law_some_here), some (.ref p6), w13, some (.str (x35)), some (.str (x67))]) rfl rfl ?_
          refine c_yes ?_
          refine c_meth ?_
          refine ev_to (ev_var rfl) ?_
          obtain ⟨d70, _, _, _, _, hO71⟩ := ins_Folders hS (i := 4) rfl
          refine ⟨_, _, _, rfl, hO71, rfl, ?_⟩
          refine ea_to (ea_cons (ev_var rfl) (ea_cons (ev_var rfl) ea_nil)) ?_
          refine ⟨a_v_law_folders, (v_law_folders : Folders), x35, x67, star [lstA p66 (ys69 : List Int), imA (.ref a63) (x56 : (List Str)), imA (.ref p53) ((Any.tup [(Any.tup [(Any.int r40.1), (Any.int r40.2)]), (Any.lst (r45.map Any.str))]) : Any), imA (.ref p46) (r45 : (List Str)), imA (.ref p41) (r40 : (Int × Int)), imA (.ref a32) (x25 : (List Str)), lstA p8 (sortT (v_law_ends.map (·.1)) : (List Str)), lstA p6 (s34 ++ [(Any.tup [(Any.tup [(Any.int r40.1), (Any.int r40.2)]), (Any.lst (r45.map Any.str))])] : (List Any)), imA (.ref p4) (r3 : (List (T3 Str Int Int))), dictA a_v_law_ends (v_law_ends : (List (Str × (Str × (List Str))))), lstA a_v_law_some_here (v_law_some_here : (List (List Str))), F], rfl, Sep.unstar (M := [FoldersA a_v_law_folders v_law_folders]) (hS.sel [4, 0, 1, 2, 3, 5, 6, 7, 8, 9, 10, 11, 12] (by decide) rfl : Sep H (([FoldersA a_v_law_folders v_law_folders] ++ [lstA p66 (ys69 : List Int), imA (.ref a63) (x56 : (List Str)), imA (.ref p53) ((Any.tup [(Any.tup [(Any.int r40.1), (Any.int r40.2)]), (Any.lst (r45.map Any.str))]) : Any), imA (.ref p46) (r45 : (List Str)), imA (.ref p41) (r40 : (Int × Int)), imA (.ref a32) (x25 : (List Str)), lstA p8 (sortT (v_law_ends.map (·.1)) : (List Str)), lstA p6 (s34 ++ [(Any.tup [(Any.tup [(Any.int r40.1), (Any.int r40.2)]), (Any.lst (r45.map Any.str))])] : (List Any)), imA (.ref p4) (r3 : (List (T3 Str Int Int))), dictA a_v_law_ends (v_law_ends : (List (Str × (Str × (List Str))))), lstA a_v_law_some_here (v_law_some_here : (List (List Str))), F] : List (Asn G)))), R.wp_mono (R.wp_bind hm) (fun r72 hm H hS => ?_) (fun _ z => z)⟩
          have hS : Sep H ([FoldersA a_v_law_folders v_law_folders, lstA p66 (ys69 : List Int), imA (.ref a63) (x56 : (List Str)), imA (.ref p53) ((Any.tup [(Any.tup [(Any.int r40.1), (Any.int r40.2)]), (Any.lst (r45.map Any.str))]) : Any), imA (.ref p46) (r45 : (List Str)), imA (.ref p41) (r40 : (Int × Int)), imA (.ref a32) (x25 : (List Str)), lstA p8 (sortT (v_law_ends.map (·.1)) : (List Str)), lstA p6 (s34 ++ [(Any.tup [(Any.tup [(Any.int r40.1), (Any.int r40.2)]), (Any.lst (r45.map Any.str))])] : (List Any)), imA (.ref p4) (r3 : (List (T3 Str Int Int))), dictA a_v_law_ends (v_law_ends : (List (Str × (Str × (List Str))))), lstA a_v_law_some_here (v_law_some_here : (List (List Str))), F] : List (Asn G)) := Sep.star (M := [FoldersA a_v_law_folders v_law_folders]) hS
          exact kS () _ _ _ hm rfl (hS.sel [1, 2, 3, 4, 0, 5, 6, 7, 8, 9, 10, 11, 12] (by decide) rfl)
        · revert hm hS; generalize t = t73; intro hm hS
          refine fz_yes (xs := (t73.2 : (List Int))) hS (i := 0) rfl fun H hS => ?_
          have hS : Sep H ([imA (.ref p66) (t73.2 : (List Int)), imA (.ref a63) (x56 : (List Str)), imA (.ref p53) ((Any.tup [(Any.tup [(Any.int r40.1), (Any.int r40.2)]), (Any.lst (r45.map Any.str))]) : Any), imA (.ref p46) (r45 : (List Str)), FoldersA a_v_law_folders v_law_folders, imA (.ref p41) (r40 : (Int × Int)), imA (.ref a32) (x25 : (List Str)), lstA p8 (sortT (v_law_ends.map (·.1)) : (List Str)), lstA p6 (s34 ++ [(Any.tup [(Any.tup [(Any.int r40.1), (Any.int r40.2)]), (Any.lst (r45.map Any.str))])] : (List Any)), imA (.ref p4) (r3 : (List (T3 Str Int Int))), dictA a_v_law_ends (v_law_ends : (List (Str × (Str × (List Str))))), lstA a_v_law_some_here (v_law_some_here : (List (List Str))), F] : List (Asn G)) := hS
          refine c_nil ?_
          obtain ⟨h75, hm⟩ := R.wp_need hm
          refine k_append (x := (Any.lst (t73.2.map Any.int))) hS (i := 8) rfl (any_lstI (hS.im (i := 0) rfl)) h75 rfl fun H hS => ?_
          exact nx _ _ _ hm ⟨_, rfl, hS.sel [6, 7, 8, 9, 4, 10, 11, 12] (by decide) rfl⟩
      · obtain ⟨w37, rfl, hS⟩ := hI
        refine sq_nx ?_
        refine c_ret ?_
        refine c_fz ?_
        refine ev_to (ev_var rfl) ?_
        refine fz_yes (xs := (s34 : (List Any))) hS (i := 2) rfl fun H hS => ?_
        have hS : Sep H ([imA (.ref p6) (s34 : (List Any)), imA (.ref a32) (x25 : (List Str)), lstA p8 (sortT (v_law_ends.map (·.1)) : (List Str)), imA (.ref p4) (r3 : (List (T3 Str Int Int))), FoldersA a_v_law_folders v_law_folders, dictA a_v_law_ends (v_law_ends : (List (Str × (Str × (List Str))))), lstA a_v_law_some_here (v_law_some_here : (List (List Str))), F] : List (Asn G)) := hS
        exact hm _ _ (hS.sel [0, 4, 5, 6, 7] (by decide) rfl)
def sp_law (G : Gx) : Sp := fun vs H Q E => ∃ (a_v_law_script : V) (v_law_script : Script) (F : Asn G), vs = [a_v_law_script] ∧ Im.im G H a_v_law_script v_law_script ∧ Sep H ([F] : List (Asn G)) ∧ R.wp (m_law v_law_script) (fun r => ∀ H', Sep H' ([F] : List (Asn G)) → Q (.bl (r)) H') (fun _ => False)
abbrev N_law : List Str := ["_law_script", "_law_row_here", "_law_some_here", "_law_ends", "_law_k", "_law_number", "_law_many", "_law_turn", "_law_marks", "_law_name", "_law_one", "_law_other", "_law_order", "_law_first", "_law_sums", "_law_box", "_law_folder"]
theorem sc_law : FnScope N_law ["_law_script"] (defScope s_law) := ⟨rfl, rfl, rfl, by decide +kernel, rfl, by decide +kernel, by decide +kernel⟩
theorem ok_law (T : Txt G mg) : FnOk P w G.K mg base CX0 5 T.a_law T.fd_law ["_law_script"] (sp_law G) := by
  have nd := sc_law.nd
  refine Fun.ok T.F_law sc_law (fun vs H Q E h => ?_) (fun cdv A outer s H vs Q E hr h => ?_)
  · obtain ⟨a_v_law_script, v_law_script, F, rfl, _⟩ := h; rfl
  · obtain ⟨a_v_law_script, v_law_script, F, rfl, him_v_law_script, hS, hm⟩ := h
    obtain ⟨ad_v_law_script, rfl, _⟩ := im_script him_v_law_script
    have hS := hS.addIm him_v_law_script
    refine ⟨_, (pss_cons (ps_set (i := 1) nd rfl (Or.inl rfl) (pe_fz (pe_call (ok_law_row T) (hr.mono (by decide)) rfl T.g_law_row T.kp_law_row T.b_law_row .nil pass0 (pa_cons (pv 0) (pa_cons pe_int pa_nil)))))
      (pss_cons (ps_set (i := 2) nd rfl (Or.inr rfl) (pe_fz (pe_call (ok_law_some T) (hr.mono (by decide)) rfl T.g_law_some T.kp_law_some T.b_law_some .nil pass0 (pa_cons (pe_ix (ix_listK G.K) (pe_fz (pv 1)) pe_int (fun _ _ => rfl)) pa_nil))))
      (pss_cons (ps_set (i := 3) nd rfl (Or.inr rfl) pe_dnewK)
      (pss_cons (ps_for PassesOwn.never rfl (pi_range1 rfl T.z_range (pa_cons (pe_op op_mod (pe_ix (ix_listK G.K) (pe_fz (pv 1)) pe_int (fun _ _ => rfl)) pe_int) pa_nil)) (pg_name (i := 4) nd rfl (Or.inl rfl)) (pss_cons (ps_set (i := 5) nd rfl (Or.inr rfl) (pe_ix (ix_listK G.K) (pe_fz (pv 1)) (pe_op op_add pe_int (pv 4)) (fun _ _ => rfl)))
      (pss_cons (ps_set (i := 6) nd rfl (Or.inl rfl) (pe_op op_mod (pe_ix (ix_listK G.K) (pe_fz (pv 1)) (pe_op op_add pe_int (pv 4)) (fun _ _ => rfl)) pe_int))
      (pss_cons (ps_setLc (i := 8) (own := [("_law_turn", 7)]) (g := gName 7) rfl nd rfl rfl (sw_true rfl rfl rfl (by decide +kernel)) (pi_range1 rfl T.z_range (pa_cons (pv 6) pa_nil)) (blkOk_by (own := [("_law_turn", 7)]) (N := N_law) (sc := defScope s_law) (by decide +kernel)) (fun _ _ _ _ _ => pg_name (i := 7) nd rfl (Or.inl rfl)) (fun _ _ _ _ _ => pts_nil) (fun _ _ _ _ _ => (pe_ix (ix_listK G.K) (pe_ix (ix_listK G.K) (pe_fz (pv 2)) pe_int (fun _ _ => rfl)) (pe_op op_add pe_int (pe_op op_mod (pe_op op_fdiv (pv 5) (pe_ix (ix_listK G.K) (pe_fz (pe_lst (pa_cons pe_int (pa_cons pe_int (pa_cons pe_int pa_nil))))) (pv 7) (fun _ _ => rfl))) pe_int)) (fun _ _ => rfl))))
      (pss_cons (ps_set (i := 9) nd rfl (Or.inl rfl) (pe_ix (ix_listK G.K) (pe_ix (ix_listK G.K) (pe_fz (pv 2)) pe_int (fun _ _ => rfl)) (pe_op op_mod (pe_ix (ix_listK G.K) (pe_fz (pv 1)) (pe_op op_add pe_int (pv 4)) (fun _ _ => rfl)) pe_int) (fun _ _ => rfl)))
      (pss_one (ps_asg (pe_tup (pa_cons (pe_ix (ix_listK G.K) (pe_ix (ix_listK G.K) (pe_fz (pv 2)) pe_int (fun _ _ => rfl)) (pe_op op_mod (pe_ix (ix_listK G.K) (pe_fz (pv 1)) (pe_op op_add pe_int (pv 4)) (fun _ _ => rfl)) pe_int) (fun _ _ => rfl)) (pa_cons (pe_fz (pe_sortSetK G.K rfl (by rfl) T.z_sorted (by rfl) T.z_set (pe_fz (pv 8)))) pa_nil))) (pg_sub (pv 3) (pv 9) (set_dict (hu_of hr))))))))))
      (pss_cons (ps_set (i := 10) nd rfl (Or.inl rfl) (pe_make0 T.k_Folders (ok_Folders___init__ T) (hr.mono (by decide)) rfl T.g_Folders T.b_Folders___init__ .nil pass0))
      (pss_cons (ps_lock (ps_for PassesOwn.never rfl (pi_keys (pv 3)) (pg_name (i := 9) nd rfl (Or.inl rfl)) (pss_one (ps_expr (pe_meth (pv 10) T.cl_Folders T.m_Folders_add (ok_Folders_add T) (hr.mono (by decide)) T.b_Folders_add .nil passL (pa_cons (pv 9) (pa_cons (pe_ix (ix_tupK G.K) (pe_dget (hu_of hr) (pv 3) (pv 9) (fun _ _ => rfl)) pe_int (fun _ _ => rfl)) (pa_cons (pe_ix (ix_tupK G.K) (pe_dget (hu_of hr) (pv 3) (pv 9) (fun _ _ => rfl)) pe_int (fun _ _ => rfl)) pa_nil))))))))
      (pss_cons (ps_set (i := 11) nd rfl (Or.inr rfl) (pe_make0 T.k_Folders (ok_Folders___init__ T) (hr.mono (by decide)) rfl T.g_Folders T.b_Folders___init__ .nil pass0))
      (pss_cons (ps_set (i := 12) nd rfl (Or.inl rfl) (pe_fz (pe_callB (cr_sortD rfl) (by rfl) T.z_sorted (by decide +kernel) (pa_cons (pv 3) pa_nil))))
      (pss_cons (ps_if (pt_cmpR op_gt (pe_callB call_lenD (by rfl) T.z_len PySem.boot_len (pa_cons (pv 3) pa_nil)) pe_int (nomark _)) (pss_cons (ps_set (i := 13) nd rfl (Or.inl rfl) (pe_op op_mod (pe_ix (ix_listK G.K) (pe_fz (pv 1)) pe_int (fun _ _ => rfl)) (pe_callB call_lenD (by rfl) T.z_len PySem.boot_len (pa_cons (pv 3) pa_nil))))
      (pss_one (ps_set (i := 12) nd rfl (Or.inl rfl) (pe_fz (pe_stepLK G.K (pe_fz (pe_op op_catR (pe_fz (pe_slice (sl_listK G.K) (pe_fz (pv 12)) (po_some (pv 13)) po_none)) (pe_fz (pe_slice (sl_listK G.K) (pe_fz (pv 12)) po_none (po_some (pv 13)))))) (pe_ix (ix_listK G.K) (pe_fz (pe_lst (pa_cons pe_int (pa_cons (pe_un un_neg pe_int) pa_nil)))) (pe_op op_mod (pe_ix (ix_listK G.K) (pe_fz (pv 1)) pe_int (fun _ _ => rfl)) pe_int) (fun _ _ => rfl))))))) pss_nil)
      (pss_cons (ps_for PassesOwn.never rfl (pi_range1 rfl T.z_range (pa_cons (pe_callB (lenSqK G.K) (by rfl) T.z_len PySem.boot_len (pa_cons (pe_fz (pv 12)) pa_nil)) pa_nil)) (pg_name (i := 4) nd rfl (Or.inl rfl)) (pss_cons (ps_expr (pe_call (ok_law_road T) (hr.mono (by decide)) rfl T.g_law_road T.kp_law_road T.b_law_road .nil pass0 (pa_cons (pv 11) (pa_cons (pe_ix (ix_listK G.K) (pe_fz (pv 12)) (pv 4) (fun _ _ => rfl)) (pa_cons (pe_dget (hu_of hr) (pv 3) (pe_ix (ix_listK G.K) (pe_fz (pv 12)) (pv 4) (fun _ _ => rfl)) (fun _ _ => rfl)) (pa_cons (pe_fz (pv 1)) (pa_cons (pe_op op_add pe_int (pe_op op_mul pe_int (pv 4))) (pa_cons (pe_fz (pv 2)) pa_nil))))))))
      (pss_one (ps_if (PW.pt (pw_and (pt_cmpR op_eq (pe_op op_mod (pe_ix (ix_listK G.K) (pe_fz (pv 1)) (pe_op op_add pe_int (pe_op op_mod (pv 4) pe_int)) (fun _ _ => rfl)) pe_int) pe_int (nomark _)) (pw_and1 (pt_cmp (pc_dnotin (hu_of hr) (pe_ix (ix_listK G.K) (pe_ix (ix_listK G.K) (pe_fz (pv 2)) pe_int (fun _ _ => rfl)) pe_int (fun _ _ => rfl)) (pv 3)))))) (pss_cons (ps_expr (pe_meth (pv 11) T.cl_Folders T.m_Folders_add (ok_Folders_add_L T) (hr.mono (by decide)) T.b_Folders_add .nil passL (pa_cons (pe_ix (ix_listK G.K) (pe_ix (ix_listK G.K) (pe_fz (pv 2)) pe_int (fun _ _ => rfl)) pe_int (fun _ _ => rfl)) (pa_cons (pe_ix (ix_listK G.K) (pe_ix (ix_listK G.K) (pe_fz (pv 2)) pe_int (fun _ _ => rfl)) (pe_op op_mod (pe_ix (ix_listK G.K) (pe_fz (pv 1)) (pe_op op_add pe_int (pe_op op_mod (pv 4) pe_int)) (fun _ _ => rfl)) pe_int) (fun _ _ => rfl)) (pa_cons (pe_fz (pe_lst (pa_cons pe_str pa_nil))) pa_nil)))))
      (pss_one (ps_expr (pe_meth (pv 11) T.cl_Folders T.m_Folders_take_out (ok_Folders_take_out T) (hr.mono (by decide)) T.b_Folders_take_out .nil passL (pa_cons (pe_ix (ix_listK G.K) (pe_ix (ix_listK G.K) (pe_fz (pv 2)) pe_int (fun _ _ => rfl)) pe_int (fun _ _ => rfl)) pa_nil))))) pss_nil))))
      (pss_cons (ps_if (pt_cmpR (neDK G.K hr.units) (pe_call (ok_law_seen T) (hr.mono (by decide)) rfl T.g_law_seen T.kp_law_seen T.b_law_seen .nil pass0 (pa_cons (pv 10) (pa_cons (pv 3) (pa_cons (pe_fz (pv 2)) pa_nil)))) (pe_call (ok_law_seen T) (hr.mono (by decide)) rfl T.g_law_seen T.kp_law_seen T.b_law_seen .nil pass0 (pa_cons (pv 11) (pa_cons (pv 3) (pa_cons (pe_fz (pv 2)) pa_nil)))) (nomark _)) (pss_one (ps_ret pe_bl)) pss_nil)
      (pss_cons (ps_if (pt_cmpR (neDK G.K hr.units) (pe_fz (pe_lc (own := [("_law_name", 9)]) (g := gName 9) rfl nd (pi_listK G.K (pe_fz (pe_callB (cr_sortD rfl) (by rfl) T.z_sorted (by decide +kernel) (pa_cons (pv 3) pa_nil)))) (blkOk_by (own := [("_law_name", 9)]) (N := N_law) (sc := defScope s_law) (by decide +kernel)) (fun _ _ _ _ _ => pg_name (i := 9) nd rfl (Or.inl rfl)) (fun _ _ _ _ _ => pts_nil) (fun _ _ _ _ _ => (pe_tup (pa_cons (pe_meth (pv 11) T.cl_Folders T.m_Folders_folder (ok_Folders_folder T) (hr.mono (by decide)) T.b_Folders_folder .nil passL (pa_cons (pv 9) pa_nil)) (pa_cons (pe_fz (pe_meth (pv 11) T.cl_Folders T.m_Folders_marks (ok_Folders_marks T) (hr.mono (by decide)) T.b_Folders_marks .nil passL (pa_cons (pv 9) pa_nil))) pa_nil)))))) (pe_fz (pe_lc (own := [("_law_name", 9)]) (g := gName 9) rfl nd (pi_listK G.K (pe_fz (pe_callB (cr_sortD rfl) (by rfl) T.z_sorted (by decide +kernel) (pa_cons (pv 3) pa_nil)))) (blkOk_by (own := [("_law_name", 9)]) (N := N_law) (sc := defScope s_law) (by decide +kernel)) (fun _ _ _ _ _ => pg_name (i := 9) nd rfl (Or.inl rfl)) (fun _ _ _ _ _ => pts_nil) (fun _ _ _ _ _ => (pe_dget (hu_of hr) (pv 3) (pv 9) (fun _ _ => rfl))))) (nomark _)) (pss_one (ps_ret pe_bl)) pss_nil)
      (pss_cons (ps_set (i := 14) nd rfl (Or.inl rfl) pe_int)
      (pss_cons (ps_for PassesOwn.never rfl (pi_listK G.K (pe_ix (ix_listK G.K) (pe_fz (pv 2)) pe_int (fun _ _ => rfl))) (pg_name (i := 15) nd rfl (Or.inl rfl)) (pss_cons (ps_if (pt_not (pt_val (pe_call (ok_law_counted_plainly T) (hr.mono (by decide)) rfl T.g_law_counted_plainly T.kp_law_counted_plainly T.b_law_counted_plainly .nil pass0 (pa_cons (pv 10) (pa_cons (pv 15) (pa_cons (pe_ix (ix_listK G.K) (pe_fz (pv 2)) pe_int (fun _ _ => rfl)) pa_nil)))))) (pss_one (ps_ret pe_bl)) pss_nil)
      (pss_one (ps_if (pt_not (pt_val (pe_call (ok_law_counted_plainly T) (hr.mono (by decide)) rfl T.g_law_counted_plainly T.kp_law_counted_plainly T.b_law_counted_plainly .nil pass0 (pa_cons (pv 11) (pa_cons (pv 15) (pa_cons (pe_ix (ix_listK G.K) (pe_fz (pv 2)) pe_int (fun _ _ => rfl)) pa_nil)))))) (pss_one (ps_ret pe_bl)) pss_nil))))
      (pss_cons (ps_for PassesOwn.never rfl (pi_listK G.K (pe_fz (pe_meth0 (pv 11) T.cl_Folders T.m_Folders_folders (ok_Folders_folders T) (hr.mono (by decide)) T.b_Folders_folders .nil pass0))) (pg_name (i := 16) nd rfl (Or.inl rfl)) (pss_one (ps_aug (i := 14) nd rfl (Or.inl rfl) (pe_ix (ix_tupK G.K) (pv 16) pe_int (fun _ _ => rfl)) ip_add)))
      (pss_one (ps_ret (pe_cmpR op_eq (pv 14) (pe_callB call_lenD (by rfl) T.z_len PySem.boot_len (pa_cons (pv 3) pa_nil)) (nomark _))))))))))))))))))), ?_⟩
    unfold m_law at hm
    refine f_seq ?_
    refine c_asg ?_
    refine c_fz ?_
    refine c_call ?_
    refine ea_to (ea_cons (ev_var rfl) (ea_cons ev_c ea_nil)) ?_
    refine ⟨_, v_law_script, 90, star [imA (.ref ad_v_law_script) v_law_script, F], rfl, (hS.im (i := 0) rfl), Sep.unstar (M := []) (hS.sel [0, 1] (by decide) rfl : Sep H (([] ++ [imA (.ref ad_v_law_script) v_law_script, F] : List (Asn G)))), R.wp_mono (R.wp_bind hm) (fun r1 hm p2 H hS => ?_) (fun _ z => z)⟩
    have hS : Sep H ([lstA p2 (r1 : (List Int)), imA (.ref ad_v_law_script) v_law_script, F] : List (Asn G)) := Sep.star (M := [lstA p2 (r1 : (List Int))]) hS
    refine fz_no ?_
    refine c_set (σ' := [some (.ref ad_v_law_script), some (.ref p2), none, none, none, none, none, none, none, none, none, none, none, none, none, none, none]) rfl ?_
    refine sq_nx ?_
    refine f_seq ?_
    refine c_asg ?_
    refine c_fz ?_
    refine c_call ?_
    obtain ⟨x3, hx3, hm⟩ := wp_idx hm
    refine ea_to (ea_cons (ev_ixSq (ev_fz (ev_var rfl)) ev_c (hS.sqF (i := 0) rfl) (atI_map hx3)) ea_nil) ?_
    refine ⟨x3, star [lstA p2 (r1 : (List Int)), imA (.ref ad_v_law_script) v_law_script, F], rfl, Sep.unstar (M := []) (hS.sel [0, 1, 2] (by decide) rfl : Sep H (([] ++ [lstA p2 (r1 : (List Int)), imA (.ref ad_v_law_script) v_law_script, F] : List (Asn G)))), R.wp_mono (R.wp_bind hm) (fun r4 hm p5 H hS => ?_) (fun _ z => z)⟩
    have hS : Sep H ([lstA p5 (r4 : (List (List Str))), lstA p2 (r1 : (List Int)), imA (.ref ad_v_law_script) v_law_script, F] : List (Asn G)) := Sep.star (M := [lstA p5 (r4 : (List (List Str)))]) hS
    refine fz_no ?_
    refine c_set (σ' := [some (.ref ad_v_law_script), some (.ref p2), some (.ref p5), none, none, none, none, none, none, none, none, none, none, none, none, none, none]) rfl ?_
    refine sq_nx ?_
    refine f_seq ?_
    refine c_asg ?_
    refine k_dnew (κ := Str) (β := (Str × (List Str))) hS fun p6 H hS => ?_
    refine c_set (σ' := [some (.ref ad_v_law_script), some (.ref p2), some (.ref p5), some (.ref p6), none, none, none, none, none, none, none, none, none, none, none, none, none]) rfl ?_
    refine sq_nx ?_
    refine f_seq ?_
    refine c_for ?_
    refine c_rng1 ?_
    obtain ⟨x7, hx7, hm⟩ := wp_idx hm
    refine ea_to (ea_cons (ev_mod (ev_ixSq (ev_fz (ev_var rfl)) ev_c (hS.sqF (i := 2) rfl) (atI_map hx7)) ev_c (by decide)) ea_nil) ?_
    obtain ⟨h8, hm⟩ := R.wp_need hm
    refine k_rng1 h8.1 h8.2 ?_
    refine k_for (τ := (List (Str × (Str × (List Str))))) (fun (s9 : (List (Str × (Str × (List Str))))) (σ : L2.St) (H : Hp) => ∃ (w12 w13 w14 w15 w16 : Option V), σ = [some (.ref ad_v_law_script), some (.ref p2), some (.ref p5), some (.ref p6), w12, w13, w14, none, w15, w16, none, none, none, none, none, none, none] ∧ Sep H ([dictA p6 (s9 : (List (Str × (Str × (List Str))))), lstA p5 (r4 : (List (List Str))), lstA p2 (r1 : (List Int)), imA (.ref ad_v_law_script) v_law_script, F] : List (Asn G))) (im := (fun _ v (x : Int) => v = .int x)) (s := (([] : (List (Str × (Str × (List Str))))))) (fun _ => wk_range) ⟨_, _, _, _, _, rfl, hS.sel [0, 1, 2, 3, 4] (by decide) rfl⟩ hm (fun s9 x10 v11 σ H q N hI hx hm nx => ?_) (fun s9 σ H hm hI => ?_)
    ·
      obtain ⟨w12, w13, w14, w15, w16, rfl, hS⟩ := hI
      cases hx
      refine c_gN (σ' := [some (.ref ad_v_law_script), some (.ref p2), some (.ref p5), some (.ref p6), some (.int (x10)), w13, w14, none, w15, w16, none, none, none, none, none, none, none]) rfl ?_
      refine f_seq ?_
      refine c_asg ?_
      obtain ⟨x17, hx17, hm⟩ := wp_idx hm
      refine ev_to (ev_ixSq (ev_fz (ev_var rfl)) (ev_add ev_c (ev_var rfl)) (hS.sqF (i := 2) rfl) (atI_map hx17)) ?_
      refine c_set (σ' := [some (.ref ad_v_law_script), some (.ref p2), some (.ref p5), some (.ref p6), some (.int (x10)), some (.int (x17)), w14, none, w15, w16, none, none, none, none, none, none, none]) rfl ?_
      refine sq_nx ?_
      refine f_seq ?_
      refine c_asg ?_
      obtain ⟨x18, hx18, hm⟩ := wp_idx hm
      refine ev_to (ev_mod (ev_ixSq (ev_fz (ev_var rfl)) (ev_add ev_c (ev_var rfl)) (hS.sqF (i := 2) rfl) (atI_map hx18)) ev_c (by decide)) ?_
      obtain ⟨y19, hy19, hm⟩ := wp_let hm
      refine n_is (w := (.int (y19))) (by first | rw [hy19] | (subst hy19; rfl)) ?_
      refine c_set (σ' := [some (.ref ad_v_law_script), some (.ref p2), some (.ref p5), some (.ref p6), some (.int (x10)), some (.int (x17)), some (.int (y19)), none, w15, w16, none, none, none, none, none, none, none]) rfl ?_
      refine sq_nx ?_
      refine f_seq ?_
      refine c_asg ?_
      refine c_lc ?_
      refine c_rng1 ?_
      refine ea_to (ea_cons (ev_var rfl) ea_nil) ?_
      obtain ⟨h20, hm⟩ := R.wp_need hm
      refine k_rng1 h20.1 h20.2 ?_
      obtain ⟨h21, hm⟩ := R.wp_need hm
      refine lc_sep (β := Str) (fun (_ : Unit) => ([dictA p6 (s9 : (List (Str × (Str × (List Str))))), lstA p5 (r4 : (List (List Str))), lstA p2 (r1 : (List Int)), imA (.ref ad_v_law_script) v_law_script, F] : List (Asn G))) (s := ()) (im := (fun _ v (x : Int) => v = .int x)) hS (fun _ _ _ => wk_range) h21 hm (fun p22 _ ys25 x23 v24 H q Nx hS hx hm kS kN => ?_) (fun p22 t H hm hS => ?_)
      ·
        cases hx
        refine c_gLc (σ' := [some (.ref ad_v_law_script), some (.ref p2), some (.ref p5), some (.ref p6), some (.int (x10)), some (.int (x17)), some (.int (y19)), some (.int (x23)), w15, w16, none, none, none, none, none, none, none]) rfl rfl ?_
        refine c_yes ?_
        refine c_op ?_
        obtain ⟨x26, hx26, hm⟩ := wp_idx hm
        obtain ⟨vs27, hq28, hM29⟩ := hS.sq (i := 2) rfl
        obtain ⟨u30, hu31, hi32⟩ := atI_im hM29 hx26
        obtain ⟨a33, rfl⟩ := isref hi32
        refine ev_to (ev_ixSq (ev_fz (ev_var rfl)) ev_c hq28 hu31) ?_
        have hS := hS.addIm (v := (.ref a33)) (x := (x26 : (List Str))) hi32
        refine c_op ?_
        refine ev_to ev_c ?_
        refine c_op ?_
        refine c_op ?_
        refine ev_to (ev_var rfl) ?_
        refine c_op ?_
        refine c_fz ?_
        refine c_lst ?_
        refine ea_to (ea_cons ev_c (ea_cons ev_c (ea_cons ev_c ea_nil))) ?_
        refine k_lst (α := Int) (vs := [(.int (1)), (.int (5)), (.int (25))]) (xs := [1, 5, 25]) hS ⟨rfl, ⟨rfl, ⟨rfl, True.intro⟩⟩⟩ (by show 3 ≤ sizeLine; decide) fun p35 H hS => ?_
        refine fz_no ?_
        refine ev_to (ev_var rfl) ?_
        obtain ⟨x36, hx36, hm⟩ := wp_idx hm
        refine r_ixSq (hS.sqF (i := 0) rfl) (atI_map hx36) _ ?_
        obtain ⟨h37, hm⟩ := R.wp_need hm
        refine r_fdiv h37 ?_
        refine ev_to ev_c ?_
        refine r_mod (by decide) ?_
        refine r_I0 _ ?_
        obtain ⟨x38, hx38, hm⟩ := wp_idx hm
        refine r_ixSq (imPlF (hS.im (i := 1) rfl)) (atI_map hx38) _ ?_
        exact kS () _ _ _ hm rfl (hS.sel [2, 3, 4, 5, 6, 7] (by decide) rfl)
      · revert hm hS; generalize t = t39; intro hm hS
        refine c_set (σ' := [some (.ref ad_v_law_script), some (.ref p2), some (.ref p5), some (.ref p6), some (.int (x10)), some (.int (x17)), some (.int (y19)), none, some (.ref p22), w16, none, none, none, none, none, none, none]) rfl ?_
        refine sq_nx ?_
        refine f_seq ?_
        refine c_asg ?_
        obtain ⟨x40, hx40, hm⟩ := wp_idx hm
        obtain ⟨vs41, hq42, hM43⟩ := hS.sq (i := 2) rfl
        obtain ⟨u44, hu45, hi46⟩ := atI_im hM43 hx40
        obtain ⟨a47, rfl⟩ := isref hi46
        obtain ⟨x48, hx48, hm⟩ := wp_idx hm
        obtain ⟨x49, hx49, hm⟩ := wp_idx hm
        refine ev_to (ev_ixSq (ev_ixSq (ev_fz (ev_var rfl)) ev_c hq42 hu45) (ev_mod (ev_ixSq (ev_fz (ev_var rfl)) (ev_add ev_c (ev_var rfl)) (hS.sqF (i := 3) rfl) (atI_map hx48)) ev_c (by decide)) (imPlF hi46) (atI_map hx49)) ?_
        refine c_set (σ' := [some (.ref ad_v_law_script), some (.ref p2), some (.ref p5), some (.ref p6), some (.int (x10)), some (.int (x17)), some (.int (y19)), none, some (.ref p22), some (.str (x49)), none, none, none, none, none, none, none]) rfl ?_
        refine sq_nx ?_
        refine c_asgS ?_
        refine c_tup ?_
        refine c_cons ?_
        obtain ⟨x50, hx50, hm⟩ := wp_idx hm
        obtain ⟨vs51, hq52, hM53⟩ := hS.sq (i := 2) rfl
        obtain ⟨u54, hu55, hi56⟩ := atI_im hM53 hx50
        obtain ⟨a57, rfl⟩ := isref hi56
        obtain ⟨x58, hx58, hm⟩ := wp_idx hm
        obtain ⟨x59, hx59, hm⟩ := wp_idx hm
        refine ev_to (ev_ixSq (ev_ixSq (ev_fz (ev_var rfl)) ev_c hq52 hu55) (ev_mod (ev_ixSq (ev_fz (ev_var rfl)) (ev_add ev_c (ev_var rfl)) (hS.sqF (i := 3) rfl) (atI_map hx58)) ev_c (by decide)) (imPlF hi56) (atI_map hx59)) ?_
        refine c_cons ?_
        refine c_fz ?_
        refine c_sortSet ?_
        refine ev_to (ev_fz (ev_var rfl)) ?_
        obtain ⟨h61, hm⟩ := R.wp_need hm
        refine k_sortSet hS (.inl (hS.sqF (i := 0) rfl)) h61 fun p60 H hS => ?_
        refine fz_yes (xs := (ssetT t39.2 : (List Str))) hS (i := 0) rfl fun H hS => ?_
        have hS : Sep H ([imA (.ref p60) (ssetT t39.2 : (List Str)), lstA p22 (t39.2 : (List Str)), dictA p6 (s9 : (List (Str × (Str × (List Str))))), lstA p5 (r4 : (List (List Str))), lstA p2 (r1 : (List Int)), imA (.ref ad_v_law_script) v_law_script, F] : List (Asn G)) := hS
        refine c_nil ?_
        refine k_tupP (x := ((x59, ssetT t39.2) : (Str × (List Str)))) hS (fun H' p h s => mk2 rfl (hS.im (i := 0) rfl) h s) (by show 2 ≤ sizeLine; decide) fun p63 H hS => ?_
        refine ev_to (ev_var rfl) ?_
        refine ev_to (ev_var rfl) ?_
        obtain ⟨h65, hm⟩ := R.wp_need hm
        refine k_setD (k := x49) (y := (x59, ssetT t39.2)) hS (i := 3) rfl (hS.im (i := 0) rfl) h65 rfl fun H hS => ?_
        have hS : Sep H ([imA (.ref p63) ((x59, ssetT t39.2) : (Str × (List Str))), imA (.ref p60) (ssetT t39.2 : (List Str)), lstA p22 (t39.2 : (List Str)), dictA p6 (dput s9 x49 (x59, ssetT t39.2) : (List (Str × (Str × (List Str))))), lstA p5 (r4 : (List (List Str))), lstA p2 (r1 : (List Int)), imA (.ref ad_v_law_script) v_law_script, F] : List (Asn G)) := hS
        exact nx _ _ _ hm ⟨_, _, _, _, _, rfl, hS.sel [3, 4, 5, 6, 7] (by decide) rfl⟩
    · obtain ⟨w12, w13, w14, w15, w16, rfl, hS⟩ := hI
      refine sq_nx ?_
      refine f_seq ?_
      refine c_asg ?_
      refine c_make ?_
      refine ea_to ea_nil ?_
      intro p66 d67 np nd ne
      have hS := hS.newI (C := G.cl 2) np nd ne (by rw [T.fz_Folders]; decide)
      refine ⟨p66, d67, star [dictA p6 (s9 : (List (Str × (Str × (List Str))))), lstA p5 (r4 : (List (List Str))), lstA p2 (r1 : (List Int)), imA (.ref ad_v_law_script) v_law_script, F], rfl, Sep.unstar (M := [cell p66 (.ins (G.cl 2) d67 [])]) (hS.sel [0, 1, 2, 3, 4, 5] (by decide) rfl : Sep _ (([cell p66 (.ins (G.cl 2) d67 [])] ++ [dictA p6 (s9 : (List (Str × (Str × (List Str))))), lstA p5 (r4 : (List (List Str))), lstA p2 (r1 : (List Int)), imA (.ref ad_v_law_script) v_law_script, F] : List (Asn G)))), R.wp_mono (R.wp_bind hm) (fun r68 hm H hS => ⟨rfl, ?_⟩) (fun _ z => z)⟩
      have hS : Sep H ([FoldersA p66 r68, dictA p6 (s9 : (List (Str × (Str × (List Str))))), lstA p5 (r4 : (List (List Str))), lstA p2 (r1 : (List Int)), imA (.ref ad_v_law_script) v_law_script, F] : List (Asn G)) := Sep.star (M := [FoldersA p66 r68]) hS
      refine c_set (σ' := [some (.ref ad_v_law_script), some (.ref p2), some (.ref p5), some (.ref p6), w12, w13, w14, none, w15, w16, some (.ref p66), none, none, none, none, none, none]) rfl ?_
      refine sq_nx ?_
      refine f_seq ?_
      refine k_lockSA hS (i := 1) rfl fun od69 ps70 H hS => ?_
      have hS : Sep H ([FoldersA p66 r68, lockA p6 od69 ps70 (s9 : (List (Str × (Str × (List Str))))), lstA p5 (r4 : (List (List Str))), lstA p2 (r1 : (List Int)), imA (.ref ad_v_law_script) v_law_script, F] : List (Asn G)) := hS
      refine c_for ?_
      refine c_keys ?_
      refine ev_to (ev_var rfl) ?_
      refine k_keysA (hS.lockA (i := 1) rfl).1 ?_
      refine k_for (τ := Folders) (fun (s71 : Folders) (σ : L2.St) (H : Hp) => ∃ (w74 : Option V), σ = [some (.ref ad_v_law_script), some (.ref p2), some (.ref p5), some (.ref p6), w12, w13, w14, none, w15, w74, some (.ref p66), none, none, none, none, none, none] ∧ Sep H ([FoldersA p66 s71, lockA p6 od69 ps70 (s9 : (List (Str × (Str × (List Str))))), lstA p5 (r4 : (List (List Str))), lstA p2 (r1 : (List Int)), imA (.ref ad_v_law_script) v_law_script, F] : List (Asn G))) (im := (fun _ v (x : Str) => v = .str x)) (s := (r68)) (fun _ => wk_keysA fun _ _ ⟨_, _, h⟩ => h.lockA (i := 1) rfl) ⟨_, rfl, hS.sel [0, 1, 2, 3, 4, 5] (by decide) rfl⟩ hm (fun s71 x72 v73 σ H q N hI hx hm nx => ?_) (fun s71 σ H hm hI => ?_)
      ·
        obtain ⟨w74, rfl, hS⟩ := hI
        cases hx
        refine c_gN (σ' := [some (.ref ad_v_law_script), some (.ref p2), some (.ref p5), some (.ref p6), w12, w13, w14, none, w15, some (.str (x72)), some (.ref p66), none, none, none, none, none, none]) rfl ?_
        refine c_drop ?_
        refine c_meth ?_
        refine ev_to (ev_var rfl) ?_
        obtain ⟨d75, _, _, _, _, hO76⟩ := ins_Folders hS (i := 0) rfl
        refine ⟨_, _, _, rfl, hO76, rfl, ?_⟩
        obtain ⟨y77, hy77, hm⟩ := wp_dget hm
        obtain ⟨v78, g79, hv80⟩ := dgetL_some hS (i := 1) rfl hy77
        obtain ⟨a81, rfl⟩ := isref hv80
        obtain ⟨u82, u83, hT86, h84, h85⟩ := im2 hv80
        obtain rfl : u82 = (.str (y77.1)) := h84
        obtain ⟨a87, rfl⟩ := isref h85
        obtain ⟨y88, hy88, hm⟩ := wp_dget hm
        obtain ⟨v89, g90, hv91⟩ := dgetL_some hS (i := 1) rfl hy88
        obtain ⟨a92, rfl⟩ := isref hv91
        obtain ⟨u93, u94, hT97, h95, h96⟩ := im2 hv91
        obtain rfl : u93 = (.str (y88.1)) := h95
        obtain ⟨a98, rfl⟩ := isref h96
        refine ea_to (ea_cons (ev_var rfl) (ea_cons (ev_ixT (ev_dgetV (ev_var rfl) (ev_var rfl) g79) ev_c hT86 rfl) (ea_cons (ev_ixT (ev_dgetV (ev_var rfl) (ev_var rfl) g90) ev_c hT97 rfl) ea_nil))) ?_
        have hS := hS.addIm (v := (.ref a98)) (x := (y88.2 : (List Str))) h96
        refine ⟨p66, (s71 : Folders), x72, y77.1, a98, (y88.2 : (List Str)), star [imA (.ref a98) (y88.2 : (List Str)), lockA p6 od69 ps70 (s9 : (List (Str × (Str × (List Str))))), lstA p5 (r4 : (List (List Str))), lstA p2 (r1 : (List Int)), imA (.ref ad_v_law_script) v_law_script, F], rfl, (hS.im (i := 0) rfl), Sep.unstar (M := [FoldersA p66 s71]) (hS.sel [1, 0, 2, 3, 4, 5, 6] (by decide) rfl : Sep H (([FoldersA p66 s71] ++ [imA (.ref a98) (y88.2 : (List Str)), lockA p6 od69 ps70 (s9 : (List (Str × (Str × (List Str))))), lstA p5 (r4 : (List (List Str))), lstA p2 (r1 : (List Int)), imA (.ref ad_v_law_script) v_law_script, F] : List (Asn G)))), R.wp_mono (R.wp_bind hm) (fun r100 hm H hS => ?_) (fun _ z => z.elim)⟩
        have hS : Sep H ([FoldersA p66 r100, imA (.ref a98) (y88.2 : (List Str)), lockA p6 od69 ps70 (s9 : (List (Str × (Str × (List Str))))), lstA p5 (r4 : (List (List Str))), lstA p2 (r1 : (List Int)), imA (.ref ad_v_law_script) v_law_script, F] : List (Asn G)) := Sep.star (M := [FoldersA p66 r100]) hS
        exact nx _ _ _ hm ⟨_, rfl, hS.sel [0, 2, 3, 4, 5, 6] (by decide) rfl⟩
      · obtain ⟨w74, rfl, hS⟩ := hI
        refine k_unlSA hS (i := 1) rfl fun H hS => ?_
        have hS : Sep H ([FoldersA p66 s71, dictA p6 (s9 : (List (Str × (Str × (List Str))))), lstA p5 (r4 : (List (List Str))), lstA p2 (r1 : (List Int)), imA (.ref ad_v_law_script) v_law_script, F] : List (Asn G)) := hS
        refine sq_nx ?_
        refine f_seq ?_
        refine c_asg ?_
        refine c_make ?_
        refine ea_to ea_nil ?_
        intro p101 d102 np nd ne
        have hS := hS.newI (C := G.cl 2) np nd ne (by rw [T.fz_Folders]; decide)
        refine ⟨p101, d102, star [FoldersA p66 s71, dictA p6 (s9 : (List (Str × (Str × (List Str))))), lstA p5 (r4 : (List (List Str))), lstA p2 (r1 : (List Int)), imA (.ref ad_v_law_script) v_law_script, F], rfl, Sep.unstar (M := [cell p101 (.ins (G.cl 2) d102 [])]) (hS.sel [0, 1, 2, 3, 4, 5, 6] (by decide) rfl : Sep _ (([cell p101 (.ins (G.cl 2) d102 [])] ++ [FoldersA p66 s71, dictA p6 (s9 : (List (Str × (Str × (List Str))))), lstA p5 (r4 : (List (List Str))), lstA p2 (r1 : (List Int)), imA (.ref ad_v_law_script) v_law_script, F] : List (Asn G)))), R.wp_mono (R.wp_bind hm) (fun r103 hm H hS => ⟨rfl, ?_⟩) (fun _ z => z)⟩
        have hS : Sep H ([FoldersA p101 r103, FoldersA p66 s71, dictA p6 (s9 : (List (Str × (Str × (List Str))))), lstA p5 (r4 : (List (List Str))), lstA p2 (r1 : (List Int)), imA (.ref ad_v_law_script) v_law_script, F] : List (Asn G)) := Sep.star (M := [FoldersA p101 r103]) hS
        refine c_set (σ' := [some (.ref ad_v_law_script), some (.ref p2), some (.ref p5), some (.ref p6), w12, w13, w14, none, w15, w74, some (.ref p66), some (.ref p101), none, none, none, none, none]) rfl ?_
        refine sq_nx ?_
        refine f_seq ?_
        refine c_asg ?_
        refine c_fz ?_
        refine c_cb ?_
        refine ea_to (ea_cons (ev_var rfl) ea_nil) ?_
        obtain ⟨h105, hm⟩ := R.wp_need hm
        refine k_sortDA hS (i := 2) rfl h105 fun p104 H hS => ?_
        refine fz_no ?_
        obtain ⟨y106, hy106, hm⟩ := wp_let hm
        have hS : Sep H ([lstA p104 (y106 : (List Str)), FoldersA p101 r103, FoldersA p66 s71, dictA p6 (s9 : (List (Str × (Str × (List Str))))), lstA p5 (r4 : (List (List Str))), lstA p2 (r1 : (List Int)), imA (.ref ad_v_law_script) v_law_script, F] : List (Asn G)) := by rw [← hy106]; exact hS
        refine c_set (σ' := [some (.ref ad_v_law_script), some (.ref p2), some (.ref p5), some (.ref p6), w12, w13, w14, none, w15, w74, some (.ref p66), some (.ref p101), some (.ref p104), none, none, none, none]) rfl ?_
        refine sq_nx ?_
        refine f_seq ?_
        refine f_if ?_
        refine et_to (et_test (ev_i0 (ev_lenD hS (i := 3) rfl (ev_var rfl)) ev_c)) ?_
        refine ifK_J (τ := (List Str)) (fun (s107 : (List Str)) (σ : L2.St) (H : Hp) => ∃ (w108 : Option V), ∃ (a109 : Addr), σ = [some (.ref ad_v_law_script), some (.ref p2), some (.ref p5), some (.ref p6), w12, w13, w14, none, w15, w74, some (.ref p66), some (.ref p101), some (.ref a109), w108, none, none, none] ∧ Sep H ([lstA a109 (s107 : (List Str)), FoldersA p101 r103, FoldersA p66 s71, dictA p6 (s9 : (List (Str × (Str × (List Str))))), lstA p5 (r4 : (List (List Str))), lstA p2 (r1 : (List Int)), imA (.ref ad_v_law_script) v_law_script, F] : List (Asn G))) hm (fun hb q hm nx => ?_) (fun hb q hm nx => ?_) (fun s107 σ H hm hI => ?_)
        ·
          refine f_seq ?_
          refine c_asg ?_
          obtain ⟨x110, hx110, hm⟩ := wp_idx hm
          obtain ⟨h111, hm⟩ := R.wp_need hm
          refine ev_to (ev_mod (ev_ixSq (ev_fz (ev_var rfl)) ev_c (hS.sqF (i := 5) rfl) (atI_map hx110)) (ev_lenD hS (i := 3) rfl (ev_var rfl)) h111) ?_
          obtain ⟨y112, hy112, hm⟩ := wp_let hm
          refine n_is (w := (.int (y112))) (by first | rw [hy112] | (subst hy112; rfl)) ?_
          refine c_set (σ' := [some (.ref ad_v_law_script), some (.ref p2), some (.ref p5), some (.ref p6), w12, w13, w14, none, w15, w74, some (.ref p66), some (.ref p101), some (.ref p104), some (.int (y112)), none, none, none]) rfl ?_
          refine sq_nx ?_
          refine c_asg ?_
          refine c_fz ?_
          refine c_step ?_
          refine c_fz ?_
          refine c_op ?_
          refine c_fz ?_
          refine c_sl ?_
          refine ev_to (ev_fz (ev_var rfl)) ?_
          refine eo_to (eo_some (ev_var rfl)) ?_
          refine eo_to eo_no ?_
          refine k_slG hS (hS.sq (i := 0) rfl) fun p113 H hS => ?_
          refine fz_no ?_
          refine c_fz ?_
          refine c_sl ?_
          refine ev_to (ev_fz (ev_var rfl)) ?_
          refine eo_to eo_no ?_
          refine eo_to (eo_some (ev_var rfl)) ?_
          refine k_slG hS (hS.sq (i := 1) rfl) fun p114 H hS => ?_
          refine fz_no ?_
          obtain ⟨h115, hm⟩ := R.wp_need hm
          refine k_catG hS (hS.rdL (i := 1) rfl) (hS.rdL (i := 0) rfl) h115 fun p116 H hS => ?_
          refine fz_no ?_
          refine k_step1 ?_
          refine c_op ?_
          refine c_fz ?_
          refine c_lst ?_
          refine ea_to (ea_cons ev_c (ea_cons (ev_un ev_c fun _ q => ⟨_, rfl, q⟩) ea_nil)) ?_
          refine k_lst (α := Int) (vs := [(.int (1)), (.int (-1))]) (xs := [1, -1]) hS ⟨rfl, ⟨rfl, True.intro⟩⟩ (by show 2 ≤ sizeLine; decide) fun p117 H hS => ?_
          refine fz_no ?_
          obtain ⟨x118, hx118, hm⟩ := wp_idx hm
          refine ev_to (ev_mod (ev_ixSq (ev_fz (ev_var rfl)) ev_c (hS.sqF (i := 9) rfl) (atI_map hx118)) ev_c (by decide)) ?_
          obtain ⟨x119, hx119, hm⟩ := wp_idx hm
          refine r_ixSq (hS.sqF (i := 0) rfl) (atI_map hx119) _ ?_
          obtain ⟨h120, hm⟩ := R.wp_need hm
          refine k_step2 hS (hS.sq (i := 1) rfl) h120 fun p121 H hS => ?_
          refine fz_no ?_
          obtain ⟨y122, hy122, hm⟩ := wp_let hm
          have hS : Sep H ([lstA p121 (y122 : (List Str)), lstA p117 ([1, -1] : (List Int)), lstA p116 ((cutL y106 (some (y112)) none) ++ (cutL y106 none (some (y112))) : (List Str)), lstA p114 (cutL y106 none (some (y112)) : (List Str)), lstA p113 (cutL y106 (some (y112)) none : (List Str)), lstA p104 (y106 : (List Str)), FoldersA p101 r103, FoldersA p66 s71, dictA p6 (s9 : (List (Str × (Str × (List Str))))), lstA p5 (r4 : (List (List Str))), lstA p2 (r1 : (List Int)), imA (.ref ad_v_law_script) v_law_script, F] : List (Asn G)) := by rw [← hy122]; exact hS
          refine c_set (σ' := [some (.ref ad_v_law_script), some (.ref p2), some (.ref p5), some (.ref p6), w12, w13, w14, none, w15, w74, some (.ref p66), some (.ref p101), some (.ref p121), some (.int (y112)), none, none, none]) rfl ?_
          exact nx _ _ _ hm ⟨_, _, rfl, hS.sel [0, 6, 7, 8, 9, 10, 11, 12] (by decide) rfl⟩
        ·
          refine st_nx ?_
          exact nx _ _ _ hm ⟨_, _, rfl, hS.sel [0, 1, 2, 3, 4, 5, 6, 7] (by decide) rfl⟩
        · obtain ⟨w108, a109, rfl, hS⟩ := hI
          refine sq_nx ?_
          refine f_seq ?_
          refine c_for ?_
          refine c_rng1 ?_
          refine ea_to (ea_cons (ev_lenLm (ev_fz (ev_var rfl)) (hS.sqF (i := 0) rfl)) ea_nil) ?_
          obtain ⟨h123, hm⟩ := R.wp_need hm
          refine k_rng1 (len62 h123).1 (len62 h123).2 ?_
          refine k_for (τ := Folders) (fun (s124 : Folders) (σ : L2.St) (H : Hp) => ∃ (w127 : Option V), σ = [some (.ref ad_v_law_script), some (.ref p2), some (.ref p5), some (.ref p6), w127, w13, w14, none, w15, w74, some (.ref p66), some (.ref p101), some (.ref a109), w108, none, none, none] ∧ Sep H ([lstA a109 (s107 : (List Str)), FoldersA p101 s124, FoldersA p66 s71, dictA p6 (s9 : (List (Str × (Str × (List Str))))), lstA p5 (r4 : (List (List Str))), lstA p2 (r1 : (List Int)), imA (.ref ad_v_law_script) v_law_script, F] : List (Asn G))) (im := (fun _ v (x : Int) => v = .int x)) (s := (r103)) (fun _ => wk_range) ⟨_, rfl, hS.sel [0, 1, 2, 3, 4, 5, 6, 7] (by decide) rfl⟩ hm (fun s124 x125 v126 σ H q N hI hx hm nx => ?_) (fun s124 σ H hm hI => ?_)
          ·
            obtain ⟨w127, rfl, hS⟩ := hI
            cases hx
            refine c_gN (σ' := [some (.ref ad_v_law_script), some (.ref p2), some (.ref p5), some (.ref p6), some (.int (x125)), w13, w14, none, w15, w74, some (.ref p66), some (.ref p101), some (.ref a109), w108, none, none, none]) rfl ?_
            refine f_seq ?_
            refine c_drop ?_
            refine c_call ?_
            obtain ⟨x128, hx128, hm⟩ := wp_idx hm
            obtain ⟨x129, hx129, hm⟩ := wp_idx hm
            obtain ⟨y130, hy130, hm⟩ := wp_dget hm
            obtain ⟨v131, g132, hv133⟩ := dget_some hS (i := 3) rfl hy130
            obtain ⟨a134, rfl⟩ := isref hv133
            refine ea_to (ea_cons (ev_var rfl) (ea_cons (ev_ixSq (ev_fz (ev_var rfl)) (ev_var rfl) (hS.sqF (i := 0) rfl) (atI_map hx128)) (ea_cons (ev_dget (y := y130) hS (i := 3) rfl (ev_var rfl) (ev_ixSq (ev_fz (ev_var rfl)) (ev_var rfl) (hS.sqF (i := 0) rfl) (atI_map hx129)) g132) (ea_cons (ev_fz (ev_var rfl)) (ea_cons (ev_add ev_c (ev_mul ev_c (ev_var rfl) (.inl (by constructor <;> decide)))) (ea_cons (ev_fz (ev_var rfl)) ea_nil)))))) ?_
            have hS := hS.addIm (v := (.ref a134)) (x := (y130 : (Str × (List Str)))) hv133
            refine ⟨p101, (s124 : Folders), x128, a134, (y130 : (Str × (List Str))), p2, (r1 : (List Int)), (50 + (3 * x125)), p5, (r4 : (List (List Str))), star [imA (.ref a134) (y130 : (Str × (List Str))), lstA a109 (s107 : (List Str)), FoldersA p66 s71, dictA p6 (s9 : (List (Str × (Str × (List Str))))), imA (.ref ad_v_law_script) v_law_script, F], rfl, (hS.im (i := 0) rfl), Sep.unstar (M := [FoldersA p101 s124, lstA p2 (r1 : (List Int)), lstA p5 (r4 : (List (List Str)))]) (hS.sel [2, 6, 5, 0, 1, 3, 4, 7, 8] (by decide) rfl : Sep H (([FoldersA p101 s124, lstA p2 (r1 : (List Int)), lstA p5 (r4 : (List (List Str)))] ++ [imA (.ref a134) (y130 : (Str × (List Str))), lstA a109 (s107 : (List Str)), FoldersA p66 s71, dictA p6 (s9 : (List (Str × (Str × (List Str))))), imA (.ref ad_v_law_script) v_law_script, F] : List (Asn G)))), R.wp_mono (R.wp_bind hm) (fun r136 hm p137 H hS => ?_) (fun _ z => z)⟩
            have hS : Sep H ([imA p137 (r136.1 : Opq), FoldersA p101 r136.2, lstA p2 (r1 : (List Int)), lstA p5 (r4 : (List (List Str))), imA (.ref a134) (y130 : (Str × (List Str))), lstA a109 (s107 : (List Str)), FoldersA p66 s71, dictA p6 (s9 : (List (Str × (Str × (List Str))))), imA (.ref ad_v_law_script) v_law_script, F] : List (Asn G)) := Sep.star (M := [imA p137 (r136.1 : Opq), FoldersA p101 r136.2, lstA p2 (r1 : (List Int)), lstA p5 (r4 : (List (List Str)))]) hS
            refine sq_nx ?_
            refine f_if ?_
            refine f_and ?_
            obtain ⟨x139, hx139, hm⟩ := wp_idx hm
            refine et_to (et_test (ev_eqI (ev_mod (ev_ixSq (ev_fz (ev_var rfl)) (ev_add ev_c (ev_mod (ev_var rfl) ev_c (by decide))) (hS.sqF (i := 2) rfl) (atI_map hx139)) ev_c (by decide)) ev_c)) ?_
            refine andK_J hm hS (fun hb q hm nx => ?_) (fun b140 H hm hS => ?_)
            ·
              obtain ⟨x141, hx141, hm⟩ := wp_idx hm
              obtain ⟨vs142, hq143, hM144⟩ := hS.sq (i := 3) rfl
              obtain ⟨u145, hu146, hi147⟩ := atI_im hM144 hx141
              obtain ⟨a148, rfl⟩ := isref hi147
              obtain ⟨x149, hx149, hm⟩ := wp_idx hm
              refine et_to (et_B (ev_dnotin hS (i := 7) (k := x149) rfl (ev_ixSq (ev_ixSq (ev_fz (ev_var rfl)) ev_c hq143 hu146) ev_c (imPlF hi147) (atI_map hx149)) (ev_var rfl))) ?_
              exact nx _ _ hm (hS.sel [0, 1, 2, 3, 4, 5, 6, 7, 8, 9] (by decide) rfl)
            ·
              refine ifK_J (τ := Folders) (fun (s150 : Folders) (σ : L2.St) (H : Hp) => σ = [some (.ref ad_v_law_script), some (.ref p2), some (.ref p5), some (.ref p6), some (.int (x125)), w13, w14, none, w15, w74, some (.ref p66), some (.ref p101), some (.ref a109), w108, none, none, none] ∧ Sep H ([imA p137 (r136.1 : Opq), FoldersA p101 s150, lstA p2 (r1 : (List Int)), lstA p5 (r4 : (List (List Str))), imA (.ref a134) (y130 : (Str × (List Str))), lstA a109 (s107 : (List Str)), FoldersA p66 s71, dictA p6 (s9 : (List (Str × (Str × (List Str))))), imA (.ref ad_v_law_script) v_law_script, F] : List (Asn G))) hm (fun hb q hm nx => ?_) (fun hb q hm nx => ?_) (fun s150 σ H hm hI => ?_)
              ·
                refine f_seq ?_
                refine c_drop ?_
                refine c_meth ?_
                refine ev_to (ev_var rfl) ?_
                obtain ⟨d151, _, _, _, _, hO152⟩ := ins_Folders hS (i := 1) rfl
                refine ⟨_, _, _, rfl, hO152, rfl, ?_⟩
                refine c_cons ?_
                obtain ⟨x153, hx153, hm⟩ := wp_idx hm
                obtain ⟨vs154, hq155, hM156⟩ := hS.sq (i := 3) rfl
                obtain ⟨u157, hu158, hi159⟩ := atI_im hM156 hx153
                obtain ⟨a160, rfl⟩ := isref hi159
                obtain ⟨x161, hx161, hm⟩ := wp_idx hm
                refine ev_to (ev_ixSq (ev_ixSq (ev_fz (ev_var rfl)) ev_c hq155 hu158) ev_c (imPlF hi159) (atI_map hx161)) ?_
                refine c_cons ?_
                obtain ⟨x162, hx162, hm⟩ := wp_idx hm
                obtain ⟨vs163, hq164, hM165⟩ := hS.sq (i := 3) rfl
                obtain ⟨u166, hu167, hi168⟩ := atI_im hM165 hx162
                obtain ⟨a169, rfl⟩ := isref hi168
                obtain ⟨x170, hx170, hm⟩ := wp_idx hm
                obtain ⟨x171, hx171, hm⟩ := wp_idx hm
                refine ev_to (ev_ixSq (ev_ixSq (ev_fz (ev_var rfl)) ev_c hq164 hu167) (ev_mod (ev_ixSq (ev_fz (ev_var rfl)) (ev_add ev_c (ev_mod (ev_var rfl) ev_c (by decide))) (hS.sqF (i := 2) rfl) (atI_map hx170)) ev_c (by decide)) (imPlF hi168) (atI_map hx171)) ?_
                refine c_cons ?_
                refine c_fz ?_
                refine c_lst ?_
                refine ea_to (ea_cons ev_c ea_nil) ?_
                refine k_lst (α := Str) (vs := [(.str (("seen" : Str)))]) (xs := [("seen" : Str)]) hS ⟨rfl, True.intro⟩ (by show 1 ≤ sizeLine; decide) fun p172 H hS => ?_
                refine fz_no ?_
                refine c_nil ?_
                refine ⟨p101, (r136.2 : Folders), x161, x171, p172, ([("seen" : Str)] : (List Str)), star [imA p137 (r136.1 : Opq), lstA p2 (r1 : (List Int)), lstA p5 (r4 : (List (List Str))), imA (.ref a134) (y130 : (Str × (List Str))), lstA a109 (s107 : (List Str)), FoldersA p66 s71, dictA p6 (s9 : (List (Str × (Str × (List Str))))), imA (.ref ad_v_law_script) v_law_script, F], rfl, Sep.unstar (M := [FoldersA p101 r136.2, lstA p172 ([("seen" : Str)] : (List Str))]) (hS.sel [2, 0, 1, 3, 4, 5, 6, 7, 8, 9, 10] (by decide) rfl : Sep H (([FoldersA p101 r136.2, lstA p172 ([("seen" : Str)] : (List Str))] ++ [imA p137 (r136.1 : Opq), lstA p2 (r1 : (List Int)), lstA p5 (r4 : (List (List Str))), imA (.ref a134) (y130 : (Str × (List Str))), lstA a109 (s107 : (List Str)), FoldersA p66 s71, dictA p6 (s9 : (List (Str × (Str × (List Str))))), imA (.ref ad_v_law_script) v_law_script, F] : List (Asn G)))), R.wp_mono (R.wp_bind hm) (fun r173 hm H hS => ?_) (fun _ z => z.elim)⟩
                have hS : Sep H ([FoldersA p101 r173, lstA p172 ([("seen" : Str)] : (List Str)), imA p137 (r136.1 : Opq), lstA p2 (r1 : (List Int)), lstA p5 (r4 : (List (List Str))), imA (.ref a134) (y130 : (Str × (List Str))), lstA a109 (s107 : (List Str)), FoldersA p66 s71, dictA p6 (s9 : (List (Str × (Str × (List Str))))), imA (.ref ad_v_law_script) v_law_script, F] : List (Asn G)) := Sep.star (M := [FoldersA p101 r173, lstA p172 ([("seen" : Str)] : (List Str))]) hS
                refine sq_nx ?_
                refine c_drop ?_
                refine c_meth ?_
                refine ev_to (ev_var rfl) ?_
                obtain ⟨d174, _, _, _, _, hO175⟩ := ins_Folders hS (i := 0) rfl
                refine ⟨_, _, _, rfl, hO175, rfl, ?_⟩
                obtain ⟨x176, hx176, hm⟩ := wp_idx hm
                obtain ⟨vs177, hq178, hM179⟩ := hS.sq (i := 4) rfl
                obtain ⟨u180, hu181, hi182⟩ := atI_im hM179 hx176
                obtain ⟨a183, rfl⟩ := isref hi182
                obtain ⟨x184, hx184, hm⟩ := wp_idx hm
                refine ea_to (ea_cons (ev_ixSq (ev_ixSq (ev_fz (ev_var rfl)) ev_c hq178 hu181) ev_c (imPlF hi182) (atI_map hx184)) ea_nil) ?_
                refine ⟨p101, (r173 : Folders), x184, star [lstA p172 ([("seen" : Str)] : (List Str)), imA p137 (r136.1 : Opq), lstA p2 (r1 : (List Int)), lstA p5 (r4 : (List (List Str))), imA (.ref a134) (y130 : (Str × (List Str))), lstA a109 (s107 : (List Str)), FoldersA p66 s71, dictA p6 (s9 : (List (Str × (Str × (List Str))))), imA (.ref ad_v_law_script) v_law_script, F], rfl, Sep.unstar (M := [FoldersA p101 r173]) (hS.sel [0, 1, 2, 3, 4, 5, 6, 7, 8, 9, 10] (by decide) rfl : Sep H (([FoldersA p101 r173] ++ [lstA p172 ([("seen" : Str)] : (List Str)), imA p137 (r136.1 : Opq), lstA p2 (r1 : (List Int)), lstA p5 (r4 : (List (List Str))), imA (.ref a134) (y130 : (Str × (List Str))), lstA a109 (s107 : (List Str)), FoldersA p66 s71, dictA p6 (s9 : (List (Str × (Str × (List Str))))), imA (.ref ad_v_law_script) v_law_script, F] : List (Asn G)))), R.wp_mono (R.wp_bind hm) (fun r185 hm H hS => ?_) (fun _ z => z.elim)⟩
                have hS : Sep H ([FoldersA p101 r185, lstA p172 ([("seen" : Str)] : (List Str)), imA p137 (r136.1 : Opq), lstA p2 (r1 : (List Int)), lstA p5 (r4 : (List (List Str))), imA (.ref a134) (y130 : (Str × (List Str))), lstA a109 (s107 : (List Str)), FoldersA p66 s71, dictA p6 (s9 : (List (Str × (Str × (List Str))))), imA (.ref ad_v_law_script) v_law_script, F] : List (Asn G)) := Sep.star (M := [FoldersA p101 r185]) hS
                exact nx _ _ _ hm ⟨rfl, hS.sel [2, 0, 3, 4, 5, 6, 7, 8, 9, 10] (by decide) rfl⟩
              ·
                refine st_nx ?_
                exact nx _ _ _ hm ⟨rfl, hS.sel [0, 1, 2, 3, 4, 5, 6, 7, 8, 9] (by decide) rfl⟩
              · obtain ⟨rfl, hS⟩ := hI
                exact nx _ _ _ hm ⟨_, rfl, hS.sel [5, 1, 6, 7, 3, 2, 8, 9] (by decide) rfl⟩
          · obtain ⟨w127, rfl, hS⟩ := hI
            refine sq_nx ?_
            refine f_seq ?_
            refine f_if ?_
            refine f_test ?_
            refine c_op ?_
            refine c_call ?_
            refine ea_to (ea_cons (ev_var rfl) (ea_cons (ev_var rfl) (ea_cons (ev_fz (ev_var rfl)) ea_nil))) ?_
            refine ⟨p66, (s71 : Folders), p6, (s9 : (List (Str × (Str × (List Str))))), p5, (r4 : (List (List Str))), star [lstA a109 (s107 : (List Str)), FoldersA p101 s124, lstA p2 (r1 : (List Int)), imA (.ref ad_v_law_script) v_law_script, F], rfl, Sep.unstar (M := [FoldersA p66 s71, dictA p6 (s9 : (List (Str × (Str × (List Str))))), lstA p5 (r4 : (List (List Str)))]) (hS.sel [2, 3, 4, 0, 1, 5, 6, 7] (by decide) rfl : Sep H (([FoldersA p66 s71, dictA p6 (s9 : (List (Str × (Str × (List Str))))), lstA p5 (r4 : (List (List Str)))] ++ [lstA a109 (s107 : (List Str)), FoldersA p101 s124, lstA p2 (r1 : (List Int)), imA (.ref ad_v_law_script) v_law_script, F] : List (Asn G)))), R.wp_mono (R.wp_bind hm) (fun r186 hm p187 H hS => ?_) (fun _ z => z)⟩
            have hS : Sep H ([imA (.ref p187) (r186 : (List Any)), FoldersA p66 s71, dictA p6 (s9 : (List (Str × (Str × (List Str))))), lstA p5 (r4 : (List (List Str))), lstA a109 (s107 : (List Str)), FoldersA p101 s124, lstA p2 (r1 : (List Int)), imA (.ref ad_v_law_script) v_law_script, F] : List (Asn G)) := Sep.star (M := [imA (.ref p187) (r186 : (List Any)), FoldersA p66 s71, dictA p6 (s9 : (List (Str × (Str × (List Str))))), lstA p5 (r4 : (List (List Str)))]) hS
            refine c_call ?_
            refine ea_to (ea_cons (ev_var rfl) (ea_cons (ev_var rfl) (ea_cons (ev_fz (ev_var rfl)) ea_nil))) ?_
            refine ⟨p101, (s124 : Folders), p6, (s9 : (List (Str × (Str × (List Str))))), p5, (r4 : (List (List Str))), star [imA (.ref p187) (r186 : (List Any)), FoldersA p66 s71, lstA a109 (s107 : (List Str)), lstA p2 (r1 : (List Int)), imA (.ref ad_v_law_script) v_law_script, F], rfl, Sep.unstar (M := [FoldersA p101 s124, dictA p6 (s9 : (List (Str × (Str × (List Str))))), lstA p5 (r4 : (List (List Str)))]) (hS.sel [5, 2, 3, 0, 1, 4, 6, 7, 8] (by decide) rfl : Sep H (([FoldersA p101 s124, dictA p6 (s9 : (List (Str × (Str × (List Str))))), lstA p5 (r4 : (List (List Str)))] ++ [imA (.ref p187) (r186 : (List Any)), FoldersA p66 s71, lstA a109 (s107 : (List Str)), lstA p2 (r1 : (List Int)), imA (.ref ad_v_law_script) v_law_script, F] : List (Asn G)))), R.wp_mono (R.wp_bind hm) (fun r189 hm p190 H hS => ?_) (fun _ z => z)⟩
            have hS : Sep H ([imA (.ref p190) (r189 : (List Any)), FoldersA p101 s124, dictA p6 (s9 : (List (Str × (Str × (List Str))))), lstA p5 (r4 : (List (List Str))), imA (.ref p187) (r186 : (List Any)), FoldersA p66 s71, lstA a109 (s107 : (List Str)), lstA p2 (r1 : (List Int)), imA (.ref ad_v_law_script) v_law_script, F] : List (Asn G)) := Sep.star (M := [imA (.ref p190) (r189 : (List Any)), FoldersA p101 s124, dictA p6 (s9 : (List (Str × (Str × (List Str))))), lstA p5 (r4 : (List (List Str)))]) hS
            obtain ⟨b192, hb192, hm⟩ := wp_eqA hm
            refine ev_op2 (ev_neA ev_c ev_c (any_lstA (hS.im (i := 4) rfl)) (any_lstA (hS.im (i := 0) rfl)) hb192) ?_
            refine f_bl ?_
            refine ifK_2 (fun hb193 => ?_) (fun hb193 => ?_)
            · have hm := R.wp_ifY hm hb193
              refine c_ret ?_
              refine ev_to ev_c ?_
              exact hm _ (hS.sel [9] (by decide) rfl)
            · have hm := R.wp_ifN hm (by first | (rw [hb193]; decide) | simpa using hb193)
              refine st_nx ?_
              refine sq_nx ?_
              refine f_seq ?_
              refine f_if ?_
              refine f_test ?_
              refine c_op ?_
              refine c_fz ?_
              refine c_lc ?_
              refine c_il ?_
              refine c_fz ?_
              refine c_cb ?_
              refine ea_to (ea_cons (ev_var rfl) ea_nil) ?_
              obtain ⟨h195, hm⟩ := R.wp_need hm
              refine k_sortDA hS (i := 2) rfl h195 fun p194 H hS => ?_
              refine fz_no ?_
              refine k_il hS (i := 0) rfl ?_
              obtain ⟨h196, hm⟩ := R.wp_need hm
              refine lc_sep (β := (Str × (List Str))) (fun (_ : Unit) => ([lstA p194 (sortT (s9.map (·.1)) : (List Str)), imA (.ref p190) (r189 : (List Any)), FoldersA p101 s124, dictA p6 (s9 : (List (Str × (Str × (List Str))))), lstA p5 (r4 : (List (List Str))), imA (.ref p187) (r186 : (List Any)), FoldersA p66 s71, lstA a109 (s107 : (List Str)), lstA p2 (r1 : (List Int)), imA (.ref ad_v_law_script) v_law_script, F] : List (Asn G))) (s := ()) (im := (Im.im G)) hS (fun _ _ _ => wk_list fun _ _ h => h.sq (i := 1) rfl) h196 hm (fun p197 _ ys200 x198 v199 H q Nx hS hx hm kS kN => ?_) (fun p197 t H hm hS => ?_)
              ·
                cases hx
                refine c_gLc (σ' := [some (.ref ad_v_law_script), some (.ref p2), some (.ref p5), some (.ref p6), w127, w13, w14, none, w15, some (.str (x198)), some (.ref p66), some (.ref p101), some (.ref a109), w108, none, none, none]) rfl rfl ?_
                refine c_yes ?_
                refine c_tup ?_
                refine c_cons ?_
                refine c_meth ?_
                refine ev_to (ev_var rfl) ?_
                obtain ⟨d201, _, _, _, _, hO202⟩ := ins_Folders hS (i := 3) rfl
                refine ⟨_, _, _, rfl, hO202, rfl, ?_⟩
                refine ea_to (ea_cons (ev_var rfl) ea_nil) ?_
                refine ⟨p101, (s124 : Folders), x198, star [lstA p197 (ys200 : List (Str × (List Str))), lstA p194 (sortT (s9.map (·.1)) : (List Str)), imA (.ref p190) (r189 : (List Any)), dictA p6 (s9 : (List (Str × (Str × (List Str))))), lstA p5 (r4 : (List (List Str))), imA (.ref p187) (r186 : (List Any)), FoldersA p66 s71, lstA a109 (s107 : (List Str)), lstA p2 (r1 : (List Int)), imA (.ref ad_v_law_script) v_law_script, F], rfl, Sep.unstar (M := [FoldersA p101 s124]) (hS.sel [3, 0, 1, 2, 4, 5, 6, 7, 8, 9, 10, 11] (by decide) rfl : Sep H (([FoldersA p101 s124] ++ [lstA p197 (ys200 : List (Str × (List Str))), lstA p194 (sortT (s9.map (·.1)) : (List Str)), imA (.ref p190) (r189 : (List Any)), dictA p6 (s9 : (List (Str × (Str × (List Str))))), lstA p5 (r4 : (List (List Str))), imA (.ref p187) (r186 : (List Any)), FoldersA p66 s71, lstA a109 (s107 : (List Str)), lstA p2 (r1 : (List Int)), imA (.ref ad_v_law_script) v_law_script, F] : List (Asn G)))), R.wp_mono (R.wp_bind hm) (fun r203 hm H hS => ?_) (fun _ z => z.elim)⟩
                have hS : Sep H ([FoldersA p101 s124, lstA p197 (ys200 : List (Str × (List Str))), lstA p194 (sortT (s9.map (·.1)) : (List Str)), imA (.ref p190) (r189 : (List Any)), dictA p6 (s9 : (List (Str × (Str × (List Str))))), lstA p5 (r4 : (List (List Str))), imA (.ref p187) (r186 : (List Any)), FoldersA p66 s71, lstA a109 (s107 : (List Str)), lstA p2 (r1 : (List Int)), imA (.ref ad_v_law_script) v_law_script, F] : List (Asn G)) := Sep.star (M := [FoldersA p101 s124]) hS
                refine c_cons ?_
                refine c_fz ?_
                refine c_meth ?_
                refine ev_to (ev_var rfl) ?_
                obtain ⟨d204, _, _, _, _, hO205⟩ := ins_Folders hS (i := 0) rfl
                refine ⟨_, _, _, rfl, hO205, rfl, ?_⟩
                refine ea_to (ea_cons (ev_var rfl) ea_nil) ?_
                refine ⟨p101, (s124 : Folders), x198, star [lstA p197 (ys200 : List (Str × (List Str))), lstA p194 (sortT (s9.map (·.1)) : (List Str)), imA (.ref p190) (r189 : (List Any)), dictA p6 (s9 : (List (Str × (Str × (List Str))))), lstA p5 (r4 : (List (List Str))), imA (.ref p187) (r186 : (List Any)), FoldersA p66 s71, lstA a109 (s107 : (List Str)), lstA p2 (r1 : (List Int)), imA (.ref ad_v_law_script) v_law_script, F], rfl, Sep.unstar (M := [FoldersA p101 s124]) (hS.sel [0, 1, 2, 3, 4, 5, 6, 7, 8, 9, 10, 11] (by decide) rfl : Sep H (([FoldersA p101 s124] ++ [lstA p197 (ys200 : List (Str × (List Str))), lstA p194 (sortT (s9.map (·.1)) : (List Str)), imA (.ref p190) (r189 : (List Any)), dictA p6 (s9 : (List (Str × (Str × (List Str))))), lstA p5 (r4 : (List (List Str))), imA (.ref p187) (r186 : (List Any)), FoldersA p66 s71, lstA a109 (s107 : (List Str)), lstA p2 (r1 : (List Int)), imA (.ref ad_v_law_script) v_law_script, F] : List (Asn G)))), R.wp_mono (R.wp_bind hm) (fun r206 hm p207 H hS => ?_) (fun _ z => z.elim)⟩
                have hS : Sep H ([lstA p207 (r206 : (List Str)), FoldersA p101 s124, lstA p197 (ys200 : List (Str × (List Str))), lstA p194 (sortT (s9.map (·.1)) : (List Str)), imA (.ref p190) (r189 : (List Any)), dictA p6 (s9 : (List (Str × (Str × (List Str))))), lstA p5 (r4 : (List (List Str))), imA (.ref p187) (r186 : (List Any)), FoldersA p66 s71, lstA a109 (s107 : (List Str)), lstA p2 (r1 : (List Int)), imA (.ref ad_v_law_script) v_law_script, F] : List (Asn G)) := Sep.star (M := [lstA p207 (r206 : (List Str)), FoldersA p101 s124]) hS
                refine fz_yes (xs := (r206 : (List Str))) hS (i := 0) rfl fun H hS => ?_
                have hS : Sep H ([imA (.ref p207) (r206 : (List Str)), FoldersA p101 s124, lstA p197 (ys200 : List (Str × (List Str))), lstA p194 (sortT (s9.map (·.1)) : (List Str)), imA (.ref p190) (r189 : (List Any)), dictA p6 (s9 : (List (Str × (Str × (List Str))))), lstA p5 (r4 : (List (List Str))), imA (.ref p187) (r186 : (List Any)), FoldersA p66 s71, lstA a109 (s107 : (List Str)), lstA p2 (r1 : (List Int)), imA (.ref ad_v_law_script) v_law_script, F] : List (Asn G)) := hS
                refine c_nil ?_
                refine k_tupP (x := ((r203, r206) : (Str × (List Str)))) hS (fun H' p h s => mk2 rfl (hS.im (i := 0) rfl) h s) (by show 2 ≤ sizeLine; decide) fun p209 H hS => ?_
                exact kS () _ _ _ hm (hS.im (i := 0) rfl) (hS.sel [3, 4, 5, 2, 6, 7, 8, 9, 10, 11, 12, 13] (by decide) rfl)
              · revert hm hS; generalize t = t211; intro hm hS
                refine fz_no ?_
                refine c_fz ?_
                refine c_lc ?_
                refine c_il ?_
                refine c_fz ?_
                refine c_cb ?_
                refine ea_to (ea_cons (ev_var rfl) ea_nil) ?_
                obtain ⟨h213, hm⟩ := R.wp_need hm
                refine k_sortDA hS (i := 4) rfl h213 fun p212 H hS => ?_
                refine fz_no ?_
                refine k_il hS (i := 0) rfl ?_
                obtain ⟨h214, hm⟩ := R.wp_need hm
                refine lc_sep (β := (Str × (List Str))) (fun (_ : Unit) => ([lstA p212 (sortT (s9.map (·.1)) : (List Str)), lstA p197 (t211.2 : (List (Str × (List Str)))), lstA p194 (sortT (s9.map (·.1)) : (List Str)), imA (.ref p190) (r189 : (List Any)), FoldersA p101 s124, dictA p6 (s9 : (List (Str × (Str × (List Str))))), lstA p5 (r4 : (List (List Str))), imA (.ref p187) (r186 : (List Any)), FoldersA p66 s71, lstA a109 (s107 : (List Str)), lstA p2 (r1 : (List Int)), imA (.ref ad_v_law_script) v_law_script, F] : List (Asn G))) (s := ()) (im := (Im.im G)) hS (fun _ _ _ => wk_list fun _ _ h => h.sq (i := 1) rfl) h214 hm (fun p215 _ ys218 x216 v217 H q Nx hS hx hm kS kN => ?_) (fun p215 t H hm hS => ?_)
                ·
                  cases hx
                  refine c_gLc (σ' := [some (.ref ad_v_law_script), some (.ref p2), some (.ref p5), some (.ref p6), w127, w13, w14, none, w15, some (.str (x216)), some (.ref p66), some (.ref p101), some (.ref a109), w108, none, none, none]) rfl rfl ?_
                  refine c_yes ?_
                  obtain ⟨y219, hy219, hm⟩ := wp_dget hm
                  obtain ⟨v220, g221, hv222⟩ := dget_some hS (i := 6) rfl hy219
                  obtain ⟨a223, rfl⟩ := isref hv222
                  refine ev_to (ev_dget (y := y219) hS (i := 6) rfl (ev_var rfl) (ev_var rfl) g221) ?_
                  have hS := hS.addIm (v := (.ref a223)) (x := (y219 : (Str × (List Str)))) hv222
                  exact kS () _ _ _ hm (hS.im (i := 0) rfl) (hS.sel [1, 2, 3, 4, 5, 6, 7, 8, 9, 10, 11, 12, 13, 14] (by decide) rfl)
                · revert hm hS; generalize t = t225; intro hm hS
                  refine fz_no ?_
                  obtain ⟨h226, hm⟩ := R.wp_need hm
                  obtain ⟨h227, hm⟩ := R.wp_need hm
                  refine ev_op2 (ev_neP (G := G) (x := (t211.2 : (List (Str × (List Str))))) (y := t225.2) ev_c ev_c (dpOwn hS (i := 2) rfl) (dpOwn hS (i := 0) rfl) h226 h227 (Nat.le_of_ble_eq_true rfl)) ?_
                  refine f_bl ?_
                  refine ifK_2 (fun hb228 => ?_) (fun hb228 => ?_)
                  · have hm := R.wp_ifY hm hb228
                    refine c_ret ?_
                    refine ev_to ev_c ?_
                    exact hm _ (hS.sel [13] (by decide) rfl)
                  · have hm := R.wp_ifN hm (by first | (rw [hb228]; decide) | simpa using hb228)
                    refine st_nx ?_
                    refine sq_nx ?_
                    refine f_seq ?_
                    refine c_asg ?_
                    refine ev_to ev_c ?_
                    refine c_set (σ' := [some (.ref ad_v_law_script), some (.ref p2), some (.ref p5), some (.ref p6), w127, w13, w14, none, w15, w74, some (.ref p66), some (.ref p101), some (.ref a109), w108, some (.int (0)), none, none]) rfl ?_
                    refine sq_nx ?_
                    refine f_seq ?_
                    refine c_for ?_
                    refine c_il ?_
                    obtain ⟨x229, hx229, hm⟩ := wp_idx hm
                    obtain ⟨vs230, hq231, hM232⟩ := hS.sq (i := 7) rfl
                    obtain ⟨u233, hu234, hi235⟩ := atI_im hM232 hx229
                    obtain ⟨a236, rfl⟩ := isref hi235
                    refine ev_to (ev_ixSq (ev_fz (ev_var rfl)) ev_c hq231 hu234) ?_
                    have hS := hS.addIm (v := (.ref a236)) (x := (x229 : (List Str))) hi235
                    refine k_ilG (imPl (hS.im (i := 0) rfl)) ?_
                    refine k_forF (τ := Unit) (fun (s238 : Unit) (σ : L2.St) (H : Hp) => ∃ (w241 : Option V), σ = [some (.ref ad_v_law_script), some (.ref p2), some (.ref p5), some (.ref p6), w127, w13, w14, none, w15, w74, some (.ref p66), some (.ref p101), some (.ref a109), w108, some (.int (0)), w241, none] ∧ Sep H ([imA (.ref a236) (x229 : (List Str)), lstA p215 (t225.2 : (List (Str × (List Str)))), lstA p212 (sortT (s9.map (·.1)) : (List Str)), lstA p197 (t211.2 : (List (Str × (List Str)))), lstA p194 (sortT (s9.map (·.1)) : (List Str)), imA (.ref p190) (r189 : (List Any)), FoldersA p101 s124, dictA p6 (s9 : (List (Str × (Str × (List Str))))), lstA p5 (r4 : (List (List Str))), imA (.ref p187) (r186 : (List Any)), FoldersA p66 s71, lstA a109 (s107 : (List Str)), lstA p2 (r1 : (List Int)), imA (.ref ad_v_law_script) v_law_script, F] : List (Asn G))) (im := (Im.im G)) (s := ()) (fun _ => wk_list fun _ _ ⟨_, _, h⟩ => imPl (h.im (i := 0) rfl)) ⟨_, rfl, hS.sel [0, 1, 2, 3, 4, 5, 6, 7, 8, 9, 10, 11, 12, 13, 14] (by decide) rfl⟩ hm (fun s238 x239 v240 σ H q N B hI hx hm nx bk ho242 => ?_) (fun s238 σ H hm hI => ?_)
                    ·
                      obtain ⟨w241, rfl, hS⟩ := hI
                      cases hx
                      refine c_gN (σ' := [some (.ref ad_v_law_script), some (.ref p2), some (.ref p5), some (.ref p6), w127, w13, w14, none, w15, w74, some (.ref p66), some (.ref p101), some (.ref a109), w108, some (.int (0)), some (.str (x239)), none]) rfl ?_
                      refine f_seq ?_
                      refine f_if ?_
                      refine f_not ?_
                      refine f_B ?_
                      refine c_call ?_
                      obtain ⟨x243, hx243, hm⟩ := wp_idx hm
                      obtain ⟨vs244, hq245, hM246⟩ := hS.sq (i := 8) rfl
                      obtain ⟨u247, hu248, hi249⟩ := atI_im hM246 hx243
                      obtain ⟨a250, rfl⟩ := isref hi249
                      refine ea_to (ea_cons (ev_var rfl) (ea_cons (ev_var rfl) (ea_cons (ev_ixSq (ev_fz (ev_var rfl)) ev_c hq245 hu248) ea_nil))) ?_
                      have hS := hS.addIm (v := (.ref a250)) (x := (x243 : (List Str))) hi249
                      refine ⟨p66, (s71 : Folders), x239, a250, (x243 : (List Str)), star [imA (.ref a250) (x243 : (List Str)), imA (.ref a236) (x229 : (List Str)), lstA p215 (t225.2 : (List (Str × (List Str)))), lstA p212 (sortT (s9.map (·.1)) : (List Str)), lstA p197 (t211.2 : (List (Str × (List Str)))), lstA p194 (sortT (s9.map (·.1)) : (List Str)), imA (.ref p190) (r189 : (List Any)), FoldersA p101 s124, dictA p6 (s9 : (List (Str × (Str × (List Str))))), lstA p5 (r4 : (List (List Str))), imA (.ref p187) (r186 : (List Any)), lstA a109 (s107 : (List Str)), lstA p2 (r1 : (List Int)), imA (.ref ad_v_law_script) v_law_script, F], rfl, (hS.im (i := 0) rfl), Sep.unstar (M := [FoldersA p66 s71]) (hS.sel [11, 0, 1, 2, 3, 4, 5, 6, 7, 8, 9, 10, 12, 13, 14, 15] (by decide) rfl : Sep H (([FoldersA p66 s71] ++ [imA (.ref a250) (x243 : (List Str)), imA (.ref a236) (x229 : (List Str)), lstA p215 (t225.2 : (List (Str × (List Str)))), lstA p212 (sortT (s9.map (·.1)) : (List Str)), lstA p197 (t211.2 : (List (Str × (List Str)))), lstA p194 (sortT (s9.map (·.1)) : (List Str)), imA (.ref p190) (r189 : (List Any)), FoldersA p101 s124, dictA p6 (s9 : (List (Str × (Str × (List Str))))), lstA p5 (r4 : (List (List Str))), imA (.ref p187) (r186 : (List Any)), lstA a109 (s107 : (List Str)), lstA p2 (r1 : (List Int)), imA (.ref ad_v_law_script) v_law_script, F] : List (Asn G)))), R.wp_mono (R.wp_bind hm) (fun r252 hm H hS => ?_) (fun _ z => z)⟩
                      have hS : Sep H ([FoldersA p66 s71, imA (.ref a250) (x243 : (List Str)), imA (.ref a236) (x229 : (List Str)), lstA p215 (t225.2 : (List (Str × (List Str)))), lstA p212 (sortT (s9.map (·.1)) : (List Str)), lstA p197 (t211.2 : (List (Str × (List Str)))), lstA p194 (sortT (s9.map (·.1)) : (List Str)), imA (.ref p190) (r189 : (List Any)), FoldersA p101 s124, dictA p6 (s9 : (List (Str × (Str × (List Str))))), lstA p5 (r4 : (List (List Str))), imA (.ref p187) (r186 : (List Any)), lstA a109 (s107 : (List Str)), lstA p2 (r1 : (List Int)), imA (.ref ad_v_law_script) v_law_script, F] : List (Asn G)) := Sep.star (M := [FoldersA p66 s71]) hS
                      refine f_bl ?_
                      refine f_nK ?_
                      refine ifK_2 (fun hb253 => ?_) (fun hb253 => ?_)
                      · have hm := R.wp_ifY hm hb253
                        refine c_ret ?_
                        refine ev_to ev_c ?_
                        exact (ho242 _ hm) _ (hS.sel [15] (by decide) rfl)
                      · have hm := R.wp_ifN hm (by first | (rw [hb253]; decide) | simpa using hb253)
                        refine st_nx ?_
                        refine sq_nx ?_
                        refine f_if ?_
                        refine f_not ?_
                        refine f_B ?_
                        refine c_call ?_
                        obtain ⟨x254, hx254, hm⟩ := wp_idx hm
                        obtain ⟨vs255, hq256, hM257⟩ := hS.sq (i := 10) rfl
                        obtain ⟨u258, hu259, hi260⟩ := atI_im hM257 hx254
                        obtain ⟨a261, rfl⟩ := isref hi260
                        refine ea_to (ea_cons (ev_var rfl) (ea_cons (ev_var rfl) (ea_cons (ev_ixSq (ev_fz (ev_var rfl)) ev_c hq256 hu259) ea_nil))) ?_
                        have hS := hS.addIm (v := (.ref a261)) (x := (x254 : (List Str))) hi260
                        refine ⟨p101, (s124 : Folders), x239, a261, (x254 : (List Str)), star [imA (.ref a261) (x254 : (List Str)), FoldersA p66 s71, imA (.ref a250) (x243 : (List Str)), imA (.ref a236) (x229 : (List Str)), lstA p215 (t225.2 : (List (Str × (List Str)))), lstA p212 (sortT (s9.map (·.1)) : (List Str)), lstA p197 (t211.2 : (List (Str × (List Str)))), lstA p194 (sortT (s9.map (·.1)) : (List Str)), imA (.ref p190) (r189 : (List Any)), dictA p6 (s9 : (List (Str × (Str × (List Str))))), lstA p5 (r4 : (List (List Str))), imA (.ref p187) (r186 : (List Any)), lstA a109 (s107 : (List Str)), lstA p2 (r1 : (List Int)), imA (.ref ad_v_law_script) v_law_script, F], rfl, (hS.im (i := 0) rfl), Sep.unstar (M := [FoldersA p101 s124]) (hS.sel [9, 0, 1, 2, 3, 4, 5, 6, 7, 8, 10, 11, 12, 13, 14, 15, 16] (by decide) rfl : Sep H (([FoldersA p101 s124] ++ [imA (.ref a261) (x254 : (List Str)), FoldersA p66 s71, imA (.ref a250) (x243 : (List Str)), imA (.ref a236) (x229 : (List Str)), lstA p215 (t225.2 : (List (Str × (List Str)))), lstA p212 (sortT (s9.map (·.1)) : (List Str)), lstA p197 (t211.2 : (List (Str × (List Str)))), lstA p194 (sortT (s9.map (·.1)) : (List Str)), imA (.ref p190) (r189 : (List Any)), dictA p6 (s9 : (List (Str × (Str × (List Str))))), lstA p5 (r4 : (List (List Str))), imA (.ref p187) (r186 : (List Any)), lstA a109 (s107 : (List Str)), lstA p2 (r1 : (List Int)), imA (.ref ad_v_law_script) v_law_script, F] : List (Asn G)))), R.wp_mono (R.wp_bind hm) (fun r263 hm H hS => ?_) (fun _ z => z)⟩
                        have hS : Sep H ([FoldersA p101 s124, imA (.ref a261) (x254 : (List Str)), FoldersA p66 s71, imA (.ref a250) (x243 : (List Str)), imA (.ref a236) (x229 : (List Str)), lstA p215 (t225.2 : (List (Str × (List Str)))), lstA p212 (sortT (s9.map (·.1)) : (List Str)), lstA p197 (t211.2 : (List (Str × (List Str)))), lstA p194 (sortT (s9.map (·.1)) : (List Str)), imA (.ref p190) (r189 : (List Any)), dictA p6 (s9 : (List (Str × (Str × (List Str))))), lstA p5 (r4 : (List (List Str))), imA (.ref p187) (r186 : (List Any)), lstA a109 (s107 : (List Str)), lstA p2 (r1 : (List Int)), imA (.ref ad_v_law_script) v_law_script, F] : List (Asn G)) := Sep.star (M := [FoldersA p101 s124]) hS
                        refine f_bl ?_
                        refine f_nK ?_
                        refine ifK_2 (fun hb264 => ?_) (fun hb264 => ?_)
                        · have hm := R.wp_ifY hm hb264
                          refine c_ret ?_
                          refine ev_to ev_c ?_
                          exact (ho242 _ hm) _ (hS.sel [16] (by decide) rfl)
                        · have hm := R.wp_ifN hm (by first | (rw [hb264]; decide) | simpa using hb264)
                          refine st_nx ?_
                          exact nx _ _ _ hm ⟨_, rfl, hS.sel [4, 5, 6, 7, 8, 9, 0, 10, 11, 12, 2, 13, 14, 15, 16] (by decide) rfl⟩
                    · obtain ⟨w241, rfl, hS⟩ := hI
                      refine sq_nx ?_
                      refine f_seq ?_
                      refine c_for ?_
                      refine c_il ?_
                      refine c_fz ?_
                      refine c_meth ?_
                      refine ev_to (ev_var rfl) ?_
                      obtain ⟨d265, _, _, _, _, hO266⟩ := ins_Folders hS (i := 6) rfl
                      refine ⟨_, _, _, rfl, hO266, rfl, ?_⟩
                      refine ea_to ea_nil ?_
                      refine ⟨p101, (s124 : Folders), star [imA (.ref a236) (x229 : (List Str)), lstA p215 (t225.2 : (List (Str × (List Str)))), lstA p212 (sortT (s9.map (·.1)) : (List Str)), lstA p197 (t211.2 : (List (Str × (List Str)))), lstA p194 (sortT (s9.map (·.1)) : (List Str)), imA (.ref p190) (r189 : (List Any)), dictA p6 (s9 : (List (Str × (Str × (List Str))))), lstA p5 (r4 : (List (List Str))), imA (.ref p187) (r186 : (List Any)), FoldersA p66 s71, lstA a109 (s107 : (List Str)), lstA p2 (r1 : (List Int)), imA (.ref ad_v_law_script) v_law_script, F], rfl, Sep.unstar (M := [FoldersA p101 s124]) (hS.sel [6, 0, 1, 2, 3, 4, 5, 7, 8, 9, 10, 11, 12, 13, 14] (by decide) rfl : Sep H (([FoldersA p101 s124] ++ [imA (.ref a236) (x229 : (List Str)), lstA p215 (t225.2 : (List (Str × (List Str)))), lstA p212 (sortT (s9.map (·.1)) : (List Str)), lstA p197 (t211.2 : (List (Str × (List Str)))), lstA p194 (sortT (s9.map (·.1)) : (List Str)), imA (.ref p190) (r189 : (List Any)), dictA p6 (s9 : (List (Str × (Str × (List Str))))), lstA p5 (r4 : (List (List Str))), imA (.ref p187) (r186 : (List Any)), FoldersA p66 s71, lstA a109 (s107 : (List Str)), lstA p2 (r1 : (List Int)), imA (.ref ad_v_law_script) v_law_script, F] : List (Asn G)))), R.wp_mono (R.wp_bind hm) (fun r267 hm p268 H hS => ?_) (fun _ z => z)⟩
                      have hS : Sep H ([lstA p268 (r267 : (List (T3 Str Int Int))), FoldersA p101 s124, imA (.ref a236) (x229 : (List Str)), lstA p215 (t225.2 : (List (Str × (List Str)))), lstA p212 (sortT (s9.map (·.1)) : (List Str)), lstA p197 (t211.2 : (List (Str × (List Str)))), lstA p194 (sortT (s9.map (·.1)) : (List Str)), imA (.ref p190) (r189 : (List Any)), dictA p6 (s9 : (List (Str × (Str × (List Str))))), lstA p5 (r4 : (List (List Str))), imA (.ref p187) (r186 : (List Any)), FoldersA p66 s71, lstA a109 (s107 : (List Str)), lstA p2 (r1 : (List Int)), imA (.ref ad_v_law_script) v_law_script, F] : List (Asn G)) := Sep.star (M := [lstA p268 (r267 : (List (T3 Str Int Int))), FoldersA p101 s124]) hS
                      refine fz_no ?_
                      refine k_il hS (i := 0) rfl ?_
                      refine k_for (τ := Int) (fun (s269 : Int) (σ : L2.St) (H : Hp) => ∃ (w272 : Option V), σ = [some (.ref ad_v_law_script), some (.ref p2), some (.ref p5), some (.ref p6), w127, w13, w14, none, w15, w74, some (.ref p66), some (.ref p101), some (.ref a109), w108, some (.int (s269)), w241, w272] ∧ Sep H ([lstA p268 (r267 : (List (T3 Str Int Int))), FoldersA p101 s124, imA (.ref a236) (x229 : (List Str)), lstA p215 (t225.2 : (List (Str × (List Str)))), lstA p212 (sortT (s9.map (·.1)) : (List Str)), lstA p197 (t211.2 : (List (Str × (List Str)))), lstA p194 (sortT (s9.map (·.1)) : (List Str)), imA (.ref p190) (r189 : (List Any)), dictA p6 (s9 : (List (Str × (Str × (List Str))))), lstA p5 (r4 : (List (List Str))), imA (.ref p187) (r186 : (List Any)), FoldersA p66 s71, lstA a109 (s107 : (List Str)), lstA p2 (r1 : (List Int)), imA (.ref ad_v_law_script) v_law_script, F] : List (Asn G))) (im := (Im.im G)) (s := (0)) (fun _ => wk_list fun _ _ ⟨_, _, h⟩ => h.sq (i := 0) rfl) ⟨_, rfl, hS.sel [0, 1, 2, 3, 4, 5, 6, 7, 8, 9, 10, 11, 12, 13, 14, 15] (by decide) rfl⟩ hm (fun s269 x270 v271 σ H q N hI hx hm nx => ?_) (fun s269 σ H hm hI => ?_)
                      ·
                        obtain ⟨w272, rfl, hS⟩ := hI
                        obtain ⟨a273, rfl⟩ := isref hx
                        have hS := hS.addIm (v := (.ref a273)) (x := (x270 : (T3 Str Int Int))) hx
                        refine c_gN (σ' := [some (.ref ad_v_law_script), some (.ref p2), some (.ref p5), some (.ref p6), w127, w13, w14, none, w15, w74, some (.ref p66), some (.ref p101), some (.ref a109), w108, some (.int (s269)), w241, some (.ref a273)]) rfl ?_
                        refine c_aug rfl ?_
                        obtain ⟨u275, u276, u277, hT281, h278, h279, h280⟩ := im3 (hS.im (i := 0) rfl)
                        obtain rfl : u275 = (.str (x270.a)) := h278
                        obtain rfl : u276 = (.int (x270.b)) := h279
                        obtain rfl : u277 = (.int (x270.c)) := h280
                        refine ev_to (ev_ixT (ev_var rfl) ev_c hT281 rfl) ?_
                        refine ⟨_, _, rfl, rfl, ?_⟩
                        obtain ⟨y282, hy282, hm⟩ := wp_let hm
                        refine n_is (w := (.int (y282))) (by first | rw [hy282] | (subst hy282; rfl)) ?_
                        refine c_set (σ' := [some (.ref ad_v_law_script), some (.ref p2), some (.ref p5), some (.ref p6), w127, w13, w14, none, w15, w74, some (.ref p66), some (.ref p101), some (.ref a109), w108, some (.int (y282)), w241, some (.ref a273)]) rfl ?_
                        exact nx _ _ _ hm ⟨_, rfl, hS.sel [1, 2, 3, 4, 5, 6, 7, 8, 9, 10, 11, 12, 13, 14, 15, 16] (by decide) rfl⟩
                      · obtain ⟨w272, rfl, hS⟩ := hI
                        refine sq_nx ?_
                        refine c_ret ?_
                        refine ev_to (ev_eqI (ev_var rfl) (ev_lenD hS (i := 8) rfl (ev_var rfl))) ?_
                        exact hm _ (hS.sel [15] (by decide) rfl)
end
end Lw
namespace Lw
open PySem PySem.Spec PyProof.Rows L2 Ml
def sp_top (K : PySem.W.Frag) : Sp := fun vs H Q E => ∃ (a : Addr) (ns : List Int), vs = [.ref a] ∧ SqL K H a (ns.map V.int) ∧ Only H ∧ ns.length ≤ 63 ∧ ∀ H', Q (.bl true) H'
theorem all_mk {l : PySem.W.OpenLaw} {w : World} {K : PySem.W.Frag} {h : Heap} {mg : Str → Option Value} {fa : Addr} (X : K.In h) (H : h.Ns mainGlobals mg) (hfa : mg "law" = some (.ref fa))
    {c0 : Addr}
    {c1 : Addr}
    {c2 : Addr}
    {f0 : Addr} {od0 an0 : Option Addr} {sl0 : Array (Option Value)} {oc0 kV0 dc0 pm0 cd0 ct0 : Value}
    {f1 : Addr} {od1 an1 : Option Addr} {sl1 : Array (Option Value)} {oc1 kV1 dc1 pm1 cd1 ct1 : Value}
    {f2 : Addr} {od2 an2 : Option Addr} {sl2 : Array (Option Value)} {oc2 kV2 dc2 pm2 cd2 ct2 : Value}
    {f3 : Addr} {od3 an3 : Option Addr} {sl3 : Array (Option Value)} {oc3 kV3 dc3 pm3 cd3 ct3 : Value}
    {f4 : Addr} {fd4 : FuncData}
    {f5 : Addr} {od5 an5 : Option Addr} {sl5 : Array (Option Value)} {oc5 kV5 dc5 pm5 cd5 ct5 : Value}
    {f6 : Addr} {od6 an6 : Option Addr} {sl6 : Array (Option Value)} {oc6 kV6 dc6 pm6 cd6 ct6 : Value}
    {f7 : Addr} {od7 an7 : Option Addr} {sl7 : Array (Option Value)} {oc7 kV7 dc7 pm7 cd7 ct7 : Value}
    {f8 : Addr} {od8 an8 : Option Addr} {sl8 : Array (Option Value)} {oc8 kV8 dc8 pm8 cd8 ct8 : Value}
    {f9 : Addr} {od9 an9 : Option Addr} {sl9 : Array (Option Value)} {oc9 kV9 dc9 pm9 cd9 ct9 : Value}
    {f10 : Addr} {od10 an10 : Option Addr} {sl10 : Array (Option Value)} {oc10 kV10 dc10 pm10 cd10 ct10 : Value}
    {f11 : Addr} {od11 an11 : Option Addr} {sl11 : Array (Option Value)} {oc11 kV11 dc11 pm11 cd11 ct11 : Value}
    {f12 : Addr} {od12 an12 : Option Addr} {sl12 : Array (Option Value)} {oc12 kV12 dc12 pm12 cd12 ct12 : Value}
    {f13 : Addr} {od13 an13 : Option Addr} {sl13 : Array (Option Value)} {oc13 kV13 dc13 pm13 cd13 ct13 : Value}
    {f14 : Addr} {od14 an14 : Option Addr} {sl14 : Array (Option Value)} {oc14 kV14 dc14 pm14 cd14 ct14 : Value}
    {f15 : Addr} {od15 an15 : Option Addr} {sl15 : Array (Option Value)} {oc15 kV15 dc15 pm15 cd15 ct15 : Value}
    {f16 : Addr} {od16 an16 : Option Addr} {sl16 : Array (Option Value)} {oc16 kV16 dc16 pm16 cd16 ct16 : Value}
    {f17 : Addr} {od17 an17 : Option Addr} {sl17 : Array (Option Value)} {oc17 kV17 dc17 pm17 cd17 ct17 : Value}
    {f18 : Addr} {od18 an18 : Option Addr} {sl18 : Array (Option Value)} {oc18 kV18 dc18 pm18 cd18 ct18 : Value}
    {f19 : Addr} {od19 an19 : Option Addr} {sl19 : Array (Option Value)} {oc19 kV19 dc19 pm19 cd19 ct19 : Value}
    {f20 : Addr} {od20 an20 : Option Addr} {sl20 : Array (Option Value)} {oc20 kV20 dc20 pm20 cd20 ct20 : Value}
    {f21 : Addr} {od21 an21 : Option Addr} {sl21 : Array (Option Value)} {oc21 kV21 dc21 pm21 cd21 ct21 : Value}
    {t_SEEN : Tok}
    (ac0 : PySem.W.nsIn K mainGlobals "MailError" = some (some (.ref c0)))
    (ac1 : PySem.W.nsIn K mainGlobals "NoName" = some (some (.ref c1)))
    (ac2 : PySem.W.nsIn K mainGlobals "Folders" = some (some (.ref c2)))
    (a0_2 : PySem.W.findIn K (.ref c2) "__init__" = some (some (.ref f0)))
    (i0 : PySem.W.isFn K (.ref f0) = true)
    (l0 : K.lookup f0 = some ⟨oc0, od0, .func (PySem.W.fnOf "__init__" "Folders.__init__" (defArgs s_Folders___init__) (defBody s_Folders___init__) (defScope s_Folders___init__) .none kV0 dc0 pm0 an0 cd0 ct0), sl0⟩)
    (cc0 : PySem.W.codeIn K cd0 "Folders.__init__" = true)
    (k0 : PySem.W.keepIn K (.ref f0) = true)
    (mk2 : PySem.W.makesIn K c2 = true)
    (kc2 : PySem.W.keepIn K (.ref c2) = true)
    (a1_2 : PySem.W.findIn K (.ref c2) "need" = some (some (.ref f1)))
    (i1 : PySem.W.isFn K (.ref f1) = true)
    (l1 : K.lookup f1 = some ⟨oc1, od1, .func (PySem.W.fnOf "need" "Folders.need" (defArgs s_Folders_need) (defBody s_Folders_need) (defScope s_Folders_need) .none kV1 dc1 pm1 an1 cd1 ct1), sl1⟩)
    (cc1 : PySem.W.codeIn K cd1 "Folders.need" = true)
    (k1 : PySem.W.keepIn K (.ref f1) = true)
    (a2_2 : PySem.W.findIn K (.ref c2) "tally" = some (some (.ref f2)))
    (i2 : PySem.W.isFn K (.ref f2) = true)
    (l2 : K.lookup f2 = some ⟨oc2, od2, .func (PySem.W.fnOf "tally" "Folders.tally" (defArgs s_Folders_tally) (defBody s_Folders_tally) (defScope s_Folders_tally) .none kV2 dc2 pm2 an2 cd2 ct2), sl2⟩)
    (cc2 : PySem.W.codeIn K cd2 "Folders.tally" = true)
    (k2 : PySem.W.keepIn K (.ref f2) = true)
    (a3_2 : PySem.W.findIn K (.ref c2) "shift" = some (some (.ref f3)))
    (i3 : PySem.W.isFn K (.ref f3) = true)
    (l3 : K.lookup f3 = some ⟨oc3, od3, .func (PySem.W.fnOf "shift" "Folders.shift" (defArgs s_Folders_shift) (defBody s_Folders_shift) (defScope s_Folders_shift) .none kV3 dc3 pm3 an3 cd3 ct3), sl3⟩)
    (cc3 : PySem.W.codeIn K cd3 "Folders.shift" = true)
    (k3 : PySem.W.keepIn K (.ref f3) = true)
    (a4_2 : PySem.W.findIn K (.ref c2) "add" = some (some (.ref f4)))
    (i4 : PySem.W.isFn K (.ref f4) = true)
    (F4 : FunD K "add" "Folders.add" (defArgs s_Folders_add) (defBody s_Folders_add) (defScope s_Folders_add) [.str ("inbox" : Str), .non] [] f4 fd4)
    (a5_2 : PySem.W.findIn K (.ref c2) "take_out" = some (some (.ref f5)))
    (i5 : PySem.W.isFn K (.ref f5) = true)
    (l5 : K.lookup f5 = some ⟨oc5, od5, .func (PySem.W.fnOf "take_out" "Folders.take_out" (defArgs s_Folders_take_out) (defBody s_Folders_take_out) (defScope s_Folders_take_out) .none kV5 dc5 pm5 an5 cd5 ct5), sl5⟩)
    (cc5 : PySem.W.codeIn K cd5 "Folders.take_out" = true)
    (k5 : PySem.W.keepIn K (.ref f5) = true)
    (a6_2 : PySem.W.findIn K (.ref c2) "place" = some (some (.ref f6)))
    (i6 : PySem.W.isFn K (.ref f6) = true)
    (l6 : K.lookup f6 = some ⟨oc6, od6, .func (PySem.W.fnOf "place" "Folders.place" (defArgs s_Folders_place) (defBody s_Folders_place) (defScope s_Folders_place) .none kV6 dc6 pm6 an6 cd6 ct6), sl6⟩)
    (cc6 : PySem.W.codeIn K cd6 "Folders.place" = true)
    (k6 : PySem.W.keepIn K (.ref f6) = true)
    (a7_2 : PySem.W.findIn K (.ref c2) "mark" = some (some (.ref f7)))
    (i7 : PySem.W.isFn K (.ref f7) = true)
    (l7 : K.lookup f7 = some ⟨oc7, od7, .func (PySem.W.fnOf "mark" "Folders.mark" (defArgs s_Folders_mark) (defBody s_Folders_mark) (defScope s_Folders_mark) .none kV7 dc7 pm7 an7 cd7 ct7), sl7⟩)
    (cc7 : PySem.W.codeIn K cd7 "Folders.mark" = true)
    (k7 : PySem.W.keepIn K (.ref f7) = true)
    (a8_2 : PySem.W.findIn K (.ref c2) "unmark" = some (some (.ref f8)))
    (i8 : PySem.W.isFn K (.ref f8) = true)
    (l8 : K.lookup f8 = some ⟨oc8, od8, .func (PySem.W.fnOf "unmark" "Folders.unmark" (defArgs s_Folders_unmark) (defBody s_Folders_unmark) (defScope s_Folders_unmark) .none kV8 dc8 pm8 an8 cd8 ct8), sl8⟩)
    (cc8 : PySem.W.codeIn K cd8 "Folders.unmark" = true)
    (k8 : PySem.W.keepIn K (.ref f8) = true)
    (a9_2 : PySem.W.findIn K (.ref c2) "folder" = some (some (.ref f9)))
    (i9 : PySem.W.isFn K (.ref f9) = true)
    (l9 : K.lookup f9 = some ⟨oc9, od9, .func (PySem.W.fnOf "folder" "Folders.folder" (defArgs s_Folders_folder) (defBody s_Folders_folder) (defScope s_Folders_folder) .none kV9 dc9 pm9 an9 cd9 ct9), sl9⟩)
    (cc9 : PySem.W.codeIn K cd9 "Folders.folder" = true)
    (k9 : PySem.W.keepIn K (.ref f9) = true)
    (a10_2 : PySem.W.findIn K (.ref c2) "marks" = some (some (.ref f10)))
    (i10 : PySem.W.isFn K (.ref f10) = true)
    (l10 : K.lookup f10 = some ⟨oc10, od10, .func (PySem.W.fnOf "marks" "Folders.marks" (defArgs s_Folders_marks) (defBody s_Folders_marks) (defScope s_Folders_marks) .none kV10 dc10 pm10 an10 cd10 ct10), sl10⟩)
    (cc10 : PySem.W.codeIn K cd10 "Folders.marks" = true)
    (k10 : PySem.W.keepIn K (.ref f10) = true)
    (a11_2 : PySem.W.findIn K (.ref c2) "counts" = some (some (.ref f11)))
    (i11 : PySem.W.isFn K (.ref f11) = true)
    (l11 : K.lookup f11 = some ⟨oc11, od11, .func (PySem.W.fnOf "counts" "Folders.counts" (defArgs s_Folders_counts) (defBody s_Folders_counts) (defScope s_Folders_counts) .none kV11 dc11 pm11 an11 cd11 ct11), sl11⟩)
    (cc11 : PySem.W.codeIn K cd11 "Folders.counts" = true)
    (k11 : PySem.W.keepIn K (.ref f11) = true)
    (a12_2 : PySem.W.findIn K (.ref c2) "marked" = some (some (.ref f12)))
    (i12 : PySem.W.isFn K (.ref f12) = true)
    (l12 : K.lookup f12 = some ⟨oc12, od12, .func (PySem.W.fnOf "marked" "Folders.marked" (defArgs s_Folders_marked) (defBody s_Folders_marked) (defScope s_Folders_marked) .none kV12 dc12 pm12 an12 cd12 ct12), sl12⟩)
    (cc12 : PySem.W.codeIn K cd12 "Folders.marked" = true)
    (k12 : PySem.W.keepIn K (.ref f12) = true)
    (a13_2 : PySem.W.findIn K (.ref c2) "names" = some (some (.ref f13)))
    (i13 : PySem.W.isFn K (.ref f13) = true)
    (l13 : K.lookup f13 = some ⟨oc13, od13, .func (PySem.W.fnOf "names" "Folders.names" (defArgs s_Folders_names) (defBody s_Folders_names) (defScope s_Folders_names) .none kV13 dc13 pm13 an13 cd13 ct13), sl13⟩)
    (cc13 : PySem.W.codeIn K cd13 "Folders.names" = true)
    (k13 : PySem.W.keepIn K (.ref f13) = true)
    (a14_2 : PySem.W.findIn K (.ref c2) "folders" = some (some (.ref f14)))
    (i14 : PySem.W.isFn K (.ref f14) = true)
    (l14 : K.lookup f14 = some ⟨oc14, od14, .func (PySem.W.fnOf "folders" "Folders.folders" (defArgs s_Folders_folders) (defBody s_Folders_folders) (defScope s_Folders_folders) .none kV14 dc14 pm14 an14 cd14 ct14), sl14⟩)
    (cc14 : PySem.W.codeIn K cd14 "Folders.folders" = true)
    (k14 : PySem.W.keepIn K (.ref f14) = true)
    (a15 : PySem.W.nsIn K mainGlobals "_law_row" = some (some (.ref f15)))
    (l15 : K.lookup f15 = some ⟨oc15, od15, .func (PySem.W.fnOf "_law_row" "_law_row" (defArgs s_law_row) (defBody s_law_row) (defScope s_law_row) .none kV15 dc15 pm15 an15 cd15 ct15), sl15⟩)
    (cc15 : PySem.W.codeIn K cd15 "_law_row" = true)
    (k15 : PySem.W.keepIn K (.ref f15) = true)
    (a16 : PySem.W.nsIn K mainGlobals "_law_word" = some (some (.ref f16)))
    (l16 : K.lookup f16 = some ⟨oc16, od16, .func (PySem.W.fnOf "_law_word" "_law_word" (defArgs s_law_word) (defBody s_law_word) (defScope s_law_word) .none kV16 dc16 pm16 an16 cd16 ct16), sl16⟩)
    (cc16 : PySem.W.codeIn K cd16 "_law_word" = true)
    (k16 : PySem.W.keepIn K (.ref f16) = true)
    (a17 : PySem.W.nsIn K mainGlobals "_law_some" = some (some (.ref f17)))
    (l17 : K.lookup f17 = some ⟨oc17, od17, .func (PySem.W.fnOf "_law_some" "_law_some" (defArgs s_law_some) (defBody s_law_some) (defScope s_law_some) .none kV17 dc17 pm17 an17 cd17 ct17), sl17⟩)
    (cc17 : PySem.W.codeIn K cd17 "_law_some" = true)
    (k17 : PySem.W.keepIn K (.ref f17) = true)
    (a18 : PySem.W.nsIn K mainGlobals "_law_road" = some (some (.ref f18)))
    (l18 : K.lookup f18 = some ⟨oc18, od18, .func (PySem.W.fnOf "_law_road" "_law_road" (defArgs s_law_road) (defBody s_law_road) (defScope s_law_road) .none kV18 dc18 pm18 an18 cd18 ct18), sl18⟩)
    (cc18 : PySem.W.codeIn K cd18 "_law_road" = true)
    (k18 : PySem.W.keepIn K (.ref f18) = true)
    (a19 : PySem.W.nsIn K mainGlobals "_law_counted_plainly" = some (some (.ref f19)))
    (l19 : K.lookup f19 = some ⟨oc19, od19, .func (PySem.W.fnOf "_law_counted_plainly" "_law_counted_plainly" (defArgs s_law_counted_plainly) (defBody s_law_counted_plainly) (defScope s_law_counted_plainly) .none kV19 dc19 pm19 an19 cd19 ct19), sl19⟩)
    (cc19 : PySem.W.codeIn K cd19 "_law_counted_plainly" = true)
    (k19 : PySem.W.keepIn K (.ref f19) = true)
    (a20 : PySem.W.nsIn K mainGlobals "_law_seen" = some (some (.ref f20)))
    (l20 : K.lookup f20 = some ⟨oc20, od20, .func (PySem.W.fnOf "_law_seen" "_law_seen" (defArgs s_law_seen) (defBody s_law_seen) (defScope s_law_seen) .none kV20 dc20 pm20 an20 cd20 ct20), sl20⟩)
    (cc20 : PySem.W.codeIn K cd20 "_law_seen" = true)
    (k20 : PySem.W.keepIn K (.ref f20) = true)
    (a21 : PySem.W.nsIn K mainGlobals "law" = some (some (.ref f21)))
    (l21 : K.lookup f21 = some ⟨oc21, od21, .func (PySem.W.fnOf "law" "law" (defArgs s_law) (defBody s_law) (defScope s_law) .none kV21 dc21 pm21 an21 cd21 ct21), sl21⟩)
    (cc21 : PySem.W.codeIn K cd21 "law" = true)
    (k21 : PySem.W.keepIn K (.ref f21) = true)
    (xE1 : PySem.W.excIn K c1 [.type "ValueError", .type "Exception", .type "BaseException", .type "object"] "ValueError.__new__" = true)
    (kE1 : PySem.W.keepIn K (.ref c1) = true)
    (bE1 : PySem.W.subIn K (.ref c1) (.type "BaseException") = some true)
    (tE1 : PySem.W.typeIn K (.ref c1) = some (.type "type"))
    (pg2 : PySem.W.plainGet K c2 Str.empty = true)
    (hd2 : PySem.W.hasDictIn K c2 = true)
    (po2 : PySem.W.plainOver K c2 = true)
    (sa2 : PySem.W.findIn K (.ref c2) "__setattr__" = some (some (.builtin "object.__setattr__")))
    (nf2_0 : PySem.W.findIn K (.ref c2) "boxes" = some none)
    (nf2_1 : PySem.W.findIn K (.ref c2) "tags" = some none)
    (nf2_2 : PySem.W.findIn K (.ref c2) "sums" = some none)
    (nf2_3 : PySem.W.findIn K (.ref c2) "tallies" = some none)
    (z_int : PySem.W.nsIn K mainGlobals "int" = some none)
    (z_len : PySem.W.nsIn K mainGlobals "len" = some none)
    (z_range : PySem.W.nsIn K mainGlobals "range" = some none)
    (z_set : PySem.W.nsIn K mainGlobals "set" = some none)
    (z_sorted : PySem.W.nsIn K mainGlobals "sorted" = some none)
    (z_str : PySem.W.nsIn K mainGlobals "str" = some none)
    (v_SEEN : PySem.W.nsIn K mainGlobals "SEEN" = some (some (.str ("seen" : Str) t_SEEN)))
    : ∃ fd : FuncData, (∀ (s : Shared) (v : Value), BindsTo s fd ⟨[v], []⟩ [("_law_script", v)]) ∧ ∀ base : Heap, K.In base → base.Ns mainGlobals mg → FnOk l.prog w K mg base CX0 5 fa fd ["_law_script"] (sp_top K) := by
  have e := hfa.symm.trans (PySem.W.mg_of X H a21)
  cases e
  have F0 := fun_mk (st := s_Folders___init__) l0 cc0 k0
  have b0 := F0.binds (ps := ["self"]) fun _ _ _ _ _ _ us hl => match us, hl with | [_], _ => rfl
  have F1 := fun_mk (st := s_Folders_need) l1 cc1 k1
  have b1 := F1.binds (ps := ["self", "name"]) fun _ _ _ _ _ _ us hl => match us, hl with | [_, _], _ => rfl
  have F2 := fun_mk (st := s_Folders_tally) l2 cc2 k2
  have b2 := F2.binds (ps := ["self", "box", "word", "step"]) fun _ _ _ _ _ _ us hl => match us, hl with | [_, _, _, _], _ => rfl
  have F3 := fun_mk (st := s_Folders_shift) l3 cc3 k3
  have b3 := F3.binds (ps := ["self", "name", "step"]) fun _ _ _ _ _ _ us hl => match us, hl with | [_, _, _], _ => rfl
  have k4 := F4.kp
  have b4 : Binds K fd4 ["self", "name", "folder", "marks"] [] := by
    obtain ⟨ds, hv, hb⟩ := F4.binds1 (ps := ["self", "name", "folder", "marks"]) 4 2 (by simp) rfl (fun _ _ _ _ _ _ _ us its hl hi => match us, its, hl, hi with | [_, _, _, _], [_, _], _, _ => ⟨_, rfl, rfl⟩)
    cases hv; exact hb
  have F5 := fun_mk (st := s_Folders_take_out) l5 cc5 k5
  have b5 := F5.binds (ps := ["self", "name"]) fun _ _ _ _ _ _ us hl => match us, hl with | [_, _], _ => rfl
  have F6 := fun_mk (st := s_Folders_place) l6 cc6 k6
  have b6 := F6.binds (ps := ["self", "name", "folder"]) fun _ _ _ _ _ _ us hl => match us, hl with | [_, _, _], _ => rfl
  have F7 := fun_mk (st := s_Folders_mark) l7 cc7 k7
  have b7 := F7.binds (ps := ["self", "name", "word"]) fun _ _ _ _ _ _ us hl => match us, hl with | [_, _, _], _ => rfl
  have F8 := fun_mk (st := s_Folders_unmark) l8 cc8 k8
  have b8 := F8.binds (ps := ["self", "name", "word"]) fun _ _ _ _ _ _ us hl => match us, hl with | [_, _, _], _ => rfl
  have F9 := fun_mk (st := s_Folders_folder) l9 cc9 k9
  have b9 := F9.binds (ps := ["self", "name"]) fun _ _ _ _ _ _ us hl => match us, hl with | [_, _], _ => rfl
  have F10 := fun_mk (st := s_Folders_marks) l10 cc10 k10
  have b10 := F10.binds (ps := ["self", "name"]) fun _ _ _ _ _ _ us hl => match us, hl with | [_, _], _ => rfl
  have F11 := fun_mk (st := s_Folders_counts) l11 cc11 k11
  have b11 := F11.binds (ps := ["self", "folder"]) fun _ _ _ _ _ _ us hl => match us, hl with | [_, _], _ => rfl
  have F12 := fun_mk (st := s_Folders_marked) l12 cc12 k12
  have b12 := F12.binds (ps := ["self", "folder", "word"]) fun _ _ _ _ _ _ us hl => match us, hl with | [_, _, _], _ => rfl
  have F13 := fun_mk (st := s_Folders_names) l13 cc13 k13
  have b13 := F13.binds (ps := ["self", "folder"]) fun _ _ _ _ _ _ us hl => match us, hl with | [_, _], _ => rfl
  have F14 := fun_mk (st := s_Folders_folders) l14 cc14 k14
  have b14 := F14.binds (ps := ["self"]) fun _ _ _ _ _ _ us hl => match us, hl with | [_], _ => rfl
  have F15 := fun_mk (st := s_law_row) l15 cc15 k15
  have b15 := F15.binds (ps := ["_law_script", "_law_many"]) fun _ _ _ _ _ _ us hl => match us, hl with | [_, _], _ => rfl
  have F16 := fun_mk (st := s_law_word) l16 cc16 k16
  have b16 := F16.binds (ps := ["_law_base", "_law_turn"]) fun _ _ _ _ _ _ us hl => match us, hl with | [_, _], _ => rfl
  have F17 := fun_mk (st := s_law_some) l17 cc17 k17
  have b17 := F17.binds (ps := ["_law_base"]) fun _ _ _ _ _ _ us hl => match us, hl with | [_], _ => rfl
  have F18 := fun_mk (st := s_law_road) l18 cc18 k18
  have b18 := F18.binds (ps := ["_law_folders", "_law_name", "_law_end", "_law_row_here", "_law_at", "_law_some_here"]) fun _ _ _ _ _ _ us hl => match us, hl with | [_, _, _, _, _, _], _ => rfl
  have F19 := fun_mk (st := s_law_counted_plainly) l19 cc19 k19
  have b19 := F19.binds (ps := ["_law_folders", "_law_box", "_law_words"]) fun _ _ _ _ _ _ us hl => match us, hl with | [_, _, _], _ => rfl
  have F20 := fun_mk (st := s_law_seen) l20 cc20 k20
  have b20 := F20.binds (ps := ["_law_folders", "_law_ends", "_law_some_here"]) fun _ _ _ _ _ _ us hl => match us, hl with | [_, _, _], _ => rfl
  have F21 := fun_mk (st := s_law) l21 cc21 k21
  have b21 := F21.binds (ps := ["_law_script"]) fun _ _ _ _ _ _ us hl => match us, hl with | [_], _ => rfl
  let G : Gx := ⟨K, fun a => none, fun i => ([c0, c1, c2] : List Addr).getD i 0⟩
  have hfz2 : G.fz (G.cl 2) = none := by show (none) = none; rfl
  let T : Txt G mg := {
    a_Folders___init__ := f0,
    fd_Folders___init__ := _,
    F_Folders___init__ := F0,
    b_Folders___init__ := b0,
    kp_Folders___init__ := k0,
    k_Folders := ⟨mk2, a0_2, i0, kc2⟩,
    a_Folders_need := f1,
    fd_Folders_need := _,
    F_Folders_need := F1,
    b_Folders_need := b1,
    kp_Folders_need := k1,
    m_Folders_need := ⟨a1_2, i1, k1⟩,
    a_Folders_tally := f2,
    fd_Folders_tally := _,
    F_Folders_tally := F2,
    b_Folders_tally := b2,
    kp_Folders_tally := k2,
    m_Folders_tally := ⟨a2_2, i2, k2⟩,
    a_Folders_shift := f3,
    fd_Folders_shift := _,
    F_Folders_shift := F3,
    b_Folders_shift := b3,
    kp_Folders_shift := k3,
    m_Folders_shift := ⟨a3_2, i3, k3⟩,
    a_Folders_add := f4,
    fd_Folders_add := _,
    F_Folders_add := F4,
    b_Folders_add := b4,
    kp_Folders_add := k4,
    m_Folders_add := ⟨a4_2, i4, k4⟩,
    a_Folders_take_out := f5,
    fd_Folders_take_out := _,
    F_Folders_take_out := F5,
    b_Folders_take_out := b5,
    kp_Folders_take_out := k5,
    m_Folders_take_out := ⟨a5_2, i5, k5⟩,
    a_Folders_place := f6,
    fd_Folders_place := _,
    F_Folders_place := F6,
    b_Folders_place := b6,
    kp_Folders_place := k6,
    m_Folders_place := ⟨a6_2, i6, k6⟩,
    a_Folders_mark := f7,
    fd_Folders_mark := _,
    F_Folders_mark := F7,
    b_Folders_mark := b7,
    kp_Folders_mark := k7,
    m_Folders_mark := ⟨a7_2, i7, k7⟩,
    a_Folders_unmark := f8,
    fd_Folders_unmark := _,
    F_Folders_unmark := F8,
    b_Folders_unmark := b8,
    kp_Folders_unmark := k8,
    m_Folders_unmark := ⟨a8_2, i8, k8⟩,
    a_Folders_folder := f9,
    fd_Folders_folder := _,
    F_Folders_folder := F9,
    b_Folders_folder := b9,
    kp_Folders_folder := k9,
    m_Folders_folder := ⟨a9_2, i9, k9⟩,
    a_Folders_marks := f10,
    fd_Folders_marks := _,
    F_Folders_marks := F10,
    b_Folders_marks := b10,
    kp_Folders_marks := k10,
    m_Folders_marks := ⟨a10_2, i10, k10⟩,
    a_Folders_counts := f11,
    fd_Folders_counts := _,
    F_Folders_counts := F11,
    b_Folders_counts := b11,
    kp_Folders_counts := k11,
    m_Folders_counts := ⟨a11_2, i11, k11⟩,
    a_Folders_marked := f12,
    fd_Folders_marked := _,
    F_Folders_marked := F12,
    b_Folders_marked := b12,
    kp_Folders_marked := k12,
    m_Folders_marked := ⟨a12_2, i12, k12⟩,
    a_Folders_names := f13,
    fd_Folders_names := _,
    F_Folders_names := F13,
    b_Folders_names := b13,
    kp_Folders_names := k13,
    m_Folders_names := ⟨a13_2, i13, k13⟩,
    a_Folders_folders := f14,
    fd_Folders_folders := _,
    F_Folders_folders := F14,
    b_Folders_folders := b14,
    kp_Folders_folders := k14,
    m_Folders_folders := ⟨a14_2, i14, k14⟩,
    a_law_row := f15,
    fd_law_row := _,
    F_law_row := F15,
    b_law_row := b15,
    kp_law_row := k15,
    g_law_row := PySem.W.mg_of X H a15,
    a_law_word := f16,
    fd_law_word := _,
    F_law_word := F16,
    b_law_word := b16,
    kp_law_word := k16,
    g_law_word := PySem.W.mg_of X H a16,
    a_law_some := f17,
    fd_law_some := _,
    F_law_some := F17,
    b_law_some := b17,
    kp_law_some := k17,
    g_law_some := PySem.W.mg_of X H a17,
    a_law_road := f18,
    fd_law_road := _,
    F_law_road := F18,
    b_law_road := b18,
    kp_law_road := k18,
    g_law_road := PySem.W.mg_of X H a18,
    a_law_counted_plainly := f19,
    fd_law_counted_plainly := _,
    F_law_counted_plainly := F19,
    b_law_counted_plainly := b19,
    kp_law_counted_plainly := k19,
    g_law_counted_plainly := PySem.W.mg_of X H a19,
    a_law_seen := f20,
    fd_law_seen := _,
    F_law_seen := F20,
    b_law_seen := b20,
    kp_law_seen := k20,
    g_law_seen := PySem.W.mg_of X H a20,
    a_law := fa,
    fd_law := _,
    F_law := F21,
    b_law := b21,
    kp_law := k21,
    g_law := PySem.W.mg_of X H a21,
    g_MailError := PySem.W.mg_of X H ac0,
    g_NoName := PySem.W.mg_of X H ac1,
    x_NoName := xE1,
    kp_NoName := kE1,
    r_NoName := fun {Y} hY => raises_own (by rw [hY]; exact bE1) (by rw [hY]; exact tE1),
    g_Folders := PySem.W.mg_of X H ac2,
    cl_Folders := ⟨pg2, hd2, po2, sa2⟩,
    n_Folders_boxes := nf2_0,
    n_Folders_tags := nf2_1,
    n_Folders_sums := nf2_2,
    n_Folders_tallies := nf2_3,
    fz_Folders := hfz2,
    z_int := PySem.W.mg_none_of X H z_int,
    z_len := PySem.W.mg_none_of X H z_len,
    z_range := PySem.W.mg_none_of X H z_range,
    z_set := PySem.W.mg_none_of X H z_set,
    z_sorted := PySem.W.mg_none_of X H z_sorted,
    z_str := PySem.W.mg_none_of X H z_str,
    t_SEEN := t_SEEN,
    c_SEEN := PySem.W.mg_of X H v_SEEN }
  refine ⟨T.fd_law, fun s v => .of_eq rfl, fun base _ _ => ((ok_law T : FnOk l.prog w K mg base CX0 5 fa T.fd_law ["_law_script"] (sp_law G)).imp fun vs H Q E hh => ?_)⟩
  obtain ⟨a, ns, rfl, hs, ho, hl, hq⟩ := hh
  exact ⟨.ref a, ⟨ns⟩, star [], rfl, im_of_only (G := G) ho hs, Sep.unstar (M := []) (Sep.nil H), R.wp_of (law_ok ⟨ns⟩ hl) fun H' _ => hq H'⟩
theorem says_mk {l : PySem.W.OpenLaw} {w : World} {K : PySem.W.Frag} {h : Heap} {mg : Str → Option Value} {fa : Addr} (X : K.In h) (H : h.Ns mainGlobals mg) (hfa : mg "law" = some (.ref fa)) (c : obsK K = valK)
    : ∃ fd : FuncData, (∀ (s : Shared) (v : Value), BindsTo s fd ⟨[v], []⟩ [("_law_script", v)]) ∧ ∀ base : Heap, K.In base → base.Ns mainGlobals mg → FnOk l.prog w K mg base CX0 5 fa fd ["_law_script"] (sp_top K) := by
  have hb : ((fb0 K).all id && (fb1 K).all id) = true := congrArg (fun z : ObT => z.1) c
  simp only [Bool.and_eq_true] at hb
  obtain ⟨g0, g1⟩ := hb
  have cD0 : obsD dfns0 K = valD dfns0 := congrArg (fun z : ObT => z.2) c
  have ac0 : PySem.W.nsIn K mainGlobals "MailError" = some (some (.ref 24)) := of_decide_eq_true (fxM g0 0 rfl)
  have ac1 : PySem.W.nsIn K mainGlobals "NoName" = some (some (.ref 37)) := of_decide_eq_true (fxM g0 1 rfl)
  have ac2 : PySem.W.nsIn K mainGlobals "Folders" = some (some (.ref 151)) := of_decide_eq_true (fxM g0 2 rfl)
  have a0_2 : PySem.W.findIn K (.ref 151) "__init__" = some (some (.ref 53)) := of_decide_eq_true (fxM g0 3 rfl)
  have i0 : PySem.W.isFn K (.ref 53) = true := of_decide_eq_true (fxM g0 4 rfl)
  have mk2 : PySem.W.makesIn K 151 = true := of_decide_eq_true (fxM g0 5 rfl)
  have kc2 : PySem.W.keepIn K (.ref 151) = true := of_decide_eq_true (fxM g0 6 rfl)
  have a1_2 : PySem.W.findIn K (.ref 151) "need" = some (some (.ref 60)) := of_decide_eq_true (fxM g0 7 rfl)
  have i1 : PySem.W.isFn K (.ref 60) = true := of_decide_eq_true (fxM g0 8 rfl)
  have a2_2 : PySem.W.findIn K (.ref 151) "tally" = some (some (.ref 67)) := of_decide_eq_true (fxM g0 9 rfl)
  have i2 : PySem.W.isFn K (.ref 67) = true := of_decide_eq_true (fxM g0 10 rfl)
  have a3_2 : PySem.W.findIn K (.ref 151) "shift" = some (some (.ref 74)) := of_decide_eq_true (fxM g0 11 rfl)
  have i3 : PySem.W.isFn K (.ref 74) = true := of_decide_eq_true (fxM g0 12 rfl)
  have a4_2 : PySem.W.findIn K (.ref 151) "add" = some (some (.ref 82)) := of_decide_eq_true (fxM g0 13 rfl)
  have i4 : PySem.W.isFn K (.ref 82) = true := of_decide_eq_true (fxM g0 14 rfl)
  have a5_2 : PySem.W.findIn K (.ref 151) "take_out" = some (some (.ref 89)) := of_decide_eq_true (fxM g0 15 rfl)
  have i5 : PySem.W.isFn K (.ref 89) = true := of_decide_eq_true (fxM g0 16 rfl)
  have a6_2 : PySem.W.findIn K (.ref 151) "place" = some (some (.ref 96)) := of_decide_eq_true (fxM g0 17 rfl)
  have i6 : PySem.W.isFn K (.ref 96) = true := of_decide_eq_true (fxM g0 18 rfl)
  have a7_2 : PySem.W.findIn K (.ref 151) "mark" = some (some (.ref 103)) := of_decide_eq_true (fxM g0 19 rfl)
  have i7 : PySem.W.isFn K (.ref 103) = true := of_decide_eq_true (fxM g0 20 rfl)
  have a8_2 : PySem.W.findIn K (.ref 151) "unmark" = some (some (.ref 110)) := of_decide_eq_true (fxM g0 21 rfl)
  have i8 : PySem.W.isFn K (.ref 110) = true := of_decide_eq_true (fxM g0 22 rfl)
  have a9_2 : PySem.W.findIn K (.ref 151) "folder" = some (some (.ref 117)) := of_decide_eq_true (fxM g0 23 rfl)
  have i9 : PySem.W.isFn K (.ref 117) = true := of_decide_eq_true (fxM g0 24 rfl)
  have a10_2 : PySem.W.findIn K (.ref 151) "marks" = some (some (.ref 124)) := of_decide_eq_true (fxM g0 25 rfl)
  have i10 : PySem.W.isFn K (.ref 124) = true := of_decide_eq_true (fxM g0 26 rfl)
  have a11_2 : PySem.W.findIn K (.ref 151) "counts" = some (some (.ref 131)) := of_decide_eq_true (fxM g0 27 rfl)
  have i11 : PySem.W.isFn K (.ref 131) = true := of_decide_eq_true (fxM g0 28 rfl)
  have a12_2 : PySem.W.findIn K (.ref 151) "marked" = some (some (.ref 138)) := of_decide_eq_true (fxM g0 29 rfl)
  have i12 : PySem.W.isFn K (.ref 138) = true := of_decide_eq_true (fxM g0 30 rfl)
  have a13_2 : PySem.W.findIn K (.ref 151) "names" = some (some (.ref 143)) := of_decide_eq_true (fxM g0 31 rfl)
  have i13 : PySem.W.isFn K (.ref 143) = true := of_decide_eq_true (fxM g0 32 rfl)
  have a14_2 : PySem.W.findIn K (.ref 151) "folders" = some (some (.ref 148)) := of_decide_eq_true (fxM g0 33 rfl)
  have i14 : PySem.W.isFn K (.ref 148) = true := of_decide_eq_true (fxM g0 34 rfl)
  have a15 : PySem.W.nsIn K mainGlobals "_law_row" = some (some (.ref 162)) := of_decide_eq_true (fxM g0 35 rfl)
  have a16 : PySem.W.nsIn K mainGlobals "_law_word" = some (some (.ref 167)) := of_decide_eq_true (fxM g0 36 rfl)
  have a17 : PySem.W.nsIn K mainGlobals "_law_some" = some (some (.ref 196)) := of_decide_eq_true (fxM g0 37 rfl)
  have a18 : PySem.W.nsIn K mainGlobals "_law_road" = some (some (.ref 203)) := of_decide_eq_true (fxM g0 38 rfl)
  have a19 : PySem.W.nsIn K mainGlobals "_law_counted_plainly" = some (some (.ref 208)) := of_decide_eq_true (fxM g0 39 rfl)
  have a20 : PySem.W.nsIn K mainGlobals "_law_seen" = some (some (.ref 213)) := of_decide_eq_true (fxM g1 0 rfl)
  have a21 : PySem.W.nsIn K mainGlobals "law" = some (some (.ref 218)) := of_decide_eq_true (fxM g1 1 rfl)
  have xE1 : PySem.W.excIn K 37 [.type "ValueError", .type "Exception", .type "BaseException", .type "object"] "ValueError.__new__" = true := of_decide_eq_true (fxM g1 2 rfl)
  have kE1 : PySem.W.keepIn K (.ref 37) = true := of_decide_eq_true (fxM g1 3 rfl)
  have bE1 : PySem.W.subIn K (.ref 37) (.type "BaseException") = some true := of_decide_eq_true (fxM g1 4 rfl)
  have tE1 : PySem.W.typeIn K (.ref 37) = some (.type "type") := of_decide_eq_true (fxM g1 5 rfl)
  have pg2 : PySem.W.plainGet K 151 Str.empty = true := of_decide_eq_true (fxM g1 6 rfl)
  have hd2 : PySem.W.hasDictIn K 151 = true := of_decide_eq_true (fxM g1 7 rfl)
  have po2 : PySem.W.plainOver K 151 = true := of_decide_eq_true (fxM g1 8 rfl)
  have sa2 : PySem.W.findIn K (.ref 151) "__setattr__" = some (some (.builtin "object.__setattr__")) := of_decide_eq_true (fxM g1 9 rfl)
  have nf2_0 : PySem.W.findIn K (.ref 151) "boxes" = some none := of_decide_eq_true (fxM g1 10 rfl)
  have nf2_1 : PySem.W.findIn K (.ref 151) "tags" = some none := of_decide_eq_true (fxM g1 11 rfl)
  have nf2_2 : PySem.W.findIn K (.ref 151) "sums" = some none := of_decide_eq_true (fxM g1 12 rfl)
  have nf2_3 : PySem.W.findIn K (.ref 151) "tallies" = some none := of_decide_eq_true (fxM g1 13 rfl)
  have z_int : PySem.W.nsIn K mainGlobals "int" = some none := of_decide_eq_true (fxM g1 14 rfl)
  have z_len : PySem.W.nsIn K mainGlobals "len" = some none := of_decide_eq_true (fxM g1 15 rfl)
  have z_range : PySem.W.nsIn K mainGlobals "range" = some none := of_decide_eq_true (fxM g1 16 rfl)
  have z_set : PySem.W.nsIn K mainGlobals "set" = some none := of_decide_eq_true (fxM g1 17 rfl)
  have z_sorted : PySem.W.nsIn K mainGlobals "sorted" = some none := of_decide_eq_true (fxM g1 18 rfl)
  have z_str : PySem.W.nsIn K mainGlobals "str" = some none := of_decide_eq_true (fxM g1 19 rfl)
  obtain ⟨tv_SEEN, v_SEEN⟩ := conS_ok (fxM g1 20 rfl)
  obtain ⟨fd0, F0⟩ : ∃ fd, FunD K "__init__" "Folders.__init__" (defArgs s_Folders___init__) (defBody s_Folders___init__) (defScope s_Folders___init__) [] [] 53 fd := defM cD0 0 (d := dfn0) rfl
  obtain ⟨⟨oc0, od0, kV0, dc0, pm0, an0, cd0, ct0, sl0, rfl, l0, cc0⟩, k0⟩ := He5.fun_of F0
  obtain ⟨fd1, F1⟩ : ∃ fd, FunD K "need" "Folders.need" (defArgs s_Folders_need) (defBody s_Folders_need) (defScope s_Folders_need) [] [] 60 fd := defM cD0 1 (d := dfn1) rfl
  obtain ⟨⟨oc1, od1, kV1, dc1, pm1, an1, cd1, ct1, sl1, rfl, l1, cc1⟩, k1⟩ := He5.fun_of F1
  obtain ⟨fd2, F2⟩ : ∃ fd, FunD K "tally" "Folders.tally" (defArgs s_Folders_tally) (defBody s_Folders_tally) (defScope s_Folders_tally) [] [] 67 fd := defM cD0 2 (d := dfn2) rfl
  obtain ⟨⟨oc2, od2, kV2, dc2, pm2, an2, cd2, ct2, sl2, rfl, l2, cc2⟩, k2⟩ := He5.fun_of F2
  obtain ⟨fd3, F3⟩ : ∃ fd, FunD K "shift" "Folders.shift" (defArgs s_Folders_shift) (defBody s_Folders_shift) (defScope s_Folders_shift) [] [] 74 fd := defM cD0 3 (d := dfn3) rfl
  obtain ⟨⟨oc3, od3, kV3, dc3, pm3, an3, cd3, ct3, sl3, rfl, l3, cc3⟩, k3⟩ := He5.fun_of F3
  obtain ⟨fd4, F4⟩ : ∃ fd, FunD K "add" "Folders.add" (defArgs s_Folders_add) (defBody s_Folders_add) (defScope s_Folders_add) [.str ("inbox" : Str), .non] [] 82 fd := defM cD0 4 (d := dfn4) rfl
  obtain ⟨fd5, F5⟩ : ∃ fd, FunD K "take_out" "Folders.take_out" (defArgs s_Folders_take_out) (defBody s_Folders_take_out) (defScope s_Folders_take_out) [] [] 89 fd := defM cD0 5 (d := dfn5) rfl
  obtain ⟨⟨oc5, od5, kV5, dc5, pm5, an5, cd5, ct5, sl5, rfl, l5, cc5⟩, k5⟩ := He5.fun_of F5
  obtain ⟨fd6, F6⟩ : ∃ fd, FunD K "place" "Folders.place" (defArgs s_Folders_place) (defBody s_Folders_place) (defScope s_Folders_place) [] [] 96 fd := defM cD0 6 (d := dfn6) rfl
  obtain ⟨⟨oc6, od6, kV6, dc6, pm6, an6, cd6, ct6, sl6, rfl, l6, cc6⟩, k6⟩ := He5.fun_of F6
  obtain ⟨fd7, F7⟩ : ∃ fd, FunD K "mark" "Folders.mark" (defArgs s_Folders_mark) (defBody s_Folders_mark) (defScope s_Folders_mark) [] [] 103 fd := defM cD0 7 (d := dfn7) rfl
  obtain ⟨⟨oc7, od7, kV7, dc7, pm7, an7, cd7, ct7, sl7, rfl, l7, cc7⟩, k7⟩ := He5.fun_of F7
  obtain ⟨fd8, F8⟩ : ∃ fd, FunD K "unmark" "Folders.unmark" (defArgs s_Folders_unmark) (defBody s_Folders_unmark) (defScope s_Folders_unmark) [] [] 110 fd := defM cD0 8 (d := dfn8) rfl
  obtain ⟨⟨oc8, od8, kV8, dc8, pm8, an8, cd8, ct8, sl8, rfl, l8, cc8⟩, k8⟩ := He5.fun_of F8
  obtain ⟨fd9, F9⟩ : ∃ fd, FunD K "folder" "Folders.folder" (defArgs s_Folders_folder) (defBody s_Folders_folder) (defScope s_Folders_folder) [] [] 117 fd := defM cD0 9 (d := dfn9) rfl
  obtain ⟨⟨oc9, od9, kV9, dc9, pm9, an9, cd9, ct9, sl9, rfl, l9, cc9⟩, k9⟩ := He5.fun_of F9
  obtain ⟨fd10, F10⟩ : ∃ fd, FunD K "marks" "Folders.marks" (defArgs s_Folders_marks) (defBody s_Folders_marks) (defScope s_Folders_marks) [] [] 124 fd := defM cD0 10 (d := dfn10) rfl
  obtain ⟨⟨oc10, od10, kV10, dc10, pm10, an10, cd10, ct10, sl10, rfl, l10, cc10⟩, k10⟩ := He5.fun_of F10
  obtain ⟨fd11, F11⟩ : ∃ fd, FunD K "counts" "Folders.counts" (defArgs s_Folders_counts) (defBody s_Folders_counts) (defScope s_Folders_counts) [] [] 131 fd := defM cD0 11 (d := dfn11) rfl
  obtain ⟨⟨oc11, od11, kV11, dc11, pm11, an11, cd11, ct11, sl11, rfl, l11, cc11⟩, k11⟩ := He5.fun_of F11
  obtain ⟨fd12, F12⟩ : ∃ fd, FunD K "marked" "Folders.marked" (defArgs s_Folders_marked) (defBody s_Folders_marked) (defScope s_Folders_marked) [] [] 138 fd := defM cD0 12 (d := dfn12) rfl
  obtain ⟨⟨oc12, od12, kV12, dc12, pm12, an12, cd12, ct12, sl12, rfl, l12, cc12⟩, k12⟩ := He5.fun_of F12
  obtain ⟨fd13, F13⟩ : ∃ fd, FunD K "names" "Folders.names" (defArgs s_Folders_names) (defBody s_Folders_names) (defScope s_Folders_names) [] [] 143 fd := defM cD0 13 (d := dfn13) rfl
  obtain ⟨⟨oc13, od13, kV13, dc13, pm13, an13, cd13, ct13, sl13, rfl, l13, cc13⟩, k13⟩ := He5.fun_of F13
  obtain ⟨fd14, F14⟩ : ∃ fd, FunD K "folders" "Folders.folders" (defArgs s_Folders_folders) (defBody s_Folders_folders) (defScope s_Folders_folders) [] [] 148 fd := defM cD0 14 (d := dfn14) rfl
  obtain ⟨⟨oc14, od14, kV14, dc14, pm14, an14, cd14, ct14, sl14, rfl, l14, cc14⟩, k14⟩ := He5.fun_of F14
  obtain ⟨fd15, F15⟩ : ∃ fd, FunD K "_law_row" "_law_row" (defArgs s_law_row) (defBody s_law_row) (defScope s_law_row) [] [] 162 fd := defM cD0 15 (d := dfn15) rfl
  obtain ⟨⟨oc15, od15, kV15, dc15, pm15, an15, cd15, ct15, sl15, rfl, l15, cc15⟩, k15⟩ := He5.fun_of F15
  obtain ⟨fd16, F16⟩ : ∃ fd, FunD K "_law_word" "_law_word" (defArgs s_law_word) (defBody s_law_word) (defScope s_law_word) [] [] 167 fd := defM cD0 16 (d := dfn16) rfl
  obtain ⟨⟨oc16, od16, kV16, dc16, pm16, an16, cd16, ct16, sl16, rfl, l16, cc16⟩, k16⟩ := He5.fun_of F16
  obtain ⟨fd17, F17⟩ : ∃ fd, FunD K "_law_some" "_law_some" (defArgs s_law_some) (defBody s_law_some) (defScope s_law_some) [] [] 196 fd := defM cD0 17 (d := dfn17) rfl
  obtain ⟨⟨oc17, od17, kV17, dc17, pm17, an17, cd17, ct17, sl17, rfl, l17, cc17⟩, k17⟩ := He5.fun_of F17
  obtain ⟨fd18, F18⟩ : ∃ fd, FunD K "_law_road" "_law_road" (defArgs s_law_road) (defBody s_law_road) (defScope s_law_road) [] [] 203 fd := defM cD0 18 (d := dfn18) rfl
  obtain ⟨⟨oc18, od18, kV18, dc18, pm18, an18, cd18, ct18, sl18, rfl, l18, cc18⟩, k18⟩ := He5.fun_of F18
  obtain ⟨fd19, F19⟩ : ∃ fd, FunD K "_law_counted_plainly" "_law_counted_plainly" (defArgs s_law_counted_plainly) (defBody s_law_counted_plainly) (defScope s_law_counted_plainly) [] [] 208 fd := defM cD0 19 (d := dfn19) rfl
  obtain ⟨⟨oc19, od19, kV19, dc19, pm19, an19, cd19, ct19, sl19, rfl, l19, cc19⟩, k19⟩ := He5.fun_of F19
  obtain ⟨fd20, F20⟩ : ∃ fd, FunD K "_law_seen" "_law_seen" (defArgs s_law_seen) (defBody s_law_seen) (defScope s_law_seen) [] [] 213 fd := defM cD0 20 (d := dfn20) rfl
  obtain ⟨⟨oc20, od20, kV20, dc20, pm20, an20, cd20, ct20, sl20, rfl, l20, cc20⟩, k20⟩ := He5.fun_of F20
  obtain ⟨fd21, F21⟩ : ∃ fd, FunD K "law" "law" (defArgs s_law) (defBody s_law) (defScope s_law) [] [] 218 fd := defM cD0 21 (d := dfn21) rfl
  obtain ⟨⟨oc21, od21, kV21, dc21, pm21, an21, cd21, ct21, sl21, rfl, l21, cc21⟩, k21⟩ := He5.fun_of F21
  exact all_mk X H hfa ac0 ac1 ac2 a0_2 i0 l0 cc0 k0 mk2 kc2 a1_2 i1 l1 cc1 k1 a2_2 i2 l2 cc2 k2 a3_2 i3 l3 cc3 k3 a4_2 i4 F4 a5_2 i5 l5 cc5 k5 a6_2 i6 l6 cc6 k6 a7_2 i7 l7 cc7 k7 a8_2 i8 l8 cc8 k8 a9_2 i9 l9 cc9 k9 a10_2 i10 l10 cc10 k10 a11_2 i11 l11 cc11 k11 a12_2 i12 l12 cc12 k12 a13_2 i13 l13 cc13 k13 a14_2 i14 l14 cc14 k14 a15 l15 cc15 k15 a16 l16 cc16 k16 a17 l17 cc17 k17 a18 l18 cc18 k18 a19 l19 cc19 k19 a20 l20 cc20 k20 a21 l21 cc21 k21 xE1 kE1 bE1 tE1 pg2 hd2 po2 sa2 nf2_0 nf2_1 nf2_2 nf2_3 z_int z_len z_range z_set z_sorted z_str v_SEEN
end Lw
open PySem PySem.W PyProof.Rows
set_option maxRecDepth 100000 in
set_option maxHeartbeats 0 in
theorem PySem.Challenge.cw_mailroom_k33_whole_by_any_road_holds : PySem.Challenge.rw_mailroom_k33_whole_by_any_road.Holds := by
  w_on; o_law
  refine HandSHeadRun.head_any (r := OpenLaw.row PySem.Challenge.rw_mailroom_k33_whole_by_any_road) (q := view (OpenLaw.row PySem.Challenge.rw_mailroom_k33_whole_by_any_road).prog [17]) (H := Lw.hookM) (ob := Lw.obM) (M := 40000) (loose := Lw.namesM) (d := HandSHeadRun.topDef (OpenLaw.row PySem.Challenge.rw_mailroom_k33_whole_by_any_road).prog 17) (kwd := []) Lw.obM_eq
    (by kernel_rfl) (fun s => by kernel_rfl) Lw.runM (by kernel_rfl) (by kernel_rfl) (by kernel_rfl) (by rfl) (by first | assumption | decide +kernel) (by decide +kernel) ⟨rfl, rfl, rfl, rfl, rfl, by decide +kernel⟩ ?hw ?hc
  case hw => w_witness2
  case hc =>
    refine L2.walk_ofE (l := PySem.Challenge.rw_mailroom_k33_whole_by_any_road) (n := 63) (k := 5) (x := "_law_script") (CX := L2.CX0) rfl (by decide) (by kernel_rfl) ⟨rfl, by decide, by decide⟩ ?F (fun _ _ _ _ z => z)
    intro w mg fa h Y G hmg0
    obtain ⟨K, KX, c⟩ := Y
    have hmg : mg ("law" : PySem.Str) = some (.ref fa) := by
      have e : (HandSHeadRun.topDef (OpenLaw.row PySem.Challenge.rw_mailroom_k33_whole_by_any_road).prog 17).name = ("law" : PySem.Str) := by kernel_rfl
      rw [← e]
      exact hmg0
    obtain ⟨fd, hb, hF⟩ := Lw.says_mk (l := PySem.Challenge.rw_mailroom_k33_whole_by_any_road) (w := w) KX G hmg c
    exact ⟨K, fd, Lw.sp_top K, KX, hb, fun H a ns hl hO hS => ⟨a, ns, rfl, hS, hO, hl, fun _ => rfl⟩, hF⟩
