import PyProof.Rows.All
import Wide.All
import OpenK.AllK
import Wide.FinOn
import HandS.ForMost
import HandS.ForExc
import HandS.SetKeys
import HandS.IsInst
import HandS.Flow
import HandS.Style
import HandS.CallSlots
import HandS.TryMany
import HandS.StrMore
import HandS.Strs
import HandS.TupLe
import HandS.TupAny
import HandS.More
import HandS.Conv
import HandS.Replace
import HandS.FStr
import HandS.ExcIs
import HandS.RaiseMore
import HandS.Defaults
import HandS.DictTup
import HandS.TupSets
import HandS.SortOrd
import HandS.SortKw
import HandS.Lambda
import PyProof.Rows.StrCase
import HandS.TryOnly
import KE.DataFind
import HandS.HotCalls
import PySem.Challenge.RW_mailroom_k41_deeds_told
set_option Elab.async false
set_option linter.all false
set_option maxRecDepth 100000
set_option maxHeartbeats 4000000
namespace Ml
open PySem L2
/-! ### the assertions: what stands where, and who owns it -/
structure Gx where
  K : PySem.W.Frag
  fz : Addr → Option Nat
  cl : Nat → Addr

/-- what never changes once it stands -/
def per (G : Gx) : HO → Bool
  | .tup _ => true
  | .frz _ (.lst _) => true
  | .ins C _ fs => decide (G.fz C = some fs.length)
  | _ => false

/-- what sort of thing it is -/
def kindOf : HO → Nat
  | .lst _ => 0
  | .frz _ (.lst _) => 0
  | .dK _ => 1
  | .dT _ => 1
  | .tup _ => 2
  | .set _ _ => 3
  | .ins _ _ _ => 4
  | _ => 5
/-- all that never changes stands on, and nothing becomes another sort of thing -/
def Stab (G : Gx) (H H' : Hp) : Prop := (∀ a o, H a = some o → per G o = true → H' a = some o) ∧ ∀ a o, H a = some o → ∃ o', H' a = some o' ∧ kindOf o' = kindOf o
theorem Stab.refl {G : Gx} (H : Hp) : Stab G H H := ⟨fun _ _ h _ => h, fun _ o h => ⟨o, h, rfl⟩⟩
theorem Stab.trans {G : Gx} {H H1 H2 : Hp} (a : Stab G H H1) (b : Stab G H1 H2) : Stab G H H2 := ⟨fun x o h p => b.1 x o (a.1 x o h p) p, fun x o h => by
  obtain ⟨o1, h1, k1⟩ := a.2 x o h
  obtain ⟨o2, h2, k2⟩ := b.2 x o1 h1
  exact ⟨o2, h2, k2.trans k1⟩⟩
theorem Stab.of_same {G : Gx} {H H' : Hp} (s : Same H H') : Stab G H H' := ⟨fun a o h _ => s a o h, fun a o h => ⟨o, s a o h, rfl⟩⟩
theorem stab_put {G : Gx} {H : Hp} {a : Addr} {o o' : HO} (e : H a = some o) (n : per G o = false) (kd : kindOf o' = kindOf o) : Stab G H (upd H a o') := ⟨fun b x hb pb => by
  by_cases z : b = a
  · subst z; rw [e] at hb; cases hb; rw [n] at pb; cases pb
  · rw [upd_ne z]; exact hb, fun b x hb => by
  by_cases z : b = a
  · subst z; rw [e] at hb; cases hb; exact ⟨o', upd_same, kd⟩
  · exact ⟨x, by rw [upd_ne z]; exact hb, rfl⟩⟩

structure Asn (G : Gx) where
  sat : Hp → List Addr → Prop
  loc : ∀ H H' fp, sat H fp → (∀ a, a ∈ fp → H' a = H a) → Stab G H H' → sat H' fp

variable {G : Gx}

def satL (H : Hp) : List (Asn G) → List Addr → Prop
  | [], fp => fp = []
  | A :: L, fp => ∃ f1 f2, fp = f1 ++ f2 ∧ A.sat H f1 ∧ satL H L f2

theorem satL.loc {H H' : Hp} : ∀ {L : List (Asn G)} {fp : List Addr}, satL H L fp → (∀ a, a ∈ fp → H' a = H a) → Stab G H H' → satL H' L fp
  | [], fp, h, _, _ => h
  | A :: L, fp, ⟨f1, f2, e, h1, h2⟩, k, s => ⟨f1, f2, e, A.loc H H' f1 h1 (fun a m => k a (by rw [e]; exact List.mem_append_left _ m)) s,
      satL.loc h2 (fun a m => k a (by rw [e]; exact List.mem_append_right _ m)) s⟩

theorem satL.perm {H : Hp} {L L' : List (Asn G)} (p : L.Perm L') : ∀ {fp : List Addr}, satL H L fp → ∃ fp', fp'.Perm fp ∧ satL H L' fp' := by
  induction p with
  | nil => intro fp h; exact ⟨fp, .refl _, h⟩
  | cons x _ ih =>
    rintro fp ⟨f1, f2, e, h1, h2⟩
    obtain ⟨g, pg, hg⟩ := ih h2
    exact ⟨f1 ++ g, by rw [e]; exact List.Perm.append_left f1 pg, f1, g, rfl, h1, hg⟩
  | swap x y l =>
    rintro fp ⟨f1, f2, e, h1, g1, g2, e2, k1, k2⟩
    refine ⟨g1 ++ (f1 ++ g2), ?_, g1, f1 ++ g2, rfl, k1, f1, g2, rfl, h1, k2⟩
    rw [e, e2, ← List.append_assoc, ← List.append_assoc]
    exact List.Perm.append_right g2 List.perm_append_comm
  | trans _ _ ih1 ih2 =>
    intro fp h
    obtain ⟨g, pg, hg⟩ := ih1 h
    obtain ⟨k, pk, hk⟩ := ih2 hg
    exact ⟨k, pk.trans pg, hk⟩

theorem satL.append {H : Hp} : ∀ {L L' : List (Asn G)} {fp : List Addr}, satL H (L ++ L') fp ↔ ∃ f1 f2, fp = f1 ++ f2 ∧ satL H L f1 ∧ satL H L' f2
  | [], L', fp => ⟨fun h => ⟨[], fp, rfl, rfl, h⟩, fun ⟨f1, f2, e, h1, h2⟩ => by
      have h1' : f1 = [] := h1
      subst h1'; subst e; exact h2⟩
  | A :: L, L', fp => by
    constructor
    · rintro ⟨f1, f2, e, h1, h2⟩
      obtain ⟨g1, g2, e2, k1, k2⟩ := satL.append.mp h2
      exact ⟨f1 ++ g1, g2, by rw [e, e2, List.append_assoc], ⟨f1, g1, rfl, h1, k1⟩, k2⟩
    · rintro ⟨f1, f2, e, ⟨g1, g2, e2, h1, h2⟩, h3⟩
      exact ⟨g1, g2 ++ f2, by rw [e, e2, List.append_assoc], h1, satL.append.mpr ⟨g2, f2, rfl, h2, h3⟩⟩

/-- the assertions hold, each of its own part of the heap -/
def Sep (H : Hp) (L : List (Asn G)) : Prop := ∃ fp, satL H L fp ∧ fp.Nodup ∧ ∀ a, a ∈ fp → ∃ o, H a = some o ∧ per G o = false

theorem Sep.perm {H : Hp} {L L' : List (Asn G)} (h : Sep H L) (p : L.Perm L') : Sep H L' := by
  obtain ⟨fp, h1, h2, h3⟩ := h
  obtain ⟨g, pg, hg⟩ := satL.perm p h1
  exact ⟨g, hg, pg.nodup_iff.mpr h2, fun a m => h3 a (pg.mem_iff.mp m)⟩
theorem Sep.nil (H : Hp) : Sep H ([] : List (Asn G)) := ⟨[], rfl, List.nodup_nil, fun a m => absurd m (by simp)⟩
theorem Sep.left {H : Hp} {L L' : List (Asn G)} (h : Sep H (L ++ L')) : Sep H L := by
  obtain ⟨fp, h1, h2, h3⟩ := h
  obtain ⟨f1, f2, e, k1, k2⟩ := satL.append.mp h1
  subst e
  exact ⟨f1, k1, (List.nodup_append.mp h2).1, fun a m => h3 a (List.mem_append_left _ m)⟩
theorem Sep.tail {H : Hp} {A : Asn G} {L : List (Asn G)} (h : Sep H (A :: L)) : Sep H L := by
  have p : (A :: L).Perm (L ++ [A]) := (List.perm_append_singleton A L).symm
  exact (h.perm p).left
/-- old things stand, new ones may come -/
theorem Sep.more {H H' : Hp} {L : List (Asn G)} (h : Sep H L) (s : Same H H') : Sep H' L := by
  obtain ⟨fp, h1, h2, h3⟩ := h
  exact ⟨fp, h1.loc (fun a m => by obtain ⟨o, e, _⟩ := h3 a m; rw [e]; exact s a o e) (.of_same s), h2, fun a m => by
    obtain ⟨o, e, n⟩ := h3 a m; exact ⟨o, s a o e, n⟩⟩
theorem satL.at {H : Hp} {A : Asn G} : ∀ {L : List (Asn G)} {fp : List Addr} {i : Nat}, satL H L fp → L[i]? = some A → ∃ fp, A.sat H fp
  | [], _, _, _, e => by simp at e
  | B :: L, _, 0, ⟨f1, _, _, k1, _⟩, e => ⟨f1, by
      have : B = A := Option.some.inj e
      subst this; exact k1⟩
  | B :: L, _, i + 1, ⟨_, f2, _, _, k2⟩, e => satL.at (L := L) (i := i) k2 (by simpa using e)
theorem Sep.at {H : Hp} {L : List (Asn G)} (h : Sep H L) {i : Nat} {A : Asn G} (e : L[i]? = some A) : ∃ fp, A.sat H fp := by
  obtain ⟨fp, h1, _, _⟩ := h
  exact satL.at h1 e
/-- the i-th one ahead -/
theorem pull_perm {α : Type} : ∀ {L : List α} {i : Nat} {A : α}, L[i]? = some A → L.Perm (A :: L.eraseIdx i)
  | [], _, _, e => by simp at e
  | B :: L, 0, A, e => by
    have : B = A := Option.some.inj e
    subst this
    exact .refl _
  | B :: L, i + 1, A, e => by
    have ih := pull_perm (L := L) (i := i) (A := A) (by simpa using e)
    exact (List.Perm.cons B ih).trans (List.Perm.swap A B _)
theorem set_perm {α : Type} : ∀ {L : List α} {i : Nat} {A B : α}, L[i]? = some A → (B :: L.eraseIdx i).Perm (L.set i B)
  | [], _, _, _, e => by simp at e
  | C :: L, 0, A, B, e => .refl _
  | C :: L, i + 1, A, B, e => by
    have ih := set_perm (L := L) (i := i) (A := A) (B := B) (by simpa using e)
    exact (List.Perm.swap C B _).trans (List.Perm.cons C ih)
/-- chosen ones, in a chosen order -/
def pick {α : Type} (L : List α) (is : List Nat) : List α := is.filterMap fun i => L[i]?
theorem pick_perm {α : Type} : ∀ (is : List Nat) (L : List α), is.Nodup → ∃ R, L.Perm (pick L is ++ R)
  | [], L, _ => ⟨L, .refl _⟩
  | i :: is, L, nd => by
    obtain ⟨n1, n2⟩ := List.nodup_cons.mp nd
    cases e : L[i]? with
    | none =>
      obtain ⟨R, p⟩ := pick_perm is L n2
      refine ⟨R, ?_⟩
      have : pick L (i :: is) = pick L is := by unfold pick; rw [List.filterMap_cons, e]
      rw [this]; exact p
    | some A =>
      -- the others by their places without i
      have key : ∀ (js : List Nat), i ∉ js → pick L js = pick (L.eraseIdx i) (js.map fun j => if j < i then j else j - 1) := by
        intro js hj
        unfold pick
        rw [List.filterMap_map]
        have gen : ∀ js : List Nat, i ∉ js → js.filterMap (fun i => L[i]?) = js.filterMap ((fun j => (L.eraseIdx i)[j]?) ∘ fun j => if j < i then j else j - 1) := by
          intro js
          induction js with
          | nil => intro _; rfl
          | cons j js ih =>
            intro hm
            have hji : j ≠ i := fun z => hm (by rw [z]; exact List.mem_cons_self)
            have ih' := ih fun z => hm (List.mem_cons_of_mem _ z)
            have ej : L[j]? = ((fun j => (L.eraseIdx i)[j]?) ∘ fun j => if j < i then j else j - 1) j := by
              show L[j]? = (L.eraseIdx i)[if j < i then j else j - 1]?
              rw [List.getElem?_eraseIdx]
              by_cases c : j < i
              · rw [if_pos c, if_pos c]
              · rw [if_neg c, if_neg (by omega)]
                congr 1; omega
            rw [List.filterMap_cons, List.filterMap_cons, ih', ej]
        exact gen js hj
      have nd2 : (is.map fun j => if j < i then j else j - 1).Nodup := by
        refine List.pairwise_map.mpr (List.Pairwise.imp_of_mem ?_ n2)
        intro a b ha hb hab z
        have ha' : a ≠ i := fun q => n1 (q ▸ ha)
        have hb' : b ≠ i := fun q => n1 (q ▸ hb)
        split at z <;> split at z <;> omega
      obtain ⟨R, p⟩ := pick_perm (is.map fun j => if j < i then j else j - 1) (L.eraseIdx i) nd2
      refine ⟨R, ?_⟩
      have e2 : pick L (i :: is) = A :: pick L is := by unfold pick; rw [List.filterMap_cons, e]
      rw [e2, key is n1]
      exact (pull_perm e).trans (List.Perm.cons A p)
termination_by is => is.length
theorem Sep.sel {H : Hp} {L L' : List (Asn G)} (h : Sep H L) (is : List Nat) (nd : is.Nodup) (e : pick L is = L') : Sep H L' := by
  obtain ⟨R, p⟩ := pick_perm is L nd
  rw [e] at p
  exact (h.perm p).left

/-! ### the kinds of assertions -/
/-- at a stands o, owned -/
def cell (a : Addr) (o : HO) : Asn G := ⟨fun H fp => fp = [a] ∧ H a = some o, fun H H' fp h k _ => ⟨h.1, by rw [k a (by rw [h.1]; simp)]; exact h.2⟩⟩
/-- a fact that stays -/
def fact (p : Hp → Prop) (st : ∀ H H', p H → Stab G H H' → p H') : Asn G := ⟨fun H fp => fp = [] ∧ p H, fun H H' fp h _ s => ⟨h.1, st H H' h.2 s⟩⟩
/-- several as one -/
def star (L : List (Asn G)) : Asn G := ⟨fun H fp => satL H L fp, fun H H' fp h k s => h.loc k s⟩
/-- some one of them -/
def exA {α : Type} (f : α → Asn G) : Asn G := ⟨fun H fp => ∃ x, (f x).sat H fp, fun H H' fp ⟨x, h⟩ k s => ⟨x, (f x).loc H H' fp h k s⟩⟩
/-- and a plain truth -/
def andA (p : Prop) (A : Asn G) : Asn G := ⟨fun H fp => p ∧ A.sat H fp, fun H H' fp ⟨x, h⟩ k s => ⟨x, A.loc H H' fp h k s⟩⟩

theorem Sep.star {H : Hp} {L M : List (Asn G)} (h : Sep H (M ++ [Ml.star L])) : Sep H (M ++ L) := by
  obtain ⟨fp, h1, h2, h3⟩ := h
  obtain ⟨f1, f2, e, k1, g1, g2, e2, k2, k3⟩ := satL.append.mp h1
  have k3' : g2 = [] := k3
  subst k3'
  rw [List.append_nil] at e2
  subst e2
  exact ⟨fp, satL.append.mpr ⟨f1, f2, e, k1, k2⟩, h2, h3⟩
theorem Sep.unstar {H : Hp} {L M : List (Asn G)} (h : Sep H (M ++ L)) : Sep H (M ++ [Ml.star L]) := by
  obtain ⟨fp, h1, h2, h3⟩ := h
  obtain ⟨f1, f2, e, k1, k2⟩ := satL.append.mp h1
  exact ⟨fp, satL.append.mpr ⟨f1, f2, e, k1, f2, [], by simp, k2, rfl⟩, h2, h3⟩
theorem Sep.star1 {H : Hp} {L M : List (Asn G)} (h : Sep H (Ml.star L :: M)) : Sep H (L ++ M) := by
  obtain ⟨fp, ⟨f1, f2, e, h1, k⟩, h2, h3⟩ := h
  exact ⟨fp, satL.append.mpr ⟨f1, f2, e, h1, k⟩, h2, h3⟩
theorem Sep.unstar1 {H : Hp} {L M : List (Asn G)} (h : Sep H (L ++ M)) : Sep H (Ml.star L :: M) := by
  obtain ⟨fp, h1, h2, h3⟩ := h
  obtain ⟨f1, f2, e, k1, k2⟩ := satL.append.mp h1
  exact ⟨fp, ⟨f1, f2, e, k1, k2⟩, h2, h3⟩
theorem Sep.ex {α : Type} {f : α → Asn G} {H : Hp} {M : List (Asn G)} (h : Sep H (exA f :: M)) : ∃ x, Sep H (f x :: M) := by
  obtain ⟨fp, ⟨f1, f2, e, ⟨x, h1⟩, k⟩, h2, h3⟩ := h
  exact ⟨x, fp, ⟨f1, f2, e, h1, k⟩, h2, h3⟩
theorem Sep.exI {α : Type} {f : α → Asn G} {H : Hp} {M : List (Asn G)} (x : α) (h : Sep H (f x :: M)) : Sep H (exA f :: M) := by
  obtain ⟨fp, ⟨f1, f2, e, h1, k⟩, h2, h3⟩ := h
  exact ⟨fp, ⟨f1, f2, e, ⟨x, h1⟩, k⟩, h2, h3⟩
theorem Sep.and {p : Prop} {A : Asn G} {H : Hp} {M : List (Asn G)} (h : Sep H (andA p A :: M)) : p ∧ Sep H (A :: M) := by
  obtain ⟨fp, ⟨f1, f2, e, ⟨x, h1⟩, k⟩, h2, h3⟩ := h
  exact ⟨x, fp, ⟨f1, f2, e, h1, k⟩, h2, h3⟩
theorem Sep.andI {p : Prop} {A : Asn G} {H : Hp} {M : List (Asn G)} (x : p) (h : Sep H (A :: M)) : Sep H (andA p A :: M) := by
  obtain ⟨fp, ⟨f1, f2, e, h1, k⟩, h2, h3⟩ := h
  exact ⟨fp, ⟨f1, f2, e, ⟨x, h1⟩, k⟩, h2, h3⟩
/-- another view of the first one, over the same part -/
theorem Sep.view {A B : Asn G} {H : Hp} {M : List (Asn G)} (h : Sep H (A :: M)) (v : ∀ fp, A.sat H fp → B.sat H fp) : Sep H (B :: M) := by
  obtain ⟨fp, ⟨f1, f2, e, h1, k⟩, h2, h3⟩ := h
  exact ⟨fp, ⟨f1, f2, e, v f1 h1, k⟩, h2, h3⟩
theorem Sep.addFact {p : Hp → Prop} {st : ∀ H H', p H → Stab G H H' → p H'} {H : Hp} {M : List (Asn G)} (h : Sep H M) (x : p H) : Sep H (fact p st :: M) := by
  obtain ⟨fp, h1, h2, h3⟩ := h
  exact ⟨fp, ⟨[], fp, rfl, ⟨rfl, x⟩, h1⟩, h2, h3⟩
theorem Sep.getFact {p : Hp → Prop} {st : ∀ H H', p H → Stab G H H' → p H'} {H : Hp} {M : List (Asn G)} (h : Sep H M) {i : Nat} (e : M[i]? = some (fact p st)) : p H := by
  obtain ⟨fp, _, x⟩ := h.at e
  exact x
theorem Sep.getCell {H : Hp} {M : List (Asn G)} (h : Sep H M) {i : Nat} {a : Addr} {o : HO} (e : M[i]? = some (cell a o)) : H a = some o := by
  obtain ⟨fp, _, x⟩ := h.at e
  exact x
theorem same_new {H : Hp} {p : Addr} {o : HO} (h : H p = none) : Same H (upd H p o) := fun b u e => by
  rw [upd_ne (ne_of_none e h)]; exact e
/-- a new thing -/
theorem Sep.new {H : Hp} {M : List (Asn G)} (h : Sep H M) {p : Addr} {o : HO} (hp : H p = none) (n : per G o = false) : Sep (upd H p o) (cell p o :: M) := by
  have h' := h.more (same_new (o := o) hp)
  obtain ⟨fp, h1, h2, h3⟩ := h
  obtain ⟨_, k1, _, _⟩ := (⟨fp, h1, h2, h3⟩ : Sep H M)
  have q : satL (upd H p o) M fp := h1.loc (fun a m => by obtain ⟨u, e, _⟩ := h3 a m; exact upd_ne (ne_of_none e hp)) (.of_same (same_new hp))
  refine ⟨p :: fp, ⟨[p], fp, rfl, ⟨rfl, upd_same⟩, q⟩, List.nodup_cons.mpr ⟨fun m => ?_, h2⟩, fun a m => ?_⟩
  · obtain ⟨u, e, _⟩ := h3 p m
    rw [hp] at e; cases e
  · rcases List.mem_cons.mp m with rfl | m
    · exact ⟨o, upd_same, n⟩
    · obtain ⟨u, e, z⟩ := h3 a m
      exact ⟨u, by rw [upd_ne (ne_of_none e hp)]; exact e, z⟩
/-- a store at the first one's place -/
theorem Sep.put1 {H : Hp} {M : List (Asn G)} {a : Addr} {o o' : HO} (h : Sep H (cell a o :: M)) (n : per G o' = false) (kd : kindOf o' = kindOf o) : Sep (upd H a o') (cell a o' :: M) := by
  obtain ⟨fp, ⟨f1, f2, e, ⟨e1, ho⟩, k⟩, h2, h3⟩ := h
  subst e1; subst e
  have nd : ¬ a ∈ f2 := (List.nodup_cons.mp h2).1
  obtain ⟨u, hu, nu⟩ := h3 a (by simp)
  have st : Stab G H (upd H a o') := stab_put ho (by rw [hu] at ho; cases ho; exact nu) kd
  refine ⟨a :: f2, ⟨[a], f2, rfl, ⟨rfl, upd_same⟩, k.loc (fun b m => upd_ne fun z => nd (z ▸ m)) st⟩, h2, fun b m => ?_⟩
  rcases List.mem_cons.mp m with rfl | m
  · exact ⟨o', upd_same, n⟩
  · obtain ⟨x, hx, nx⟩ := h3 b (by simp [m])
    exact ⟨x, by rw [upd_ne (fun z => nd (by rw [← z]; exact m))]; exact hx, nx⟩
theorem Sep.put {H : Hp} {M : List (Asn G)} {i : Nat} {a : Addr} {o o' : HO} (h : Sep H M) (e : M[i]? = some (cell a o)) (n : per G o' = false) (kd : kindOf o' = kindOf o) : Sep (upd H a o') (M.set i (cell a o')) :=
  ((h.perm (pull_perm e)).put1 n kd).perm (set_perm e)
/-- another view of the i-th one -/
theorem Sep.viewAt {A B : Asn G} {H : Hp} {M : List (Asn G)} {i : Nat} (h : Sep H M) (e : M[i]? = some A) (v : ∀ fp, A.sat H fp → B.sat H fp) : Sep H (M.set i B) :=
  ((h.perm (pull_perm e)).view v).perm (set_perm e)
end Ml

namespace Ml
open PySem L2
/-! ### plain programs: what is reckoned, an error, or a bound that is not kept -/
structure Exc where
  cls : Nat
  row : Int
  deriving DecidableEq, Repr
inductive R (α : Type) where
  | ok (a : α) | exc (x : Exc) | bad
  deriving DecidableEq, Repr
namespace R
variable {α β σ ρ : Type}
def bind : R α → (α → R β) → R β
  | .ok a, f => f a
  | .exc x, _ => .exc x
  | .bad, _ => .bad
@[simp] theorem bind_ok (a : α) (f : α → R β) : (R.ok a).bind f = f a := rfl
@[simp] theorem bind_exc (x : Exc) (f : α → R β) : (R.exc x : R α).bind f = .exc x := rfl
@[simp] theorem bind_bad (f : α → R β) : (R.bad : R α).bind f = .bad := rfl
theorem bind_assoc {γ : Type} (m : R α) (f : α → R β) (g : β → R γ) : (m.bind f).bind g = m.bind fun x => (f x).bind g := by cases m <;> rfl
def need (p : Prop) [Decidable p] (k : R α) : R α := if p then k else .bad
@[simp] theorem need_pos {p : Prop} [Decidable p] (h : p) (k : R α) : need p k = k := if_pos h
/-- what holds of the answer, or of the error -/
def wp : R α → (α → Prop) → (Exc → Prop) → Prop
  | .ok a, q, _ => q a
  | .exc x, _, e => e x
  | .bad, _, _ => False
theorem wp_bind {m : R α} {f : α → R β} {q : β → Prop} {e : Exc → Prop} (h : wp (m.bind f) q e) : wp m (fun a => wp (f a) q e) e := by
  cases m <;> exact h
theorem wp_need {p : Prop} [Decidable p] {k : R α} {q : α → Prop} {e : Exc → Prop} (h : wp (need p k) q e) : p ∧ wp k q e := by
  unfold need at h
  by_cases c : p
  · rw [if_pos c] at h; exact ⟨c, h⟩
  · rw [if_neg c] at h; exact h.elim
theorem wp_mono {m : R α} {q q' : α → Prop} {e e' : Exc → Prop} (h : wp m q e) (hq : ∀ a, q a → q' a) (he : ∀ x, e x → e' x) : wp m q' e' := by
  cases m with
  | ok a => exact hq a h
  | exc x => exact he x h
  | bad => exact h
theorem wp_of {m : R α} {a : α} {q : α → Prop} {e : Exc → Prop} (h : m = .ok a) (k : q a) : wp m q e := by rw [h]; exact k
theorem wp_if {c : Prop} [Decidable c] {a b : R α} {q : α → Prop} {e : Exc → Prop} (h : wp (if c then a else b) q e) : (c → wp a q e) ∧ (¬ c → wp b q e) := by
  by_cases x : c
  · rw [if_pos x] at h; exact ⟨fun _ => h, fun n => absurd x n⟩
  · rw [if_neg x] at h; exact ⟨fun y => absurd y x, fun _ => h⟩
end R
/-- a turn's end: on with s, out of the loop with s, out of the def with r -/
inductive Fl (σ ρ : Type) where
  | go (s : σ) | brk (s : σ) | out (r : ρ)
  deriving DecidableEq, Repr
section
variable {α β σ ρ : Type}
def forR (f : σ → α → R σ) : List α → σ → R σ
  | [], s => .ok s
  | x :: xs, s => (f s x).bind fun s => forR f xs s
def forF (f : σ → α → R (Fl σ ρ)) : List α → σ → R (Fl σ ρ)
  | [], s => .ok (.go s)
  | x :: xs, s => (f s x).bind fun r => match r with
    | .go s => forF f xs s
    | .brk s => .ok (.go s)
    | .out r => .ok (.out r)
def whileR (c : σ → R Bool) (f : σ → R σ) : Nat → σ → R σ
  | 0, s => (c s).bind fun b => if b = true then .bad else .ok s
  | n + 1, s => (c s).bind fun b => if b = true then (f s).bind fun s => whileR c f n s else .ok s
def whileF (c : σ → R Bool) (f : σ → R (Fl σ ρ)) : Nat → σ → R (Fl σ ρ)
  | 0, s => (c s).bind fun b => if b = true then .bad else .ok (.go s)
  | n + 1, s => (c s).bind fun b => if b = true then (f s).bind fun r => (match r with
    | .go s => whileF c f n s
    | .brk s => .ok (.go s)
    | .out r => .ok (.out r)) else .ok (.go s)
/-- a comprehension: what each item gives, the state carried -/
def compR (f : σ → α → R (σ × Option β)) : List α → σ → R (σ × List β)
  | [], s => .ok (s, [])
  | x :: xs, s => (f s x).bind fun r => (compR f xs r.1).bind fun t => .ok (t.1, match r.2 with
    | some y => y :: t.2
    | none => t.2)
end

/-! ### values -/
class Im (G : Gx) (α : Type) where
  im : Hp → V → α → Prop
  st : ∀ {H H' : Hp} {v : V} {x : α}, im H v x → Stab G H H' → im H' v x
class Fv (G : Gx) (α : Type) extends Im G α where
  enc : α → V
  im_iff : ∀ {H : Hp} {v : V} {x : α}, im H v x ↔ v = enc x
variable {G : Gx}
instance imInt : Im G Int := ⟨fun _ v x => v = .int x, fun h _ => h⟩
instance imBool : Im G Bool := ⟨fun _ v x => v = .bl x, fun h _ => h⟩
instance imStr : Im G Str := ⟨fun _ v x => v = .str x, fun h _ => h⟩
instance imUnit : Im G Unit := ⟨fun _ v _ => v = .non, fun h _ => h⟩
instance fInt : Fv G Int := { enc := .int, im_iff := .rfl }
instance fBool : Fv G Bool := { enc := .bl, im_iff := .rfl }
instance fStr : Fv G Str := { enc := .str, im_iff := .rfl }
instance fUnit : Fv G Unit := { enc := fun _ => .non, im_iff := .rfl }
/-- the script -/
structure Script where
  ns : List Int
instance : Im G Script := ⟨fun H v x => ∃ a, v = .ref a ∧ ((∃ o, H a = some (.frz o (.lst (x.ns.map V.int)))) ∨ ∃ o its n, List.lookup a G.K = some o ∧ o.cls = Value.type "list" ∧ o.dict = none ∧ o.data = Data.seq its n ∧ its.size ≤ sizeLine ∧ Vals (x.ns.map V.int) its.toList),
  fun ⟨a, e, h⟩ s => ⟨a, e, h.imp (fun ⟨o, h⟩ => ⟨o, s.1 a _ h rfl⟩) id⟩⟩
theorem im_script {H : Hp} {v : V} {x : Script} (h : Im.im G H v x) : ∃ a, v = .ref a ∧ SqL G.K H a (x.ns.map V.int) := by
  obtain ⟨a, e, h⟩ := h
  refine ⟨a, e, ?_⟩
  rcases h with ⟨o, h⟩ | h
  · exact .inl (.inr ⟨o, h⟩)
  · exact .inr h
theorem sq_script {H : Hp} {a : Addr} {x : Script} (h : Im.im G H (.ref a) x) : SqL G.K H a (x.ns.map V.int) := by
  obtain ⟨b, e, h⟩ := im_script h
  cases e; exact h
def imL {α : Type} [Im G α] (H : Hp) : List V → List α → Prop
  | [], [] => True
  | v :: vs, x :: xs => Im.im G H v x ∧ imL H vs xs
  | _, _ => False
section
variable {α : Type} [Im G α] {H H' : Hp}
theorem imL.st : ∀ {vs : List V} {xs : List α}, imL (G := G) H vs xs → Stab G H H' → imL (G := G) H' vs xs
  | [], [], _, _ => True.intro
  | v :: vs, x :: xs, h, s => ⟨Im.st h.1 s, imL.st h.2 s⟩
  | [], _ :: _, h, _ => h
  | _ :: _, [], h, _ => h
theorem imL.len : ∀ {vs : List V} {xs : List α}, imL (G := G) H vs xs → vs.length = xs.length
  | [], [], _ => rfl
  | v :: vs, x :: xs, h => by rw [List.length_cons, List.length_cons, imL.len h.2]
  | [], _ :: _, h => h.elim
  | _ :: _, [], h => h.elim
theorem imL.app : ∀ {vs ws : List V} {xs ys : List α}, imL (G := G) H vs xs → imL (G := G) H ws ys → imL (G := G) H (vs ++ ws) (xs ++ ys)
  | [], _, [], _, _, h => h
  | v :: vs, _, x :: xs, _, h, k => ⟨h.1, imL.app h.2 k⟩
  | [], _, _ :: _, _, h, _ => h.elim
  | _ :: _, _, [], _, h, _ => h.elim
theorem imL.get : ∀ {vs : List V} {xs : List α} {i : Nat} {x : α}, imL (G := G) H vs xs → xs[i]? = some x → ∃ v, vs[i]? = some v ∧ Im.im G H v x
  | [], [], _, _, _, e => by simp at e
  | v :: vs, x :: xs, 0, y, h, e => by
    have : x = y := Option.some.inj e
    subst this
    exact ⟨v, rfl, h.1⟩
  | v :: vs, x :: xs, i + 1, y, h, e => by
    obtain ⟨u, h1, h2⟩ := imL.get (i := i) (x := y) h.2 (by simpa using e)
    exact ⟨u, by simpa using h1, h2⟩
  | [], _ :: _, _, _, h, _ => h.elim
  | _ :: _, [], _, _, h, _ => h.elim
theorem imL.getV : ∀ {vs : List V} {xs : List α} {i : Nat} {v : V}, imL (G := G) H vs xs → vs[i]? = some v → ∃ x, xs[i]? = some x ∧ Im.im G H v x
  | [], [], _, _, _, e => by simp at e
  | v :: vs, x :: xs, 0, y, h, e => by
    have : v = y := Option.some.inj e
    subst this
    exact ⟨x, rfl, h.1⟩
  | v :: vs, x :: xs, i + 1, y, h, e => by
    obtain ⟨u, h1, h2⟩ := imL.getV (i := i) (v := y) h.2 (by simpa using e)
    exact ⟨u, by simpa using h1, h2⟩
  | [], _ :: _, _, _, h, _ => h.elim
  | _ :: _, [], _, _, h, _ => h.elim
theorem imL.set : ∀ {vs : List V} {xs : List α} {i : Nat} {x : α} {v : V}, imL (G := G) H vs xs → Im.im G H v x → imL (G := G) H (vs.set i v) (xs.set i x)
  | [], [], _, _, _, _, _ => True.intro
  | v :: vs, x :: xs, 0, y, u, h, k => ⟨k, h.2⟩
  | v :: vs, x :: xs, i + 1, y, u, h, k => ⟨h.1, imL.set h.2 k⟩
  | [], _ :: _, _, _, _, h, _ => h.elim
  | _ :: _, [], _, _, _, h, _ => h.elim
theorem imL.take : ∀ {vs : List V} {xs : List α} (n : Nat), imL (G := G) H vs xs → imL (G := G) H (vs.take n) (xs.take n)
  | [], [], n, _ => by simp [imL]
  | v :: vs, x :: xs, 0, h => True.intro
  | v :: vs, x :: xs, n + 1, h => ⟨h.1, imL.take n h.2⟩
  | [], _ :: _, _, h => h.elim
  | _ :: _, [], _, h => h.elim
theorem imL.drop : ∀ {vs : List V} {xs : List α} (n : Nat), imL (G := G) H vs xs → imL (G := G) H (vs.drop n) (xs.drop n)
  | [], [], n, _ => by simp [imL]
  | v :: vs, x :: xs, 0, h => h
  | v :: vs, x :: xs, n + 1, h => imL.drop n h.2
  | [], _ :: _, _, h => h.elim
  | _ :: _, [], _, h => h.elim
end
section
variable {α : Type} [Fv G α] {H H' : Hp}
theorem imL.flat : ∀ {vs : List V} {xs : List α}, imL (G := G) H vs xs ↔ vs = xs.map (Fv.enc G)
  | [], [] => ⟨fun _ => rfl, fun _ => True.intro⟩
  | v :: vs, x :: xs => by
    show (Im.im G H v x ∧ imL (G := G) H vs xs) ↔ _
    rw [Fv.im_iff, imL.flat]
    simp
  | [], _ :: _ => by simp [imL]
  | _ :: _, [] => by simp [imL]
end

/-! ### lists that one owns -/
section
variable {α : Type} [Im G α]
def lstA (a : Addr) (xs : List α) : Asn G := ⟨fun H fp => fp = [a] ∧ ∃ vs, H a = some (.lst vs) ∧ imL (G := G) H vs xs,
  fun H H' fp ⟨e, vs, h, m⟩ k s => ⟨e, vs, by rw [k a (by rw [e]; simp)]; exact h, m.st s⟩⟩
/-- a value's fact -/
def imA (v : V) (x : α) : Asn G := fact (fun H => Im.im G H v x) fun H H' h s => Im.st h s
variable {H : Hp} {L : List (Asn G)}
theorem Sep.lst (h : Sep H L) {i : Nat} {a : Addr} {xs : List α} (e : L[i]? = some (lstA a xs)) : ∃ vs, H a = some (.lst vs) ∧ imL (G := G) H vs xs := by
  obtain ⟨fp, _, x⟩ := h.at e
  exact x
theorem Sep.im (h : Sep H L) {i : Nat} {v : V} {x : α} (e : L[i]? = some (imA v x)) : Im.im G H v x := h.getFact e
theorem Sep.addIm (h : Sep H L) {v : V} {x : α} (e : Im.im G H v x) : Sep H (imA v x :: L) := h.addFact e
/-- the list's own cell, and back -/
theorem Sep.openL (h : Sep H L) {i : Nat} {a : Addr} {xs : List α} (e : L[i]? = some (lstA a xs)) : ∃ vs, imL (G := G) H vs xs ∧ Sep H (L.set i (cell a (.lst vs))) := by
  obtain ⟨vs, e1, m⟩ := h.lst e
  exact ⟨vs, m, h.viewAt e fun fp ⟨q, _⟩ => ⟨q, e1⟩⟩
theorem Sep.closeL {i : Nat} {a : Addr} {vs : List V} {xs : List α} (h : Sep H L) (e : L[i]? = some (cell a (.lst vs))) (m : imL (G := G) H vs xs) : Sep H (L.set i (lstA a xs)) :=
  h.viewAt e fun fp ⟨q, r⟩ => ⟨q, vs, r, m⟩
theorem Sep.newL (h : Sep H L) {p : Addr} {vs : List V} {xs : List α} (hp : H p = none) (m : imL (G := G) H vs xs) : Sep (upd H p (.lst vs)) (lstA p xs :: L) :=
  (h.new (o := .lst vs) hp rfl).view fun fp ⟨q, r⟩ => ⟨q, vs, r, m.st (.of_same (same_new hp))⟩
theorem set_set {β : Type} {l : List β} {i : Nat} {x y : β} : (l.set i x).set i y = l.set i y := by simp
theorem get_set {β : Type} {l : List β} {i : Nat} {x y : β} (h : l[i]? = some x) : (l.set i y)[i]? = some y := by
  have : i < l.length := by
    have := List.getElem?_eq_some_iff.mp h
    exact this.1
  simp [this]
theorem Sep.putL (h : Sep H L) {i : Nat} {a : Addr} {xs ys : List α} {vs : List V} (e : L[i]? = some (lstA a xs)) (m : imL (G := G) H vs ys) : Sep (upd H a (.lst vs)) (L.set i (lstA a ys)) := by
  obtain ⟨us, mu, h1⟩ := h.openL e
  have e1 := get_set (y := cell (G := G) a (.lst us)) e
  have h2 := h1.put (o' := .lst vs) e1 rfl rfl
  rw [set_set] at h2
  have st : Stab G H (upd H a (.lst vs)) := stab_put (h1.getCell e1) rfl rfl
  have h3 := h2.closeL (get_set e) (m.st st)
  rw [set_set] at h3
  exact h3
end
end Ml

namespace Ml
open PySem L2
variable {G : Gx}
/-! ### what an expression comes to where nothing is made -/
def Ev (te : TE) (σ : St) (H : Hp) (v : V) : Prop := ∀ Q : VK, Q v H → te σ H Q
def Et (t : TT) (σ : St) (H : Hp) (b : Bool) : Prop := ∀ Q : Bool → Hp → Prop, Q b H → t σ H Q
def Ea (t : TA) (σ : St) (H : Hp) (vs : List V) : Prop := ∀ Q : List V → Hp → Prop, Q vs H → t σ H Q
def Eo (t : TO) (σ : St) (H : Hp) (o : Option Int) : Prop := ∀ Q : Option Int → Hp → Prop, Q o H → t σ H Q
section
variable {σ : St} {H : Hp} {ta tb tc te : TE} {t u : TT} {x y v : V} {i j : Int} {a b : Bool} {s z : Str} {vs : List V}
theorem ev_var {k : Nat} (h : σ[k]? = some (some v)) : Ev (tVar k) σ H v := fun _ q => ⟨v, h, q⟩
theorem ev_c : Ev (tC v) σ H v := fun _ q => q
theorem ev_op {r : R2} (ha : Ev ta σ H x) (hb : Ev tb σ H y) (hr : ∀ Q : VK, Q v H → r x y H Q) : Ev (tOp r ta tb) σ H v := fun Q q => ha _ (hb _ (hr _ q))
theorem ev_un {r : V → Hp → VK → Prop} (ha : Ev ta σ H x) (hr : ∀ Q : VK, Q v H → r x H Q) : Ev (tUn r ta) σ H v := fun Q q => ha _ (hr _ q)
theorem r_I0 {g : Int → Int → V} (Q : VK) (q : Q (g i j) H) : rI0 g (.int i) (.int j) H Q := ⟨i, j, rfl, rfl, q⟩
theorem r_I {C : Int → Int → Prop} {g : Int → Int → V} (c : C i j) (Q : VK) (q : Q (g i j) H) : rI C g (.int i) (.int j) H Q := ⟨i, j, rfl, rfl, c, q⟩
theorem ev_i0 {g : Int → Int → V} (ha : Ev ta σ H (.int i)) (hb : Ev tb σ H (.int j)) : Ev (tOp (rI0 g) ta tb) σ H (g i j) := ev_op ha hb fun Q q => r_I0 Q q
theorem ev_i {C : Int → Int → Prop} {g : Int → Int → V} (ha : Ev ta σ H (.int i)) (hb : Ev tb σ H (.int j)) (c : C i j) : Ev (tOp (rI C g) ta tb) σ H (g i j) := ev_op ha hb fun Q q => r_I c Q q
theorem ev_mul (ha : Ev ta σ H (.int i)) (hb : Ev tb σ H (.int j)) (c : CMul i j) : Ev (tOp (rI CMul fun i j => .int (i * j)) ta tb) σ H (.int (i * j)) := ev_i ha hb c
theorem ev_fdiv (ha : Ev ta σ H (.int i)) (hb : Ev tb σ H (.int j)) (c : 0 < j ∧ j < 1073741824) : Ev (tOp (rI CDiv fun i j => .int (i / j)) ta tb) σ H (.int (i / j)) := ev_i ha hb c
theorem ev_mod (ha : Ev ta σ H (.int i)) (hb : Ev tb σ H (.int j)) (c : 0 < j) : Ev (tOp (rI (fun _ j => 0 < j) fun i j => .int (i % j)) ta tb) σ H (.int (i % j)) := ev_i ha hb c
theorem ev_add (ha : Ev ta σ H (.int i)) (hb : Ev tb σ H (.int j)) : Ev (tOp (rI0 fun i j => .int (i + j)) ta tb) σ H (.int (i + j)) := ev_i0 ha hb
theorem ev_sub (ha : Ev ta σ H (.int i)) (hb : Ev tb σ H (.int j)) : Ev (tOp (rI0 fun i j => .int (i - j)) ta tb) σ H (.int (i - j)) := ev_i0 ha hb
theorem r_eqI (Q : VK) (q : Q (.bl (decide (i = j))) H) : rEq (.int i) (.int j) H Q := ⟨rfl, by
  have : decide (V.int i = V.int j) = decide (i = j) := by simp
  rw [this]; exact q⟩
theorem r_neI (Q : VK) (q : Q (.bl (!decide (i = j))) H) : rNe (.int i) (.int j) H Q := ⟨rfl, by
  have : decide (V.int i = V.int j) = decide (i = j) := by simp
  rw [this]; exact q⟩
theorem r_eqS (Q : VK) (q : Q (.bl (decide (s = z))) H) : rEq (.str s) (.str z) H Q := ⟨rfl, by
  have : decide (V.str s = V.str z) = decide (s = z) := by simp
  rw [this]; exact q⟩
theorem r_neS (Q : VK) (q : Q (.bl (!decide (s = z))) H) : rNe (.str s) (.str z) H Q := ⟨rfl, by
  have : decide (V.str s = V.str z) = decide (s = z) := by simp
  rw [this]; exact q⟩
theorem r_eqB (Q : VK) (q : Q (.bl (decide (a = b))) H) : rEq (.bl a) (.bl b) H Q := ⟨rfl, by
  have : decide (V.bl a = V.bl b) = decide (a = b) := by simp
  rw [this]; exact q⟩
theorem r_neB (Q : VK) (q : Q (.bl (!decide (a = b))) H) : rNe (.bl a) (.bl b) H Q := ⟨rfl, by
  have : decide (V.bl a = V.bl b) = decide (a = b) := by simp
  rw [this]; exact q⟩
theorem ev_eqI (ha : Ev ta σ H (.int i)) (hb : Ev tb σ H (.int j)) : Ev (tOp rEq ta tb) σ H (.bl (decide (i = j))) := ev_op ha hb fun Q q => r_eqI Q q
theorem ev_neI (ha : Ev ta σ H (.int i)) (hb : Ev tb σ H (.int j)) : Ev (tOp rNe ta tb) σ H (.bl (!decide (i = j))) := ev_op ha hb fun Q q => r_neI Q q
theorem ev_eqS (ha : Ev ta σ H (.str s)) (hb : Ev tb σ H (.str z)) : Ev (tOp rEq ta tb) σ H (.bl (decide (s = z))) := ev_op ha hb fun Q q => r_eqS Q q
theorem ev_neS (ha : Ev ta σ H (.str s)) (hb : Ev tb σ H (.str z)) : Ev (tOp rNe ta tb) σ H (.bl (!decide (s = z))) := ev_op ha hb fun Q q => r_neS Q q
theorem ev_eqB (ha : Ev ta σ H (.bl a)) (hb : Ev tb σ H (.bl b)) : Ev (tOp rEq ta tb) σ H (.bl (decide (a = b))) := ev_op ha hb fun Q q => r_eqB Q q
theorem ev_neB (ha : Ev ta σ H (.bl a)) (hb : Ev tb σ H (.bl b)) : Ev (tOp rNe ta tb) σ H (.bl (!decide (a = b))) := ev_op ha hb fun Q q => r_neB Q q
def rCatS : R2 := fun x y H Q => ∃ i j, x = .str i ∧ y = .str j ∧ i.length + j.length ≤ sizeLine ∧ Q (.str (i ++ j)) H
theorem op_catS {X : Cx} : OpR X (binaryOp .Add) rCatS := op_add_str
theorem r_catS (c : s.length + z.length ≤ sizeLine) (Q : VK) (q : Q (.str (s ++ z)) H) : rCatS (.str s) (.str z) H Q := ⟨s, z, rfl, rfl, c, q⟩
theorem ev_catS (ha : Ev ta σ H (.str s)) (hb : Ev tb σ H (.str z)) (c : s.length + z.length ≤ sizeLine) : Ev (tOp rCatS ta tb) σ H (.str (s ++ z)) := ev_op ha hb fun Q q => r_catS c Q q
/-- a sign in a written text -/
def rInSg : R2 := fun x y H Q => ∃ (c : Nat) (z : Str), x = .str ⟨#[c]⟩ ∧ y = .str z ∧ Q (.bl (decide (c ∈ z.cps.toList))) H
def rNiSg : R2 := fun x y H Q => ∃ (c : Nat) (z : Str), x = .str ⟨#[c]⟩ ∧ y = .str z ∧ Q (.bl (!decide (c ∈ z.cps.toList))) H
theorem op_inSg {X : Cx} : OpR X (compareOp .In) rInSg := op_in_sign
theorem op_niSg {X : Cx} : OpR X (compareOp .NotIn) rNiSg := op_notIn_sign
theorem ev_inSg {c : Nat} (ha : Ev ta σ H (.str ⟨#[c]⟩)) (hb : Ev tb σ H (.str z)) : Ev (tOp rInSg ta tb) σ H (.bl (decide (c ∈ z.cps.toList))) := ev_op ha hb fun Q q => ⟨c, z, rfl, rfl, q⟩
theorem ev_niSg {c : Nat} (ha : Ev ta σ H (.str ⟨#[c]⟩)) (hb : Ev tb σ H (.str z)) : Ev (tOp rNiSg ta tb) σ H (.bl (!decide (c ∈ z.cps.toList))) := ev_op ha hb fun Q q => ⟨c, z, rfl, rfl, q⟩
/-! tests -/
theorem et_test (h : Ev te σ H (.bl b)) : Et (tTest te) σ H b := fun _ q => h _ ⟨b, rfl, q⟩
theorem et_B (h : Ev te σ H (.bl b)) : Et (tB te) σ H b := fun _ q => h _ ⟨b, rfl, q⟩
theorem et_not (h : Et t σ H a) : Et (tNot t) σ H (!a) := fun _ q => h _ q
theorem et_and (h1 : Et t σ H a) (h2 : a = true → Et u σ H b) : Et (tAnd t u) σ H (a && b) := fun Q q => h1 _ (by
  cases a with
  | true => exact h2 rfl _ q
  | false => exact q)
theorem et_or (h1 : Et t σ H a) (h2 : a = false → Et u σ H b) : Et (tOr t u) σ H (a || b) := fun Q q => h1 _ (by
  cases a with
  | true => exact q
  | false => exact h2 rfl _ q)
theorem ev_andV (h1 : Ev ta σ H (.bl a)) (h2 : a = true → Ev tb σ H (.bl b)) : Ev (tAndV ta tb) σ H (.bl (a && b)) := fun Q q => h1 _ ⟨a, rfl, by
  cases a with
  | true => exact h2 rfl _ q
  | false => exact q⟩
theorem ev_orV (h1 : Ev ta σ H (.bl a)) (h2 : a = false → Ev tb σ H (.bl b)) : Ev (tOrV ta tb) σ H (.bl (a || b)) := fun Q q => h1 _ ⟨a, rfl, by
  cases a with
  | true => exact q
  | false => exact h2 rfl _ q⟩
theorem ev_notV (h1 : Ev ta σ H (.bl a)) : Ev (tNotV ta) σ H (.bl (!a)) := fun _ q => h1 _ ⟨a, rfl, q⟩
theorem ev_chainB {r r' : R2} (ha : Ev ta σ H x) (hb : Ev tb σ H y) (hc : a = true → Ev tc σ H v) (h1 : ∀ Q : VK, Q (.bl a) H → r x y H Q) (h2 : a = true → ∀ Q : VK, Q (.bl b) H → r' y v H Q) :
    Ev (tChain r r' ta tb tc) σ H (.bl (a && b)) := fun Q q => ha _ (hb _ (h1 _ ⟨a, rfl, by
  cases a with
  | true => exact hc rfl _ (h2 rfl _ q)
  | false => exact q⟩))
/-! arguments -/
theorem ea_nil : Ea tNil σ H [] := fun _ q => q
theorem ea_cons {tr : TA} (h : Ev ta σ H x) (hr : Ea tr σ H vs) : Ea (tCons ta tr) σ H (x :: vs) := fun _ q => h _ (hr _ q)
theorem eo_no : Eo tNoPart σ H none := fun _ q => q
theorem eo_some (h : Ev te σ H (.int i)) : Eo (tPart te) σ H (some i) := fun _ q => h _ ⟨i, rfl, q⟩
theorem ev_cb {r : List V → Hp → VK → Prop} {tr : TA} (h : Ea tr σ H vs) (hr : ∀ Q : VK, Q v H → r vs H Q) : Ev (tCB r tr) σ H v := fun Q q => h _ (hr _ q)
/-! lists read -/
variable {K : PySem.W.Frag} {α : Type}
theorem ev_ixSq {p : Addr} {ws : List V} (ha : Ev ta σ H (.ref p)) (hb : Ev tb σ H (.int i)) (hs : SqL K H p ws) (e : atI ws i = some v) : Ev (tOp (rIxL K) ta tb) σ H v := ev_op ha hb fun _ q => ⟨p, ws, i, v, rfl, rfl, hs, e, q⟩
theorem ev_ixS {c : Nat} (ha : Ev ta σ H (.str z)) (hb : Ev tb σ H (.int i)) (hl : z.length ≤ sizeLine) (e : atI z.cps.toList i = some c) : Ev (tOp rIxS ta tb) σ H (.str ⟨#[c]⟩) := ev_op ha hb fun _ q => ⟨z, i, c, rfl, rfl, hl, e, q⟩
theorem ev_slS {tl th : TO} {l h : Option Int} (ha : Ev ta σ H (.str z)) (h1 : Eo tl σ H l) (h2 : Eo th σ H h) (hl : z.length ≤ sizeLine) : Ev (tSl rSlS ta tl th) σ H (.str (cutS z l h)) := fun _ q => ha _ (h1 _ (h2 _ ⟨z, rfl, hl, q⟩))
def rLenSq (K : PySem.W.Frag) : List V → Hp → VK → Prop := fun xs H Q => ∃ p ys, xs = [.ref p] ∧ (SqL K H p ys ∨ SqT K H p ys) ∧ Q (.int ys.length) H
theorem call_lenSq {X : Cx} : CallR X (.builtin "len") (rLenSq X.K) := call_len_seq
def rLenS : List V → Hp → VK → Prop := fun xs H Q => ∃ z, xs = [.str z] ∧ z.length ≤ sizeLine ∧ Q (.int z.length) H
theorem call_lenS {X : Cx} : CallR X (.builtin "len") rLenS := call_len_str
theorem ev_lenL {p : Addr} {ws : List V} (ha : Ev ta σ H (.ref p)) (hs : SqL K H p ws) : Ev (tCB (rLenSq K) (tCons ta tNil)) σ H (.int ws.length) := ev_cb (ea_cons ha ea_nil) fun _ q => ⟨p, ws, rfl, .inl hs, q⟩
theorem ev_lenS (ha : Ev ta σ H (.str z)) (hl : z.length ≤ sizeLine) : Ev (tCB rLenS (tCons ta tNil)) σ H (.int z.length) := ev_cb (ea_cons ha ea_nil) fun _ q => ⟨z, rfl, hl, q⟩
end
/-! ### statements -/
section
variable {σ σ' : St} {H : Hp} {te : TE} {t : TT} {D : Ends} {t1 t2 tb : TS} {v : V} {b : Bool}
theorem st_seq (h : t1 { D with nx := t2 D } σ H) : tSeq t1 t2 D σ H := h
theorem st_set {i : Nat} (h : Ev te σ H v) (e : σ.set i (some v) = σ') (k : D.nx σ' H) : tAsg te (gName i) D σ H := h _ (by subst e; exact k)
theorem st_ret (h : Ev te σ H v) (k : D.rt v H) : tRet te D σ H := h _ k
theorem st_drop (h : Ev te σ H v) (k : D.nx σ H) : tDrop te D σ H := h _ k
theorem st_if (h : Et t σ H b) (h1 : b = true → t1 D σ H) (h2 : b = false → t2 D σ H) : tIfS t t1 t2 D σ H := h _ (by
  cases b with
  | true => exact h1 rfl
  | false => exact h2 rfl)
theorem ev_to (h : Ev te σ H v) {Q : VK} (q : Q v H) : te σ H Q := h Q q
theorem ea_to {t : TA} {vs : List V} (h : Ea t σ H vs) {Q : List V → Hp → Prop} (q : Q vs H) : t σ H Q := h Q q
theorem eo_to {t : TO} {o : Option Int} (h : Eo t σ H o) {Q : Option Int → Hp → Prop} (q : Q o H) : t σ H Q := h Q q
theorem et_to (h : Et t σ H b) {Q : Bool → Hp → Prop} (q : Q b H) : t σ H Q := h Q q
end

/-! ### loops -/
section
variable {α β τ ρ : Type} {H : Hp} {σ : St} {D : Ends} {tb : TS} {g : TG} {K : PySem.W.Frag}
/-- a walk J over the items xs: at turn i it yields a v of which the i-th item holds -/
structure Wk (J : It) (I : St → Hp → Prop) (im : Hp → V → α → Prop) (xs : List α) : Prop where
  go : ∀ i σ H, I σ H → i < xs.length → J.go i H
  yl : ∀ i σ H v H' x, I σ H → xs[i]? = some x → J.yld i H v H' → I σ H' ∧ im H' v x
  sp : ∀ σ H, I σ H → J.stop xs.length H
/-- for .. in ..: the state s : τ, I s its place in slots and heap; each turn reckons f -/
theorem for_walk {J : It} {I : τ → St → Hp → Prop} {im : Hp → V → α → Prop} {xs : List α} {f : τ → α → R τ} {k : τ → Prop} {e : Exc → Prop} {s : τ}
    (w : ∀ s, Wk J (I s) im xs) (h0 : I s σ H) (hm : R.wp (forR f xs s) k e)
    (turn : ∀ (s : τ) (x : α) (v : V) (σ : St) (H : Hp) (q : τ → Prop) (N : St → Hp → Prop), I s σ H → im H v x → R.wp (f s x) q e → (∀ s' σ' H', q s' → I s' σ' H' → N σ' H') → g v σ H fun σ2 H2 => tb { D with nx := N, ct := N, bk := D.nx } σ2 H2)
    (done : ∀ s σ H, k s → I s σ H → D.nx σ H) :
    ∃ W : Nat → Nat → St → Hp → Prop, (∃ m, W 0 m σ H) ∧ ∀ i m σ H, W i m σ H →
      (J.stop i H ∧ D.nx σ H) ∨ (J.go i H ∧ ∃ N : St → Hp → Prop, (∀ σ' H', N σ' H' → ∃ m', m' < m ∧ W (i + 1) m' σ' H') ∧ ∀ x H', J.yld i H x H' → g x σ H' fun σ2 H2 => tb { D with nx := N, ct := N, bk := D.nx } σ2 H2) := by
  refine ⟨fun i m σ H => m = xs.length - i ∧ i ≤ xs.length ∧ ∃ s, I s σ H ∧ R.wp (forR f (xs.drop i) s) k e, ⟨xs.length, by simp, Nat.zero_le _, s, h0, by simpa using hm⟩, ?_⟩
  rintro i m σ H ⟨rfl, hi, s, hI, hw⟩
  by_cases c : i < xs.length
  · have ed : xs.drop i = xs[i] :: xs.drop (i + 1) := List.drop_eq_getElem_cons c
    rw [ed] at hw
    refine .inr ⟨(w s).go i σ H hI c, fun σ' H' => ∃ s', I s' σ' H' ∧ R.wp (forR f (xs.drop (i + 1)) s') k e, fun σ' H' ⟨s', h1, h2⟩ => ⟨xs.length - (i + 1), by omega, rfl, c, s', h1, h2⟩, fun v H' y => ?_⟩
    obtain ⟨hI', hv⟩ := (w s).yl i σ H v H' xs[i] hI (List.getElem?_eq_getElem c) y
    exact turn s xs[i] v σ H' _ _ hI' hv (R.wp_bind hw) fun s' σ' H'' q hI'' => ⟨s', hI'', q⟩
  · have ei : i = xs.length := by omega
    subst ei
    rw [List.drop_length] at hw
    exact .inl ⟨(w s).sp σ H hI, done s σ H hw hI⟩
/-- .. whose turns may leave it -/
theorem for_walkF {J : It} {I : τ → St → Hp → Prop} {im : Hp → V → α → Prop} {xs : List α} {f : τ → α → R (Fl τ ρ)} {k : Fl τ ρ → Prop} {e : Exc → Prop} {s : τ}
    (w : ∀ s, Wk J (I s) im xs) (h0 : I s σ H) (hm : R.wp (forF f xs s) k e)
    (turn : ∀ (s : τ) (x : α) (v : V) (σ : St) (H : Hp) (q : Fl τ ρ → Prop) (N B : St → Hp → Prop), I s σ H → im H v x → R.wp (f s x) q e → (∀ s' σ' H', q (.go s') → I s' σ' H' → N σ' H') → (∀ s' σ' H', q (.brk s') → I s' σ' H' → B σ' H') → (∀ r, q (.out r) → k (.out r)) →
      g v σ H fun σ2 H2 => tb { D with nx := N, ct := N, bk := B } σ2 H2)
    (done : ∀ s σ H, k (.go s) → I s σ H → D.nx σ H) :
    ∃ W : Nat → Nat → St → Hp → Prop, (∃ m, W 0 m σ H) ∧ ∀ i m σ H, W i m σ H →
      (J.stop i H ∧ D.nx σ H) ∨ (J.go i H ∧ ∃ N : St → Hp → Prop, (∀ σ' H', N σ' H' → ∃ m', m' < m ∧ W (i + 1) m' σ' H') ∧ ∀ x H', J.yld i H x H' → g x σ H' fun σ2 H2 => tb { D with nx := N, ct := N, bk := D.nx } σ2 H2) := by
  refine ⟨fun i m σ H => m = xs.length - i ∧ i ≤ xs.length ∧ ∃ s, I s σ H ∧ R.wp (forF f (xs.drop i) s) k e, ⟨xs.length, by simp, Nat.zero_le _, s, h0, by simpa using hm⟩, ?_⟩
  rintro i m σ H ⟨rfl, hi, s, hI, hw⟩
  by_cases c : i < xs.length
  · have ed : xs.drop i = xs[i] :: xs.drop (i + 1) := List.drop_eq_getElem_cons c
    rw [ed] at hw
    refine .inr ⟨(w s).go i σ H hI c, fun σ' H' => ∃ s', I s' σ' H' ∧ R.wp (forF f (xs.drop (i + 1)) s') k e, fun σ' H' ⟨s', h1, h2⟩ => ⟨xs.length - (i + 1), by omega, rfl, c, s', h1, h2⟩, fun v H' y => ?_⟩
    obtain ⟨hI', hv⟩ := (w s).yl i σ H v H' xs[i] hI (List.getElem?_eq_getElem c) y
    have hw' := R.wp_bind hw
    exact turn s xs[i] v σ H' _ _ _ hI' hv hw' (fun s' σ' H'' q hI'' => ⟨s', hI'', q⟩) (fun s' σ' H'' q hI'' => done s' σ' H'' q hI'') fun r q => q
  · have ei : i = xs.length := by omega
    subst ei
    rw [List.drop_length] at hw
    exact .inl ⟨(w s).sp σ H hI, done s σ H hw hI⟩
/-- a comprehension -/
theorem lc_walk {J : It} {I : Addr → τ → List β → Hp → Prop} {im : Hp → V → α → Prop} [Im G β] {xs : List α} {f : τ → α → R (τ × Option β)} {k : τ × List β → Prop} {e : Exc → Prop} {s : τ} {tt : TT} {te : TE} {vs : List Nat} {Q : VK} {Dr : Addr}
    (w : ∀ s ys, Wk J (fun _ H => I Dr s ys H) im xs) (h0 : I Dr s [] (upd H Dr (.lst []))) (hm : R.wp (compR f xs s) k e) (hl : xs.length ≤ sizeLine)
    (turn : ∀ (s : τ) (ys : List β) (x : α) (v : V) (H : Hp) (q : τ × Option β → Prop) (Nx : Hp → Prop), I Dr s ys H → im H v x → R.wp (f s x) q e → ys.length < sizeLine →
      (∀ s' y u H', q (s', some y) → Im.im G H' u y → I Dr s' ys H' → ∃ acc, H' Dr = some (.lst acc) ∧ acc.length < sizeLine ∧ Nx (upd H' Dr (.lst (acc ++ [u])))) → (∀ s' H', q (s', none) → I Dr s' ys H' → Nx H') →
      g v (wipe σ vs) H fun σ2 H2 => wipe σ2 vs = wipe σ vs ∧ tt σ2 H2 fun b H3 => if b = true then te σ2 H3 fun y H4 => ∃ acc, H4 Dr = some (.lst acc) ∧ acc.length < sizeLine ∧ Nx (upd H4 Dr (.lst (acc ++ [y]))) else Nx H3)
    (app : ∀ s ys y u H, I Dr s ys H → Im.im G H u y → ∃ acc, H Dr = some (.lst acc) ∧ acc.length = ys.length ∧ I Dr s (ys ++ [y]) (upd H Dr (.lst (acc ++ [u]))))
    (done : ∀ s ys H, k (s, ys) → I Dr s ys H → Q (.ref Dr) H) :
    ∃ W : Nat → Nat → Hp → Prop, (∃ m, W 0 m (upd H Dr (.lst []))) ∧ ∀ i m H, W i m H →
      (J.stop i H ∧ Q (.ref Dr) H) ∨ (J.go i H ∧ ∃ Nx : Hp → Prop, (∀ H', Nx H' → ∃ m', m' < m ∧ W (i + 1) m' H') ∧ ∀ x H', J.yld i H x H' → g x (wipe σ vs) H' fun σ2 H2 => wipe σ2 vs = wipe σ vs ∧ tt σ2 H2 fun b H3 =>
        if b = true then te σ2 H3 fun y H4 => ∃ acc, H4 Dr = some (.lst acc) ∧ acc.length < sizeLine ∧ Nx (upd H4 Dr (.lst (acc ++ [y]))) else Nx H3) := by
  refine ⟨fun i m H => m = xs.length - i ∧ i ≤ xs.length ∧ ∃ s ys, ys.length ≤ i ∧ I Dr s ys H ∧ R.wp (compR f (xs.drop i) s) (fun t => k (t.1, ys ++ t.2)) e, ⟨xs.length, by simp, Nat.zero_le _, s, [], Nat.le_refl _, h0, by simpa using hm⟩, ?_⟩
  rintro i m H ⟨rfl, hi, s, ys, hy, hI, hw⟩
  by_cases c : i < xs.length
  · have ed : xs.drop i = xs[i] :: xs.drop (i + 1) := List.drop_eq_getElem_cons c
    rw [ed] at hw
    refine .inr ⟨(w s ys).go i [] H hI c, fun H' => ∃ s' ys', ys'.length ≤ i + 1 ∧ I Dr s' ys' H' ∧ R.wp (compR f (xs.drop (i + 1)) s') (fun t => k (t.1, ys' ++ t.2)) e,
      fun H' ⟨s', ys', h0, h1, h2⟩ => ⟨xs.length - (i + 1), by omega, rfl, c, s', ys', h0, h1, h2⟩, fun v H' y => ?_⟩
    obtain ⟨hI', hv⟩ := (w s ys).yl i [] H v H' xs[i] hI (List.getElem?_eq_getElem c) y
    have hw' := R.wp_bind hw
    refine turn s ys xs[i] v H' _ _ hI' hv hw' (by omega) (fun s' y u H'' q hu hI'' => ?_) (fun s' H'' q hI'' => ?_)
    · have q' := R.wp_bind q
      obtain ⟨acc, ea, la, hI3⟩ := app s' ys y u H'' hI'' hu
      refine ⟨acc, ea, by omega, s', ys ++ [y], by simp; omega, hI3, ?_⟩
      refine R.wp_mono q' (fun t ht => ?_) fun _ z => z
      have ht' : k (t.1, ys ++ y :: t.2) := ht
      rw [List.append_assoc]; exact ht'
    · have q' := R.wp_bind q
      exact ⟨s', ys, by omega, hI'', R.wp_mono q' (fun t ht => ht) fun _ z => z⟩
  · have ei : i = xs.length := by omega
    subst ei
    rw [List.drop_length] at hw
    have hw : k (s, ys ++ []) := hw
    rw [List.append_nil] at hw
    exact .inl ⟨(w s ys).sp [] H hI, done s ys H hw hI⟩
end
end Ml

namespace Ml
open PySem L2
variable {G : Gx}
/-! ### items by place, in plain Lean -/
def idxR {α : Type} (xs : List α) (i : Int) : R α := match atI xs i with
  | some x => .ok x
  | none => .bad
theorem wp_idx {α ρ : Type} {xs : List α} {i : Int} {f : α → R ρ} {q : ρ → Prop} {e : Exc → Prop} (h : R.wp ((idxR xs i).bind f) q e) : ∃ x, atI xs i = some x ∧ R.wp (f x) q e := by
  unfold idxR at h
  cases c : atI xs i with
  | some x => rw [c] at h; exact ⟨x, rfl, h⟩
  | none => rw [c] at h; exact h.elim
theorem atI_map {α β : Type} {xs : List α} {f : α → β} {i : Int} {x : α} (h : atI xs i = some x) : atI (xs.map f) i = some (f x) := by
  unfold atI at h ⊢
  rw [List.length_map]
  cases e : ixN xs.length i with
  | none => rw [e] at h; cases h
  | some j =>
    rw [e] at h
    show (xs.map f)[j]? = some (f x)
    have h : xs[j]? = some x := h
    rw [List.getElem?_map, h]; rfl
theorem atI_im {α : Type} [Im G α] {H : Hp} {vs : List V} {xs : List α} {i : Int} {x : α} (m : imL (G := G) H vs xs) (h : atI xs i = some x) : ∃ v, atI vs i = some v ∧ Im.im G H v x := by
  unfold atI at h ⊢
  rw [m.len]
  cases e : ixN xs.length i with
  | none => rw [e] at h; cases h
  | some j =>
    rw [e] at h
    exact m.get h
theorem atI_ok {α : Type} {xs : List α} {i : Int} (h0 : 0 ≤ i) (h1 : i < xs.length) : ∃ x, xs[i.toNat]? = some x ∧ atI xs i = some x := by
  have hj : i.toNat < xs.length := by omega
  refine ⟨xs[i.toNat], List.getElem?_eq_getElem hj, ?_⟩
  unfold atI ixN
  rw [if_pos h0, if_pos h1]
  exact List.getElem?_eq_getElem hj
theorem idxR_ok {α : Type} {xs : List α} {i : Int} {x : α} (h0 : 0 ≤ i) (h1 : xs[i.toNat]? = some x) : idxR xs i = .ok x := by
  have hl : i.toNat < xs.length := (List.getElem?_eq_some_iff.mp h1).1
  obtain ⟨y, hy, h⟩ := atI_ok (xs := xs) h0 (by omega)
  rw [h1] at hy; cases hy
  unfold idxR; rw [h]
/-- one sign as a text -/
abbrev sg (c : Nat) : Str := ⟨#[c]⟩
def mulOk (i j : Int) : Prop := (-(2 ^ 64) < i ∧ i < 2 ^ 64) ∨ (-(2 ^ 64) < j ∧ j < 2 ^ 64)
instance (i j : Int) : Decidable (mulOk i j) := by unfold mulOk; infer_instance
theorem mulOk_c {i j : Int} (h : mulOk i j) : CMul i j := h
def rngL (lo : Int) (n : Nat) : List Int := (List.range n).map fun (i : Nat) => lo + (i : Int)
theorem rngL_len (lo : Int) (n : Nat) : (rngL lo n).length = n := by simp [rngL]
theorem rngL_get {lo : Int} {n i : Nat} {x : Int} (h : (rngL lo n)[i]? = some x) : x = lo + (i : Int) ∧ i < n := by
  have hl : i < (rngL lo n).length := (List.getElem?_eq_some_iff.mp h).1
  rw [rngL_len] at hl
  unfold rngL at h
  rw [List.getElem?_map, List.getElem?_range hl] at h
  exact ⟨(Option.some.inj h).symm, hl⟩
/-! ### what is walked -/
section
variable {α τ : Type} {I : St → Hp → Prop} {K : PySem.W.Frag} {a : Addr}
theorem wk_list [Im G α] {xs : List α} (h : ∀ σ H, I σ H → ∃ vs, SqL K H a vs ∧ imL (G := G) H vs xs) : Wk (Itl K a) I (Im.im G) xs where
  go := fun i σ H hI hi => by
    obtain ⟨vs, s, m⟩ := h σ H hI
    have hl : i < vs.length := by rw [m.len]; exact hi
    exact ⟨vs, vs[i], s, List.getElem?_eq_getElem hl⟩
  yl := fun i σ H v H' x hI hx y => by
    obtain ⟨vs, s, m⟩ := h σ H hI
    obtain ⟨rfl, y⟩ := y
    obtain ⟨u, hu, im⟩ := m.get hx
    have e := y vs s
    rw [hu] at e; cases e
    exact ⟨hI, im⟩
  sp := fun σ H hI => by
    obtain ⟨vs, s, m⟩ := h σ H hI
    exact ⟨vs, s, by rw [m.len]; exact Nat.le_refl _⟩
theorem wk_range {lo : Int} {n : Nat} : Wk (Itr lo n) I (fun _ v (x : Int) => v = .int x) (rngL lo n) where
  go := fun i σ H _ hi => by rw [rngL_len] at hi; exact hi
  yl := fun i σ H v H' x hI hx y => by
    obtain ⟨rfl, y⟩ := y
    obtain ⟨e, _⟩ := rngL_get hx
    exact ⟨hI, by rw [y, e]⟩
  sp := fun σ H _ => by rw [rngL_len]; exact Nat.le_refl _
theorem wk_str {z : Str} : Wk (Its z) I (fun _ v (c : Nat) => v = .str (sg c)) z.cps.toList where
  go := fun i σ H _ hi => by show i < z.cps.size; simpa using hi
  yl := fun i σ H v H' x hI hx y => by
    obtain ⟨rfl, c, hc, y⟩ := y
    have : z.cps[i]? = some x := by simpa using hx
    rw [hc] at this; cases this
    exact ⟨hI, y⟩
  sp := fun σ H _ => by show z.cps.size ≤ _; simp
end
theorem Sep.sq {α : Type} [Im G α] {H : Hp} {L : List (Asn G)} (h : Sep H L) {i : Nat} {a : Addr} {xs : List α} (e : L[i]? = some (lstA a xs)) : ∃ vs, SqL G.K H a vs ∧ imL (G := G) H vs xs := by
  obtain ⟨vs, e, m⟩ := h.lst e
  exact ⟨vs, .inl (.inl e), m⟩
theorem Sep.sqF {α : Type} [Fv G α] {H : Hp} {L : List (Asn G)} (h : Sep H L) {i : Nat} {a : Addr} {xs : List α} (e : L[i]? = some (lstA a xs)) : SqL G.K H a (xs.map (Fv.enc G)) := by
  obtain ⟨vs, e, m⟩ := h.sq e
  rw [imL.flat.mp m] at e
  exact e
/-! ### making, changing: each step leaves the next heap by its assertions alone -/
section
variable {σ σ' : St} {H : Hp} {L L' : List (Asn G)} {D : Ends} {Q : VK} {te ta tb : TE} {α β : Type}
theorem c_op {r : R2} (h : ta σ H fun x H1 => tb σ H1 fun y H2 => r x y H2 Q) : tOp r ta tb σ H Q := h
theorem c_cons {tr : TA} {P : List V → Hp → Prop} (h : ta σ H fun x H1 => tr σ H1 fun xs H2 => P (x :: xs) H2) : tCons ta tr σ H P := h
theorem c_nil {P : List V → Hp → Prop} (h : P [] H) : tNil σ H P := h
theorem c_call {sp : Sp} {dvs : List V} {E : XK} {t : TA} (h : t σ H fun vs H1 => sp (vs ++ dvs) H1 Q E) : tCall sp dvs E t σ H Q := h
theorem c_cb {r : List V → Hp → VK → Prop} {t : TA} (h : t σ H fun vs H1 => r vs H1 Q) : tCB r t σ H Q := h
theorem c_asg {i : Nat} (h : te σ H fun v H1 => D.nx (σ.set i (some v)) H1) : tAsg te (gName i) D σ H := h
theorem c_ret (h : te σ H D.rt) : tRet te D σ H := h
theorem c_drop (h : te σ H fun _ H1 => D.nx σ H1) : tDrop te D σ H := h
theorem c_set {i : Nat} {v : V} (e : σ.set i (some v) = σ') (h : D.nx σ' H) : D.nx (σ.set i (some v)) H := by rw [e]; exact h
theorem c_if {t : TT} {t1 t2 : TS} (h : t σ H fun b H1 => if b = true then t1 D σ H1 else t2 D σ H1) : tIfS t t1 t2 D σ H := h
theorem c_test {P : Bool → Hp → Prop} (h : te σ H fun x H1 => ∃ k, x = .bl k ∧ P k H1) : tTest te σ H P := h
theorem c_B {P : Bool → Hp → Prop} (h : te σ H fun x H1 => ∃ k, x = .bl k ∧ P k H1) : tB te σ H P := h
theorem c_bool {b : Bool} {P : Bool → Hp → Prop} (h : P b H) : ∃ k, V.bl b = .bl k ∧ P k H := ⟨b, rfl, h⟩
theorem c_ite {b : Bool} {A B : Prop} (h1 : b = true → A) (h2 : b = false → B) : if b = true then A else B := by
  cases b with
  | true => exact h1 rfl
  | false => exact h2 rfl
theorem c_not {t : TT} {P : Bool → Hp → Prop} (h : t σ H fun c H1 => P (!c) H1) : tNot t σ H P := h
theorem c_and {t u : TT} {P : Bool → Hp → Prop} (h : t σ H fun c H1 => if c = true then u σ H1 P else P false H1) : tAnd t u σ H P := h
theorem c_or {t u : TT} {P : Bool → Hp → Prop} (h : t σ H fun c H1 => if c = true then P true H1 else u σ H1 P) : tOr t u σ H P := h
theorem c_andV (h : ta σ H fun x H1 => ∃ c, x = .bl c ∧ if c = true then tb σ H1 Q else Q (.bl false) H1) : tAndV ta tb σ H Q := h
theorem c_orV (h : ta σ H fun x H1 => ∃ c, x = .bl c ∧ if c = true then Q (.bl true) H1 else tb σ H1 Q) : tOrV ta tb σ H Q := h
theorem c_notV (h : ta σ H fun x H1 => ∃ c, x = .bl c ∧ Q (.bl (!c)) H1) : tNotV ta σ H Q := h
theorem c_ifE {t : TT} (h : t σ H fun c H1 => if c = true then ta σ H1 Q else tb σ H1 Q) : tIf t ta tb σ H Q := h
theorem c_b1 {c : Bool} {A : Bool → Prop} (h : A c) : ∃ k, V.bl c = .bl k ∧ A k := ⟨c, rfl, h⟩
/-- a new list of written items -/
def lstK (Q : VK) : List V → Hp → Prop := fun xs H1 => xs.length ≤ sizeLine ∧ ∀ p, H1 p = none → Q (.ref p) (upd H1 p (.lst xs))
def tupK (Q : VK) : List V → Hp → Prop := fun xs H1 => xs.length ≤ sizeLine ∧ ∀ p, H1 p = none → Q (.ref p) (upd H1 p (.tup xs))
theorem k_lst [Im G α] {vs : List V} {xs : List α} (hS : Sep H L) (m : imL (G := G) H vs xs) (z : vs.length ≤ sizeLine) (k : ∀ p H', Sep H' (lstA p xs :: L) → Q (.ref p) H') :
    lstK Q vs H := ⟨z, fun p hp => k p _ (hS.newL hp m)⟩
theorem c_lst {t : TA} (h : t σ H (lstK Q)) : tLst t σ H Q := h
theorem c_tup {t : TA} (h : t σ H (tupK Q)) : tTup t σ H Q := h
theorem c_bm {K : PySem.W.Frag} {T : String} {r : V → List V → Hp → VK → Prop} {to : TE} {t : TA} (h : to σ H fun x H1 => tyV K T x H1 ∧ t σ H1 fun xs H2 => r x xs H2 Q) : tBM K T r to t σ H Q := h
theorem c_bm0 {K : PySem.W.Frag} {T : String} {r : V → List V → Hp → VK → Prop} {to : TE} (h : to σ H fun x H1 => tyV K T x H1 ∧ r x [] H1 Q) : tBM0 K T r to σ H Q := h
theorem tyL [Im G α] {i : Nat} {a : Addr} {xs : List α} (hS : Sep H L) (e : L[i]? = some (lstA a xs)) : tyV G.K "list" (.ref a) H := by
  obtain ⟨vs, h, _⟩ := hS.sq e
  exact .inl ⟨rfl, vs, h⟩
theorem k_append [Im G α] {i : Nat} {a : Addr} {xs : List α} {x : α} {v : V} (hS : Sep H L) (e : L[i]? = some (lstA a xs)) (hv : Im.im G H v x) (z : xs.length < sizeLine) (e2 : L.set i (lstA a (xs ++ [x])) = L')
    (k : ∀ H', Sep H' L' → Q .non H') : rAppend (.ref a) [v] H Q := by
  obtain ⟨vs, h, m⟩ := hS.lst e
  refine ⟨a, vs, v, rfl, rfl, h, by rw [m.len]; exact z, k _ ?_⟩
  subst e2
  exact hS.putL e (m.app (vs := vs) (ws := [v]) ⟨hv, True.intro⟩)
theorem k_clear [Im G α] {i : Nat} {a : Addr} {xs : List α} (hS : Sep H L) (e : L[i]? = some (lstA a xs)) (e2 : L.set i (lstA a ([] : List α)) = L')
    (k : ∀ H', Sep H' L' → Q .non H') : rClear (.ref a) [] H Q := by
  obtain ⟨vs, h, m⟩ := hS.lst e
  refine ⟨a, vs, rfl, rfl, h, k _ ?_⟩
  subst e2
  exact hS.putL (vs := []) (ys := ([] : List α)) e True.intro
theorem k_cat [Im G α] {i j : Nat} {a b : Addr} {xs ys : List α} (hS : Sep H L) (e1 : L[i]? = some (lstA a xs)) (e2 : L[j]? = some (lstA b ys)) (z : xs.length + ys.length ≤ sizeLine)
    (k : ∀ p H', Sep H' (lstA p (xs ++ ys) :: L) → Q (.ref p) H') : rCat (.ref a) (.ref b) H Q := by
  obtain ⟨vs, h, m⟩ := hS.lst e1
  obtain ⟨ws, h', m'⟩ := hS.lst e2
  exact ⟨a, b, vs, ws, rfl, rfl, h, h', by rw [m.len, m'.len]; exact z, fun p hp => k p _ (hS.newL hp (m.app m'))⟩
/-- xs[i] = v -/
theorem k_setL [Im G α] {n : Nat} {a : Addr} {xs : List α} {x : α} {v : V} {i : Int} {P : Hp → Prop} (hS : Sep H L) (e : L[n]? = some (lstA a xs)) (hv : Im.im G H v x) (j : Nat) (hj : ixN xs.length i = some j) (e2 : L.set n (lstA a (xs.set j x)) = L')
    (k : ∀ H', Sep H' L' → P H') : rSetL (.ref a) (.int i) v H P := by
  obtain ⟨vs, h, m⟩ := hS.lst e
  refine ⟨a, vs, i, j, rfl, rfl, h, by rw [m.len]; exact hj, k _ ?_⟩
  subst e2
  exact hS.putL e (m.set hv)
def cutL (xs : List α) (lo hi : Option Int) : List α := (xs.drop (HT.sIx xs.length 0 lo)).take (HT.sIx xs.length xs.length hi - HT.sIx xs.length 0 lo)
theorem cutL_im [Im G α] {vs : List V} {xs : List α} {lo hi : Option Int} (m : imL (G := G) H vs xs) : imL (G := G) H (cutV vs lo hi) (cutL xs lo hi) := by
  unfold cutV cutL
  rw [m.len]
  exact (m.drop _).take _
theorem k_slL [Im G α] {n : Nat} {a : Addr} {xs : List α} {lo hi : Option Int} (hS : Sep H L) (e : L[n]? = some (lstA a xs))
    (k : ∀ p H', Sep H' (lstA p (cutL xs lo hi) :: L) → Q (.ref p) H') : rSlL G.K (.ref a) lo hi H Q := by
  obtain ⟨vs, h, m⟩ := hS.sq e
  exact ⟨a, vs, rfl, h, fun p hp => k p _ (hS.newL hp (cutL_im m))⟩
theorem c_sl {r : V → Option Int → Option Int → Hp → VK → Prop} {tl th : TO} (h : te σ H fun x H1 => tl σ H1 fun l H2 => th σ H2 fun u H3 => r x l u H3 Q) : tSl r te tl th σ H Q := h
def rListSq (K : PySem.W.Frag) : List V → Hp → VK → Prop := fun xs H Q => ∃ p ys, xs = [.ref p] ∧ (SqL K H p ys ∨ SqT K H p ys) ∧ ∀ l, H l = none → Q (.ref l) (upd H l (.lst ys))
theorem call_listSq {X : Cx} : CallR X (.type "list") (rListSq X.K) := call_list_of
theorem k_list [Im G α] {n : Nat} {a : Addr} {xs : List α} (hS : Sep H L) (e : L[n]? = some (lstA a xs)) (k : ∀ p H', Sep H' (lstA p xs :: L) → Q (.ref p) H') : rListSq G.K [.ref a] H Q := by
  obtain ⟨vs, h, m⟩ := hS.sq e
  exact ⟨a, vs, rfl, .inl h, fun p hp => k p _ (hS.newL hp m)⟩
/-- sep.join(xs) -/
def rJoin (K : PySem.W.Frag) : V → List V → Hp → VK → Prop := fun x xs H Q => ∃ a p, ∃ ys : List Str, x = .str a ∧ xs = [.ref p] ∧ (SqL K H p (ys.map V.str) ∨ SqT K H p (ys.map V.str)) ∧ (ys.map (·.length)).sum + ys.length * a.length ≤ 16777216 ∧ Q (.str (Txt.join a ys)) H
theorem k_join {n : Nat} {p : Addr} {a : Str} {ys : List Str} (hS : Sep H L) (e : L[n]? = some (lstA p ys)) (z : (ys.map (·.length)).sum + ys.length * a.length ≤ 16777216) (k : Q (.str (Txt.join a ys)) H) : rJoin G.K (.str a) [.ref p] H Q :=
  ⟨a, p, ys, rfl, rfl, .inl (hS.sqF e), z, k⟩
theorem c_m1 {r : V → List V → Hp → VK → Prop} {to : TE} {a : Str} (h1 : Ev to σ H (.str a)) (h : te σ H fun y H2 => r (.str a) [y] H2 Q) : tM1 r to te σ H Q := h1 _ ⟨⟨a, rfl⟩, h⟩
theorem c_m0 {r : V → List V → Hp → VK → Prop} {to : TE} {a : Str} (h1 : Ev to σ H (.str a)) (h : r (.str a) [] H Q) : tM0 r to σ H Q := h1 _ ⟨⟨a, rfl⟩, h⟩
end
end Ml

namespace Ml
open PySem L2
variable {G : Gx}
/-! ### dicts -/
section
variable {κ β : Type} [DecidableEq κ]
def dget (kvs : List (κ × β)) (k : κ) : Option β := (kvs.find? fun kv => decide (kv.1 = k)).map (·.2)
def dput (kvs : List (κ × β)) (k : κ) (v : β) : List (κ × β) :=
  if (kvs.any fun kv => decide (kv.1 = k)) = true then kvs.map (fun kv => if kv.1 = k then (kv.1, v) else kv) else kvs ++ [(k, v)]
def ddrop (kvs : List (κ × β)) (k : κ) : List (κ × β) := kvs.filter fun kv => decide (kv.1 ≠ k)
def dhas (kvs : List (κ × β)) (k : κ) : Bool := (dget kvs k).isSome
end
class Kx (κ : Type) where
  key : κ → Key
  inj : ∀ {a b : κ}, key a = key b → a = b
instance : Kx Int := ⟨Sum.inl, fun h => Sum.inl.inj h⟩
instance : Kx Str := ⟨Sum.inr, fun h => Sum.inr.inj h⟩
section
variable {κ β : Type} [DecidableEq κ] [Kx κ] [Im G β]
def imD (H : Hp) : List (Key × V) → List (κ × β) → Prop
  | [], [] => True
  | p :: ps, q :: qs => (p.1 = Kx.key q.1 ∧ Im.im G H p.2 q.2) ∧ imD H ps qs
  | _, _ => False
variable {H H' : Hp}
theorem imD.st : ∀ {ps : List (Key × V)} {qs : List (κ × β)}, imD (G := G) H ps qs → Stab G H H' → imD (G := G) H' ps qs
  | [], [], _, _ => True.intro
  | p :: ps, q :: qs, h, s => ⟨⟨h.1.1, Im.st h.1.2 s⟩, imD.st h.2 s⟩
  | [], _ :: _, h, _ => h
  | _ :: _, [], h, _ => h
theorem imD.len : ∀ {ps : List (Key × V)} {qs : List (κ × β)}, imD (G := G) H ps qs → ps.length = qs.length
  | [], [], _ => rfl
  | p :: ps, q :: qs, h => by rw [List.length_cons, List.length_cons, imD.len h.2]
  | [], _ :: _, h => h.elim
  | _ :: _, [], h => h.elim
theorem key_dec (a b : κ) : decide (Kx.key a = Kx.key b) = decide (a = b) := by
  by_cases h : a = b
  · subst h; simp
  · have : ¬ Kx.key a = Kx.key b := fun e => h (Kx.inj e)
    simp [h, this]
theorem imD.val : ∀ {ps : List (Key × V)} {qs : List (κ × β)} (k : κ), imD (G := G) H ps qs → (∀ y, dget qs k = some y → ∃ v, valV ps (Kx.key k) = some v ∧ Im.im G H v y) ∧ (dget qs k = none → valV ps (Kx.key k) = none)
  | [], [], _, _ => ⟨fun y e => (by cases (show (none : Option β) = some y from e)), fun _ => rfl⟩
  | p :: ps, q :: qs, k, ⟨⟨e1, e2⟩, h⟩ => by
    have ih := imD.val k h
    by_cases c : q.1 = k
    · have c1 : p.1 = Kx.key k := by rw [e1, c]
      have d : dget (q :: qs) k = some q.2 := by simp [dget, List.find?_cons, c]
      rw [d, valV_pos c1]
      exact ⟨fun y e => ⟨p.2, rfl, by cases e; exact e2⟩, fun e => by cases e⟩
    · have c1 : ¬ p.1 = Kx.key k := fun z => c (Kx.inj (e1.symm.trans z))
      have d : dget (q :: qs) k = dget qs k := by simp [dget, List.find?_cons, c]
      rw [d, valV_neg c1]
      exact ih
  | [], _ :: _, _, h => h.elim
  | _ :: _, [], _, h => h.elim
theorem imD.any : ∀ {ps : List (Key × V)} {qs : List (κ × β)} (k : κ), imD (G := G) H ps qs → (ps.any fun kv => decide (kv.1 = Kx.key k)) = qs.any fun kv => decide (kv.1 = k)
  | [], [], _, _ => rfl
  | p :: ps, q :: qs, k, ⟨⟨e1, e2⟩, h⟩ => by
    rw [List.any_cons, List.any_cons, imD.any k h, e1, key_dec]
  | [], _ :: _, _, h => h.elim
  | _ :: _, [], _, h => h.elim
theorem imD.app : ∀ {ps rs : List (Key × V)} {qs ts : List (κ × β)}, imD (G := G) H ps qs → imD (G := G) H rs ts → imD (G := G) H (ps ++ rs) (qs ++ ts)
  | [], _, [], _, _, h => h
  | _ :: _, _, _ :: _, _, h, k => ⟨h.1, imD.app h.2 k⟩
  | [], _, _ :: _, _, h, _ => h.elim
  | _ :: _, _, [], _, h, _ => h.elim
theorem imD.rep : ∀ {ps : List (Key × V)} {qs : List (κ × β)} {k : κ} {v : V} {y : β}, imD (G := G) H ps qs → Im.im G H v y →
    imD (G := G) H (ps.map fun kv => if kv.1 = Kx.key k then (kv.1, v) else kv) (qs.map fun kv => if kv.1 = k then (kv.1, y) else kv)
  | [], [], _, _, _, _, _ => True.intro
  | p :: ps, q :: qs, k, v, y, ⟨⟨e1, e2⟩, h⟩, hv => by
    refine ⟨?_, imD.rep h hv⟩
    show (if p.1 = Kx.key k then (p.1, v) else p).1 = Kx.key (if q.1 = k then (q.1, y) else q).1 ∧ Im.im G H (if p.1 = Kx.key k then (p.1, v) else p).2 (if q.1 = k then (q.1, y) else q).2
    by_cases c : q.1 = k
    · have c1 : p.1 = Kx.key k := by rw [e1, c]
      rw [if_pos c, if_pos c1]; exact ⟨e1, hv⟩
    · have c1 : ¬ p.1 = Kx.key k := fun z => c (Kx.inj (e1.symm.trans z))
      rw [if_neg c, if_neg c1]; exact ⟨e1, e2⟩
  | [], _ :: _, _, _, _, h, _ => h.elim
  | _ :: _, [], _, _, _, h, _ => h.elim
theorem imD.put {ps : List (Key × V)} {qs : List (κ × β)} {k : κ} {v : V} {y : β} (h : imD (G := G) H ps qs) (hv : Im.im G H v y) : imD (G := G) H (putK ps (Kx.key k) v) (dput qs k y) := by
  unfold putK dput
  rw [h.any k]
  split
  · exact h.rep hv
  · exact h.app (rs := [(Kx.key k, v)]) (ts := [(k, y)]) ⟨⟨rfl, hv⟩, True.intro⟩
theorem imD.drop : ∀ {ps : List (Key × V)} {qs : List (κ × β)} (k : κ), imD (G := G) H ps qs → imD (G := G) H (dropK ps (Kx.key k)) (ddrop qs k)
  | [], [], _, _ => True.intro
  | p :: ps, q :: qs, k, ⟨⟨e1, e2⟩, h⟩ => by
    have ih := imD.drop k h
    unfold dropK ddrop at ih ⊢
    rw [List.filter_cons, List.filter_cons]
    by_cases c : q.1 = k
    · have c1 : p.1 = Kx.key k := by rw [e1, c]
      simp only [c, c1, ne_eq, not_true_eq_false, decide_false, Bool.false_eq_true, if_false]
      exact ih
    · have c1 : ¬ p.1 = Kx.key k := fun z => c (Kx.inj (e1.symm.trans z))
      simp only [c, c1, ne_eq, not_false_eq_true, decide_true, if_true]
      exact ⟨⟨e1, e2⟩, ih⟩
  | [], _ :: _, _, h => h.elim
  | _ :: _, [], _, h => h.elim
theorem imD.keys : ∀ {ps : List (Key × V)} {qs : List (κ × β)}, imD (G := G) H ps qs → ps.map (·.1) = qs.map fun q => Kx.key q.1
  | [], [], _ => rfl
  | p :: ps, q :: qs, h => by rw [List.map_cons, List.map_cons, imD.keys h.2, h.1.1]
  | [], _ :: _, h => h.elim
  | _ :: _, [], h => h.elim
def dictA (a : Addr) (kvs : List (κ × β)) : Asn G := ⟨fun H fp => fp = [a] ∧ ∃ ps, H a = some (.dK ps) ∧ imD (G := G) H ps kvs,
  fun H H' fp ⟨e, ps, h, m⟩ k s => ⟨e, ps, by rw [k a (by rw [e]; simp)]; exact h, m.st s⟩⟩
variable {L L' : List (Asn G)}
theorem Sep.dict (h : Sep H L) {i : Nat} {a : Addr} {kvs : List (κ × β)} (e : L[i]? = some (dictA a kvs)) : ∃ ps, H a = some (.dK ps) ∧ imD (G := G) H ps kvs := by
  obtain ⟨fp, _, x⟩ := h.at e
  exact x
theorem Sep.newD (h : Sep H L) {p : Addr} (hp : H p = none) : Sep (upd H p (.dK [])) (dictA p ([] : List (κ × β)) :: L) :=
  (h.new (o := .dK []) hp rfl).view fun fp ⟨q, r⟩ => ⟨q, [], r, True.intro⟩
theorem Sep.putD (h : Sep H L) {i : Nat} {a : Addr} {xs ys : List (κ × β)} {ps : List (Key × V)} (e : L[i]? = some (dictA a xs)) (m : imD (G := G) H ps ys) : Sep (upd H a (.dK ps)) (L.set i (dictA a ys)) := by
  obtain ⟨us, e0, mu⟩ := h.dict e
  have h1 : Sep H (L.set i (cell a (.dK us))) := h.viewAt e fun fp ⟨q, _⟩ => ⟨q, e0⟩
  have e1 := get_set (y := cell (G := G) a (.dK us)) e
  have h2 := h1.put (o' := .dK ps) e1 rfl rfl
  rw [set_set] at h2
  have st : Stab G H (upd H a (.dK ps)) := stab_put (h1.getCell e1) rfl rfl
  have h3 := h2.viewAt (B := dictA a ys) (get_set e) fun fp ⟨q, r⟩ => ⟨q, ps, r, m.st st⟩
  rw [set_set] at h3
  exact h3
variable {σ : St} {Q : VK} {td ty tx : TE} {k : κ} {a : Addr} {xs : List (κ × β)} {i : Nat}
theorem k_dnew (hS : Sep H L) (q : ∀ p H', Sep H' (dictA p ([] : List (κ × β)) :: L) → Q (.ref p) H') : tDNewK σ H Q := fun p hp => q p _ (hS.newD hp)
theorem dget_at (hS : Sep H L) (e : L[i]? = some (dictA a xs)) {o : Option β} (ho : dget xs k = o) : ∃ r, DGet H a (kV (Kx.key k)) r ∧ (∀ y, o = some y → ∃ v, r = some v ∧ Im.im G H v y) ∧ (o = none → r = none) := by
  obtain ⟨ps, h, m⟩ := hS.dict e
  obtain ⟨v1, v2⟩ := m.val k
  exact ⟨_, DGet.k h, fun y q => v1 y (ho.trans q), fun q => v2 (ho.trans q)⟩
theorem ev_din (hS : Sep H L) (e : L[i]? = some (dictA a xs)) (hy : Ev ty σ H (kV (Kx.key k))) (hd : Ev td σ H (.ref a)) : Ev (tDIn ty td) σ H (.bl (dhas xs k)) := fun Q q => hy _ (hd _ (by
  obtain ⟨r, g, h1, h2⟩ := dget_at hS e (k := k) rfl
  refine ⟨a, r, rfl, g, ?_⟩
  have : r.isSome = dhas xs k := by
    unfold dhas
    cases c : dget xs k with
    | none => rw [h2 c]; rfl
    | some y => obtain ⟨v, e, _⟩ := h1 y c; rw [e]; rfl
  rw [this]; exact q))
theorem ev_dnotin (hS : Sep H L) (e : L[i]? = some (dictA a xs)) (hy : Ev ty σ H (kV (Kx.key k))) (hd : Ev td σ H (.ref a)) : Ev (tDNotIn ty td) σ H (.bl (!dhas xs k)) := fun Q q => hy _ (hd _ (by
  obtain ⟨r, g, h1, h2⟩ := dget_at hS e (k := k) rfl
  refine ⟨a, r, rfl, g, ?_⟩
  have : r.isSome = dhas xs k := by
    unfold dhas
    cases c : dget xs k with
    | none => rw [h2 c]; rfl
    | some y => obtain ⟨v, e, _⟩ := h1 y c; rw [e]; rfl
  rw [this]; exact q))
theorem isD_of (hS : Sep H L) (e : L[i]? = some (dictA a xs)) : IsD H a := by
  obtain ⟨ps, h, _⟩ := hS.dict e
  exact .inl ⟨ps, .inl h⟩
/-- d.setdefault(k, z), what it hands back not looked at -/
theorem k_dsetd0 {z : V} {y : β} (hS : Sep H L) (e : L[i]? = some (dictA a xs)) (hz : Im.im G H z y) (hl : xs.length < sizeLine) (e2 : L.set i (dictA a (if dhas xs k then xs else dput xs k y)) = L')
    (q : ∀ v H', Sep H' L' → Q v H') : ∃ (kvs : List (Key × V)) (k' : Key), H a = some (.dK kvs) ∧ kV (Kx.key k) = kV k' ∧ kvs.length < sizeLine ∧ (∀ v, valV kvs k' = some v → Q v H) ∧ (valV kvs k' = none → Q z (upd H a (.dK (putK kvs k' z)))) := by
  obtain ⟨ps, h, m⟩ := hS.dict e
  obtain ⟨v1, v2⟩ := m.val k
  refine ⟨ps, Kx.key k, h, rfl, by rw [m.len]; exact hl, fun v hv => q v _ ?_, fun hn => q z _ ?_⟩
  · have : dhas xs k = true := by
      unfold dhas
      cases c : dget xs k with
      | none => rw [v2 c] at hv; cases hv
      | some y => rfl
    rw [this] at e2
    subst e2
    have : L.set i (dictA a xs) = L := by
      have hi := (List.getElem?_eq_some_iff.mp e)
      obtain ⟨h1, h2⟩ := hi
      rw [← h2]; exact List.set_getElem_self h1
    rw [if_pos rfl, this]; exact hS
  · have : dhas xs k = false := by
      unfold dhas
      cases c : dget xs k with
      | none => rfl
      | some y => obtain ⟨v, e, _⟩ := v1 y c; rw [e] at hn; cases hn
    rw [this] at e2
    subst e2
    rw [if_neg Bool.false_ne_true]
    exact hS.putD e (m.put hz)
theorem k_dsetd {z : V} {y : β} (hS : Sep H L) (e : L[i]? = some (dictA a xs)) (hd : Ev td σ H (.ref a)) (hy : Ev ty σ H (kV (Kx.key k))) (hx : Ev tx σ H z) (hz : Im.im G H z y) (hl : xs.length < sizeLine) (e2 : L.set i (dictA a (if dhas xs k then xs else dput xs k y)) = L')
    (q : ∀ v H', Sep H' L' → Q v H') : tDSetd td ty tx σ H Q := hd _ ⟨a, rfl, isD_of hS e, hy _ (hx _ (k_dsetd0 hS e hz hl e2 q))⟩
def rListD : List V → Hp → VK → Prop := fun xs H Q => ∃ (a : Addr) (kvs : List (Key × V)), xs = [.ref a] ∧ Rd H a (.dK kvs) ∧ ∀ p, H p = none → Q (.ref p) (upd H p (.lst (kvs.map fun kv => kV kv.1)))
theorem call_lstD {X : Cx} (hc : X.calm = true) : CallR X (.type "list") rListD := call_listD hc
theorem k_listD [Fv G κ] (hk : ∀ k : κ, kV (Kx.key k) = Fv.enc G k) (hS : Sep H L) (e : L[i]? = some (dictA a xs)) (q : ∀ p H', Sep H' (lstA p (xs.map (·.1)) :: L) → Q (.ref p) H') : rListD [.ref a] H Q := by
  obtain ⟨ps, h, m⟩ := hS.dict e
  refine ⟨a, ps, rfl, .inl h, fun p hp => q p _ (hS.newL hp (imL.flat.mpr ?_))⟩
  have e1 : ps.map (fun kv => kV kv.1) = (ps.map (·.1)).map kV := by rw [List.map_map]; rfl
  rw [e1, m.keys, List.map_map, List.map_map]
  exact List.map_congr_left fun q _ => hk q.1
end
/-! ### == of data -/
class Lay (α : Type) where
  lay : α → Bool
instance : Lay Int := ⟨fun _ => true⟩
instance : Lay Bool := ⟨fun _ => true⟩
instance : Lay Str := ⟨fun x => PyData.strOk x⟩
def layAllB {α : Type} [Lay α] (xs : List α) : Bool := xs.all Lay.lay
class Pd (G : Gx) (α : Type) [Im G α] [DecidableEq α] [Lay α] where
  pd : α → PyData
  dep : Nat
  dp : ∀ {H : Hp} {v : V} {x : α}, Im.im G H v x → Dp G.K H v (pd x)
  lay_ok : ∀ x, Lay.lay x = true → (pd x).canLay0 = true
  dep_ok : ∀ x, (pd x).depth ≤ dep
  eqv : ∀ x y, PyData.eqv (pd x) (pd y) = decide (x = y)
instance pInt : Pd G Int where
  pd := .int
  dep := 0
  dp := fun {H v x} h => by
    have h : v = .int x := h
    subst h; exact .int x
  lay_ok := fun _ _ => rfl
  dep_ok := fun _ => Nat.le_refl _
  eqv := fun x y => by
    show (x == y) = decide (x = y)
    rfl
instance pBool : Pd G Bool where
  pd := .bool
  dep := 0
  dp := fun {H v x} h => by
    have h : v = .bl x := h
    subst h; exact .bl x
  lay_ok := fun _ _ => rfl
  dep_ok := fun _ => Nat.le_refl _
  eqv := fun x y => by cases x <;> cases y <;> rfl
theorem str_beq (x y : Str) : (x == y) = decide (x = y) := by
  by_cases h : x = y
  · subst h; simp
  · simp [h]
instance pStr : Pd G Str where
  pd := .str
  dep := 0
  dp := fun {H v x} h => by
    have h : v = .str x := h
    subst h; exact .str x
  lay_ok := fun _ h => h
  dep_ok := fun _ => Nat.le_refl _
  eqv := fun x y => str_beq x y
section
variable {α : Type} [Im G α] [DecidableEq α] [Lay α] [Pd G α] {H : Hp} {L : List (Asn G)}
theorem dpAll : ∀ {vs : List V} {xs : List α}, imL (G := G) H vs xs → DpAll G.K H vs (xs.map (Pd.pd G))
  | [], [], _ => .nil
  | v :: vs, x :: xs, h => .cons (Pd.dp h.1) (dpAll h.2)
  | [], _ :: _, h => h.elim
  | _ :: _, [], h => h.elim
theorem layAll : ∀ {xs : List α}, layAllB xs = true → PyData.canLayAll0 (xs.map (Pd.pd G)) = true
  | [], _ => rfl
  | x :: xs, h => by
    unfold layAllB at h
    rw [List.all_cons, Bool.and_eq_true] at h
    show ((Pd.pd G x).canLay0 && PyData.canLayAll0 (xs.map (Pd.pd G))) = true
    rw [Pd.lay_ok x h.1, layAll h.2]; rfl
theorem depAll : ∀ (xs : List α), PyData.depthAll (xs.map (Pd.pd G)) ≤ Pd.dep G α
  | [] => Nat.zero_le _
  | x :: xs => by
    show max (Pd.pd G x).depth (PyData.depthAll (xs.map (Pd.pd G))) ≤ _
    exact Nat.max_le.mpr ⟨Pd.dep_ok x, depAll xs⟩
theorem eqvAll_is : ∀ (xs ys : List α), PyData.eqvAll (xs.map (Pd.pd G)) (ys.map (Pd.pd G)) = decide (xs = ys)
  | [], [] => rfl
  | x :: xs, y :: ys => by
    show (PyData.eqv (Pd.pd G x) (Pd.pd G y) && PyData.eqvAll (xs.map (Pd.pd G)) (ys.map (Pd.pd G))) = _
    rw [Pd.eqv, eqvAll_is xs ys]
    simp
  | [], _ :: _ => rfl
  | _ :: _, [] => rfl
theorem shapedL {xs : List α} (h : layAllB xs = true) (d : Pd.dep G α + 1 ≤ 64) : SeqAt.shaped (.list (xs.map (Pd.pd G))) = true := by
  unfold SeqAt.shaped
  have h1 : (PyData.list (xs.map (Pd.pd G))).canLay0 = true := layAll h
  have h2 : (PyData.list (xs.map (Pd.pd G))).depth ≤ 64 := by
    show PyData.depthAll (xs.map (Pd.pd G)) + 1 ≤ 64
    have := depAll (G := G) xs
    omega
  rw [h1, decide_eq_true h2]; rfl
variable {a b : Addr} {xs ys : List α} {i j : Nat} {σ : St} {ta tb : TE}
theorem ev_eqL (hS : Sep H L) (e1 : L[i]? = some (lstA a xs)) (e2 : L[j]? = some (lstA b ys)) (ha : Ev ta σ H (.ref a)) (hb : Ev tb σ H (.ref b)) (l1 : layAllB xs = true) (l2 : layAllB ys = true) (d : Pd.dep G α + 1 ≤ 64) :
    Ev (tOp (rEqD G.K) ta tb) σ H (.bl (decide (xs = ys))) := ev_op ha hb fun Q q => by
  obtain ⟨vs, s1, m1⟩ := hS.sq e1
  obtain ⟨ws, s2, m2⟩ := hS.sq e2
  refine ⟨_, _, .lst s1 (dpAll m1), .lst s2 (dpAll m2), shapedL l1 d, shapedL l2 d, ?_⟩
  have : PyData.eqv (.list (xs.map (Pd.pd G))) (.list (ys.map (Pd.pd G))) = decide (xs = ys) := eqvAll_is xs ys
  rw [this]; exact q
theorem r_eqL (hS : Sep H L) (e1 : L[i]? = some (lstA a xs)) (e2 : L[j]? = some (lstA b ys)) (l1 : layAllB xs = true) (l2 : layAllB ys = true) (d : Pd.dep G α + 1 ≤ 64) (Q : VK) (q : Q (.bl (decide (xs = ys))) H) : rEqD G.K (.ref a) (.ref b) H Q :=
  ev_eqL (σ := []) (ta := tC (.ref a)) (tb := tC (.ref b)) hS e1 e2 ev_c ev_c l1 l2 d Q q
theorem ev_neL (hS : Sep H L) (e1 : L[i]? = some (lstA a xs)) (e2 : L[j]? = some (lstA b ys)) (ha : Ev ta σ H (.ref a)) (hb : Ev tb σ H (.ref b)) (l1 : layAllB xs = true) (l2 : layAllB ys = true) (d : Pd.dep G α + 1 ≤ 64) :
    Ev (tOp (rNeD G.K) ta tb) σ H (.bl (!decide (xs = ys))) := ev_op ha hb fun Q q => by
  obtain ⟨vs, s1, m1⟩ := hS.sq e1
  obtain ⟨ws, s2, m2⟩ := hS.sq e2
  refine ⟨_, _, .lst s1 (dpAll m1), .lst s2 (dpAll m2), shapedL l1 d, shapedL l2 d, ?_⟩
  have : PyData.eqv (.list (xs.map (Pd.pd G))) (.list (ys.map (Pd.pd G))) = decide (xs = ys) := eqvAll_is xs ys
  rw [this]; exact q
theorem r_neL (hS : Sep H L) (e1 : L[i]? = some (lstA a xs)) (e2 : L[j]? = some (lstA b ys)) (l1 : layAllB xs = true) (l2 : layAllB ys = true) (d : Pd.dep G α + 1 ≤ 64) (Q : VK) (q : Q (.bl (!decide (xs = ys))) H) : rNeD G.K (.ref a) (.ref b) H Q :=
  ev_neL (σ := []) (ta := tC (.ref a)) (tb := tC (.ref b)) hS e1 e2 ev_c ev_c l1 l2 d Q q
end
/-! ### in, isinstance -/
section
variable {H : Hp} {L : List (Asn G)} {σ : St} {ta tb : TE} {a : Addr} {i : Nat}
theorem inV_str (x : Str) : ∀ ys : List Str, inV (.str x) (ys.map V.str) = decide (x ∈ ys)
  | [] => rfl
  | y :: ys => by
    have ih := inV_str x ys
    unfold inV at ih ⊢
    rw [List.map_cons, List.any_cons, ih]
    show ((y == x) || _) = _
    by_cases h : y = x
    · subst h; simp
    · have h' : ¬ x = y := fun e => h e.symm
      simp [h, h']
theorem flat_str : ∀ ys : List Str, (ys.map V.str).all flatV = true
  | [] => rfl
  | y :: ys => by rw [List.map_cons, List.all_cons, flat_str ys]; rfl
theorem ev_inL {x : Str} {ys : List Str} (hS : Sep H L) (e : L[i]? = some (lstA a ys)) (ha : Ev ta σ H (.str x)) (hb : Ev tb σ H (.ref a)) : Ev (tOp (rIn G.K false) ta tb) σ H (.bl (decide (x ∈ ys))) := ev_op ha hb fun Q q =>
  ⟨a, ys.map V.str, rfl, .inl (hS.sqF e), rfl, flat_str ys, by
    show Q (.bl (inV (.str x) (ys.map V.str))) H
    rw [inV_str]; exact q⟩
theorem ev_niL {x : Str} {ys : List Str} (hS : Sep H L) (e : L[i]? = some (lstA a ys)) (ha : Ev ta σ H (.str x)) (hb : Ev tb σ H (.ref a)) : Ev (tOp (rIn G.K true) ta tb) σ H (.bl (!decide (x ∈ ys))) := ev_op ha hb fun Q q =>
  ⟨a, ys.map V.str, rfl, .inl (hS.sqF e), rfl, flat_str ys, by
    show Q (.bl (!inV (.str x) (ys.map V.str))) H
    rw [inV_str]; exact q⟩
theorem ev_isi {x : V} {T U : String} {b : Bool} (ha : Ev ta σ H x) (hb : Ev tb σ H (.ty U)) (t : TyX G.K H x (.type T)) (e : kitB T U = some b) : Ev (tCB (rIsi G.K) (tCons ta (tCons tb tNil))) σ H (.bl b) :=
  ev_cb (ea_cons ha (ea_cons hb ea_nil)) fun Q q => ⟨x, .ty U, _, _, b, rfl, .ty U, t, kit_ty e, q⟩
theorem ty_lst {α : Type} [Im G α] {xs : List α} (hS : Sep H L) (e : L[i]? = some (lstA a xs)) : TyX G.K H (.ref a) (.type "list") := by
  obtain ⟨vs, h, _⟩ := hS.lst e
  exact .base (.lst h)
theorem ty_dict {κ β : Type} [DecidableEq κ] [Kx κ] [Im G β] {xs : List (κ × β)} (hS : Sep H L) (e : L[i]? = some (dictA a xs)) : TyX G.K H (.ref a) (.type "dict") := by
  obtain ⟨vs, h, _⟩ := hS.dict e
  exact .base (.dK h)
end
end Ml

namespace Ml
open PySem L2
variable {G : Gx}
section
variable {σ σ' : St} {H : Hp} {L L' M : List (Asn G)} {D : Ends} {Q : VK} {te : TE} {tt : TT} {tb : TS} {α β τ ρ : Type} {i : Nat} {v : V} {vs : List Nat}
theorem c_gN {P : St → Hp → Prop} (e : σ.set i (some v) = σ') (h : P σ' H) : gName i v σ H P := by
  show P (σ.set i (some v)) H
  rw [e]; exact h
theorem c_gLc {P : Bool → Hp → Prop} (e : (wipe σ vs).set i (some v) = σ') (hw : wipe σ' vs = wipe σ vs) (h : tt σ' H P) : gName i v (wipe σ vs) H fun σ2 H2 => wipe σ2 vs = wipe σ vs ∧ tt σ2 H2 P := by
  show wipe ((wipe σ vs).set i (some v)) vs = wipe σ vs ∧ tt ((wipe σ vs).set i (some v)) H P
  rw [e]; exact ⟨hw, h⟩
theorem c_yes {A B : Hp → Prop} (h : A H) : tYes σ H fun b H3 => if b = true then A H3 else B H3 := h
theorem lc_app [Im G β] {Dr : Addr} {ys : List β} {y : β} {u : V} (hS : Sep H (lstA Dr ys :: M)) (hu : Im.im G H u y) : ∃ acc, H Dr = some (.lst acc) ∧ acc.length = ys.length ∧ Sep (upd H Dr (.lst (acc ++ [u]))) (lstA Dr (ys ++ [y]) :: M) := by
  obtain ⟨acc, h, m⟩ := hS.lst (i := 0) rfl
  exact ⟨acc, h, m.len, hS.putL (i := 0) rfl (m.app (vs := acc) (ws := [u]) ⟨hu, True.intro⟩)⟩
theorem st_nx (h : D.nx σ H) : tNext D σ H := h
def sq (t : TS) (D : Ends) : Ends := { D with nx := t D }
theorem f_seq {t1 t2 : TS} (h : t1 (sq t2 D) σ H) : tSeq t1 t2 D σ H := h
theorem sq_nx {t2 : TS} (h : t2 D σ H) : (sq t2 D).nx σ H := h
def forK (g : TG) (tb : TS) (D : Ends) (σ : L2.St) : It → Hp → Prop := fun J H1 => ∃ W : Nat → Nat → L2.St → Hp → Prop, (∃ m, W 0 m σ H1) ∧ ∀ i m σ H, W i m σ H →
  (J.stop i H ∧ D.nx σ H) ∨ (J.go i H ∧ ∃ N : L2.St → Hp → Prop, (∀ σ' H', N σ' H' → ∃ m', m' < m ∧ W (i + 1) m' σ' H') ∧ ∀ x H', J.yld i H x H' → g x σ H' fun σ2 H2 => tb { D with nx := N, ct := N, bk := D.nx } σ2 H2)
def loopD (D : Ends) (N B : L2.St → Hp → Prop) : Ends := { D with nx := N, ct := N, bk := B }
theorem c_for {wi : TI} {g : TG} (h : wi σ H (forK g tb D σ)) : tFor wi g tb D σ H := h
def lcK (g : TG) (tt : TT) (te : TE) (vs : List Nat) (σ : L2.St) (Q : VK) : It → Hp → Prop := fun J H1 => ∀ D, H1 D = none → ∃ W : Nat → Nat → Hp → Prop, (∃ m, W 0 m (upd H1 D (.lst []))) ∧ ∀ i m H, W i m H →
  (J.stop i H ∧ Q (.ref D) H) ∨ (J.go i H ∧ ∃ Nx : Hp → Prop, (∀ H', Nx H' → ∃ m', m' < m ∧ W (i + 1) m' H') ∧ ∀ x H', J.yld i H x H' → g x (wipe σ vs) H' fun σ2 H2 => wipe σ2 vs = wipe σ vs ∧ tt σ2 H2 fun b H3 =>
    if b = true then te σ2 H3 fun y H4 => ∃ acc, H4 D = some (.lst acc) ∧ acc.length < sizeLine ∧ Nx (upd H4 D (.lst (acc ++ [y]))) else Nx H3)
theorem c_lc {wi : TI} {g : TG} (h : wi σ H (lcK g tt te vs σ Q)) : tLc wi g tt te vs σ H Q := h
def rng1K (R : It → Hp → Prop) : List V → Hp → Prop := fun vs H1 => ∃ j : Int, vs = [.int j] ∧ -(2 ^ 62) ≤ j ∧ j < 2 ^ 62 ∧ R (Itr 0 j.toNat) H1
def rng2K (R : It → Hp → Prop) : List V → Hp → Prop := fun vs H1 => ∃ i j : Int, vs = [.int i, .int j] ∧ (-(2 ^ 62) ≤ i ∧ i < 2 ^ 62 ∧ -(2 ^ 62) ≤ j ∧ j < 2 ^ 62) ∧ R (Itr i (j - i).toNat) H1
def ilK (K : PySem.W.Frag) (R : It → Hp → Prop) : VK := fun x H1 => ∃ a, x = .ref a ∧ (∃ xs, SqL K H1 a xs) ∧ R (Itl K a) H1
def isK (R : It → Hp → Prop) : VK := fun v H1 => ∃ x, v = .str x ∧ R (Its x) H1
theorem c_rng1 {ta : TA} {R : It → Hp → Prop} (h : ta σ H (rng1K R)) : iRng1 ta σ H R := h
theorem c_rng2 {ta : TA} {R : It → Hp → Prop} (h : ta σ H (rng2K R)) : iRng2 ta σ H R := h
theorem c_il {K : PySem.W.Frag} {R : It → Hp → Prop} (h : te σ H (ilK K R)) : iList K te σ H R := h
theorem c_is {R : It → Hp → Prop} (h : te σ H (isK R)) : iStr te σ H R := h
theorem k_rng1 {R : It → Hp → Prop} {j : Int} (h1 : -(2 ^ 62) ≤ j) (h2 : j < 2 ^ 62) (h : R (Itr 0 j.toNat) H) : rng1K R [.int j] H := ⟨j, rfl, h1, h2, h⟩
theorem k_rng2 {R : It → Hp → Prop} {i j : Int} (h1 : -(2 ^ 62) ≤ i) (h2 : i < 2 ^ 62) (h3 : -(2 ^ 62) ≤ j) (h4 : j < 2 ^ 62) (h : R (Itr i (j - i).toNat) H) : rng2K R [.int i, .int j] H := ⟨i, j, rfl, ⟨h1, h2, h3, h4⟩, h⟩
theorem k_il [Im G α] {a : Addr} {xs : List α} {R : It → Hp → Prop} (hS : Sep H L) (e : L[i]? = some (lstA a xs)) (h : R (Itl G.K a) H) : ilK G.K R (.ref a) H := by
  obtain ⟨vs, s, _⟩ := hS.sq e
  exact ⟨a, rfl, ⟨vs, s⟩, h⟩
theorem k_is {z : Str} {R : It → Hp → Prop} (h : R (Its z) H) : isK R (.str z) H := ⟨z, rfl, h⟩
/-- for .. in .. -/
theorem k_for {J : It} {g : TG} {im : Hp → V → α → Prop} {xs : List α} {f : τ → α → R τ} {rest : τ → R ρ} {q : ρ → Prop} {e : Exc → Prop} {s : τ} (I : τ → L2.St → Hp → Prop)
    (w : ∀ s, Wk J (I s) im xs) (h0 : I s σ H) (hm : R.wp ((forR f xs s).bind rest) q e)
    (turn : ∀ (s : τ) (x : α) (v : V) (σ : L2.St) (H : Hp) (q : τ → Prop) (N : L2.St → Hp → Prop), I s σ H → im H v x → R.wp (f s x) q e → (∀ s' σ' H', q s' → I s' σ' H' → N σ' H') → g v σ H fun σ2 H2 => tb (loopD D N D.nx) σ2 H2)
    (done : ∀ s σ H, R.wp (rest s) q e → I s σ H → D.nx σ H) : forK g tb D σ J H :=
  for_walk (I := I) w h0 (R.wp_bind hm) turn done
theorem lp_nx {N B : L2.St → Hp → Prop} (h : N σ H) : (loopD D N B).nx σ H := h
theorem lp_ct {N B : L2.St → Hp → Prop} (h : N σ H) : tCont (loopD D N B) σ H := h
theorem lp_bk {N B : L2.St → Hp → Prop} (h : B σ H) : tBreak (loopD D N B) σ H := h
/-- a comprehension over owned things -/
theorem lc_sep [Im G β] {J : It} {im : Hp → V → α → Prop} {xs : List α} {f : τ → α → R (τ × Option β)} {rest : τ × List β → R ρ} {q : ρ → Prop} {e : Exc → Prop} {s : τ} (M : τ → List (Asn G))
    (hS : Sep H (M s)) (w : ∀ (Dr : Addr) (s : τ) (ys : List β), Wk J (fun (_ : St) H => Sep H (lstA Dr ys :: M s)) im xs) (hl : xs.length ≤ sizeLine) (hm : R.wp ((compR f xs s).bind rest) q e)
    (turn : ∀ (Dr : Addr) (s : τ) (ys : List β) (x : α) (v : V) (H : Hp) (q : τ × Option β → Prop) (Nx : Hp → Prop), Sep H (lstA Dr ys :: M s) → im H v x → R.wp (f s x) q e →
      (∀ s' y u H', q (s', some y) → Im.im G H' u y → Sep H' (lstA Dr ys :: M s') → ∃ acc, H' Dr = some (.lst acc) ∧ acc.length < sizeLine ∧ Nx (upd H' Dr (.lst (acc ++ [u])))) → (∀ s' H', q (s', none) → Sep H' (lstA Dr ys :: M s') → Nx H') →
      gName i v (wipe σ vs) H fun σ2 H2 => wipe σ2 vs = wipe σ vs ∧ tt σ2 H2 fun b H3 => if b = true then te σ2 H3 fun y H4 => ∃ acc, H4 Dr = some (.lst acc) ∧ acc.length < sizeLine ∧ Nx (upd H4 Dr (.lst (acc ++ [y]))) else Nx H3)
    (done : ∀ (Dr : Addr) (t : τ × List β) H, R.wp (rest t) q e → Sep H (lstA Dr t.2 :: M t.1) → Q (.ref Dr) H) :
    lcK (gName i) tt te vs σ Q J H := fun Dr hD =>
  lc_walk (G := G) (I := fun Dr s ys H => Sep H (lstA Dr ys :: M s)) (im := im) (xs := xs) (f := f) (k := fun t => R.wp (rest t) q e) (e := e) (s := s) (w Dr)
    (hS.newL (vs := []) (xs := ([] : List β)) hD True.intro) (R.wp_bind hm) hl
    (fun s ys x v H q Nx hI hv hw _ k1 k2 => turn Dr s ys x v H q Nx hI hv hw k1 k2)
    (fun s ys y u H hI hu => lc_app hI hu)
    (fun s ys H hk hI => done Dr (s, ys) H hk hI)
theorem c_aug {ti : TIp} {x : V} (e : σ[i]? = some (some x)) (h : te σ H fun y H1 => ti x y H1 fun z H2 => D.nx (σ.set i (some z)) H2) : tAug i te ti D σ H := ⟨x, e, h⟩
theorem c_asgS {to ti : TE} {t : TSet} (h : te σ H fun v H1 => to σ H1 fun o H2 => ti σ H2 fun j H3 => t o j v H3 fun H4 => D.nx σ H4) : tAsg te (gSub to ti t) D σ H := h
def ipS : TIp := fun x y H Q => ∃ i j, x = .str i ∧ y = .str j ∧ i.length + j.length ≤ sizeLine ∧ Q (.str (i ++ j)) H
theorem ip_catS {X : Cx} : PIp X .Add ipS := iop_add_str
theorem mt_joinS {X : Cx} : MtR X "str.join" (rJoin X.K) := mt_join
theorem m2 {X : Cx} {o : Expr} {m : Str} {apos : Pos} {e f : Expr} {cpos : Pos} (base : attributeBase o m X.env (eval o X.env) = eval o X.env := by rfl)
  (few : ((backTo cpos (starEach [e, f] X.env)).all (fun x => !x.1) && (backToKw cpos (keywordEach [] X.env)).all (fun x => x.1.isSome)
    && decide (([e, f] : List Expr).length + ([] : List Keyword).length + (if ([] : List Keyword).isEmpty then 0 else 1) < 30)) = true := by rfl)
  (line : (apos.endLine == cpos.line) = true := by rfl) (trees : backTo cpos (starEach [e, f] X.env) = [(false, eval e X.env), (false, eval f X.env)] := by rfl) : M2 X o m apos e f cpos := ⟨base, few, line, trees⟩
def ixR {α : Type} (xs : List α) (i : Int) : R Nat := match ixN xs.length i with
  | some j => .ok j
  | none => .bad
theorem wp_ix {xs : List α} {i : Int} {f : Nat → R ρ} {q : ρ → Prop} {e : Exc → Prop} (h : R.wp ((ixR xs i).bind f) q e) : ∃ j, ixN xs.length i = some j ∧ R.wp (f j) q e := by
  unfold ixR at h
  cases c : ixN xs.length i with
  | some x => rw [c] at h; exact ⟨x, rfl, h⟩
  | none => rw [c] at h; exact h.elim
theorem r_ixSq {K : PySem.W.Frag} {p : Addr} {ws : List V} {i : Int} (hs : SqL K H p ws) (e : atI ws i = some v) (Q : VK) (q : Q v H) : rIxL K (.ref p) (.int i) H Q := ⟨p, ws, i, v, rfl, rfl, hs, e, q⟩
theorem ev_lenLm {K : PySem.W.Frag} {ta : TE} {p : Addr} {xs : List α} {f : α → V} (ha : Ev ta σ H (.ref p)) (hs : SqL K H p (xs.map f)) : Ev (tCB (rLenSq K) (tCons ta tNil)) σ H (.int xs.length) := by
  have := ev_lenL ha hs
  rw [List.length_map] at this
  exact this
theorem ev_m0 {r : V → List V → Hp → VK → Prop} {to : TE} {a : Str} (h1 : Ev to σ H (.str a)) (h : ∀ Q : VK, Q v H → r (.str a) [] H Q) : Ev (tM0 r to) σ H v := fun Q q => c_m0 h1 (h Q q)
theorem ev_m1 {r : V → List V → Hp → VK → Prop} {to ti : TE} {a : Str} {y : V} (h1 : Ev to σ H (.str a)) (h2 : Ev ti σ H y) (h : ∀ Q : VK, Q v H → r (.str a) [y] H Q) : Ev (tM1 r to ti) σ H v := fun Q q => c_m1 h1 (h2 _ (h Q q))
theorem k_lenL [Im G α] {a : Addr} {xs : List α} (hS : Sep H L) (e : L[i]? = some (lstA a xs)) (q : Q (.int xs.length) H) : rLenSq G.K [.ref a] H Q := by
  obtain ⟨vs, h, m⟩ := hS.sq e
  exact ⟨a, vs, rfl, .inl h, by rw [m.len]; exact q⟩
end
end Ml

namespace Ml
open PySem L2
variable {G : Gx}
/-! ### ends that stay folded -/
def andK (u : TT) (σ : St) (P : Bool → Hp → Prop) : Bool → Hp → Prop := fun c H => if c = true then u σ H P else P false H
def orK (u : TT) (σ : St) (P : Bool → Hp → Prop) : Bool → Hp → Prop := fun c H => if c = true then P true H else u σ H P
def notK (P : Bool → Hp → Prop) : Bool → Hp → Prop := fun c H => P (!c) H
def ifK (t1 t2 : TS) (D : Ends) (σ : St) : Bool → Hp → Prop := fun c H => if c = true then t1 D σ H else t2 D σ H
def ifE (ta tb : TE) (σ : St) (Q : VK) : Bool → Hp → Prop := fun c H => if c = true then ta σ H Q else tb σ H Q
/-- a value that is a Bool -/
def blK (P : Bool → Hp → Prop) : VK := fun x H => ∃ k, x = .bl k ∧ P k H
/-- a Bool as a value -/
def vK (Q : VK) : Bool → Hp → Prop := fun b H => Q (.bl b) H
def andVK (tb : TE) (σ : St) (Q : VK) : VK := fun x H => ∃ c, x = .bl c ∧ if c = true then tb σ H Q else Q (.bl false) H
def orVK (tb : TE) (σ : St) (Q : VK) : VK := fun x H => ∃ c, x = .bl c ∧ if c = true then Q (.bl true) H else tb σ H Q
def notVK (Q : VK) : VK := fun x H => ∃ c, x = .bl c ∧ Q (.bl (!c)) H
section
variable {σ : St} {H : Hp} {L : List (Asn G)} {D : Ends} {Q : VK} {P : Bool → Hp → Prop} {t u : TT} {t1 t2 : TS} {ta tb te : TE} {ρ τ : Type} {a b : Bool} {v w : V}
theorem f_and (h : t σ H (andK u σ P)) : tAnd t u σ H P := h
theorem f_or (h : t σ H (orK u σ P)) : tOr t u σ H P := h
theorem f_not (h : t σ H (notK P)) : tNot t σ H P := h
theorem f_if (h : t σ H (ifK t1 t2 D σ)) : tIfS t t1 t2 D σ H := h
theorem f_ifE (h : t σ H (ifE ta tb σ Q)) : tIf t ta tb σ H Q := h
theorem f_test (h : te σ H (blK P)) : tTest te σ H P := h
theorem f_B (h : te σ H (blK P)) : tB te σ H P := h
theorem f_bl (h : P b H) : blK P (.bl b) H := ⟨b, rfl, h⟩
theorem f_andV (h : ta σ H (andVK tb σ Q)) : tAndV ta tb σ H Q := h
theorem f_orV (h : ta σ H (orVK tb σ Q)) : tOrV ta tb σ H Q := h
theorem f_notV (h : ta σ H (notVK Q)) : tNotV ta σ H Q := h
theorem f_nV (h : Q (.bl (!b)) H) : notVK Q (.bl b) H := ⟨b, rfl, h⟩
theorem f_nK (h : P (!b) H) : notK P b H := h
/-! known answers -/
theorem andK_t (h : u σ H P) : andK u σ P true H := h
theorem andK_f (h : P false H) : andK u σ P false H := h
theorem orK_f (h : u σ H P) : orK u σ P false H := h
theorem orK_t (h : P true H) : orK u σ P true H := h
theorem andVK_t (h : tb σ H Q) : andVK tb σ Q (.bl true) H := ⟨true, rfl, h⟩
theorem andVK_f (h : Q (.bl false) H) : andVK tb σ Q (.bl false) H := ⟨false, rfl, h⟩
theorem orVK_f (h : tb σ H Q) : orVK tb σ Q (.bl false) H := ⟨false, rfl, h⟩
theorem orVK_t (h : Q (.bl true) H) : orVK tb σ Q (.bl true) H := ⟨true, rfl, h⟩
theorem ifK_t (h : t1 D σ H) : ifK t1 t2 D σ true H := h
theorem ifK_f (h : t2 D σ H) : ifK t1 t2 D σ false H := h
theorem ifE_t (h : ta σ H Q) : ifE ta tb σ Q true H := h
theorem ifE_f (h : tb σ H Q) : ifE ta tb σ Q false H := h
/-! two ways, joined behind -/
variable {A B : R Bool} {rest : Bool → R ρ} {q : ρ → Prop} {e : Exc → Prop}
theorem andK_J (hm : R.wp ((if a = true then A else .ok false).bind rest) q e) (hS : Sep H L)
    (h1 : a = true → ∀ q' : Bool → Prop, R.wp A q' e → (∀ b H', q' b → Sep H' L → P b H') → u σ H P) (k : ∀ b H', R.wp (rest b) q e → Sep H' L → P b H') : andK u σ P a H := by
  have hm' := R.wp_bind hm
  cases a with
  | true => exact h1 rfl _ hm' k
  | false => exact k false H hm' hS
theorem orK_J (hm : R.wp ((if a = true then .ok true else A).bind rest) q e) (hS : Sep H L)
    (h1 : a = false → ∀ q' : Bool → Prop, R.wp A q' e → (∀ b H', q' b → Sep H' L → P b H') → u σ H P) (k : ∀ b H', R.wp (rest b) q e → Sep H' L → P b H') : orK u σ P a H := by
  have hm' := R.wp_bind hm
  cases a with
  | true => exact k true H hm' hS
  | false => exact h1 rfl _ hm' k
theorem andVK_J (hm : R.wp ((if a = true then A else .ok false).bind rest) q e) (hS : Sep H L)
    (h1 : a = true → ∀ q' : Bool → Prop, R.wp A q' e → (∀ b H', q' b → Sep H' L → Q (.bl b) H') → tb σ H Q) (k : ∀ b H', R.wp (rest b) q e → Sep H' L → Q (.bl b) H') : andVK tb σ Q (.bl a) H := by
  have hm' := R.wp_bind hm
  refine ⟨a, rfl, ?_⟩
  cases a with
  | true => exact h1 rfl _ hm' k
  | false => exact k false H hm' hS
theorem orVK_J (hm : R.wp ((if a = true then .ok true else A).bind rest) q e) (hS : Sep H L)
    (h1 : a = false → ∀ q' : Bool → Prop, R.wp A q' e → (∀ b H', q' b → Sep H' L → Q (.bl b) H') → tb σ H Q) (k : ∀ b H', R.wp (rest b) q e → Sep H' L → Q (.bl b) H') : orVK tb σ Q (.bl a) H := by
  have hm' := R.wp_bind hm
  refine ⟨a, rfl, ?_⟩
  cases a with
  | true => exact k true H hm' hS
  | false => exact h1 rfl _ hm' k
theorem ifK_2 (h1 : a = true → t1 D σ H) (h2 : a = false → t2 D σ H) : ifK t1 t2 D σ a H := by
  cases a with
  | true => exact h1 rfl
  | false => exact h2 rfl
theorem ifK_J {A B : R τ} {rest : τ → R ρ} (J : τ → St → Hp → Prop) (hm : R.wp ((if a = true then A else B).bind rest) q e)
    (h1 : a = true → ∀ q' : τ → Prop, R.wp A q' e → (∀ s σ' H', q' s → J s σ' H' → D.nx σ' H') → t1 D σ H)
    (h2 : a = false → ∀ q' : τ → Prop, R.wp B q' e → (∀ s σ' H', q' s → J s σ' H' → D.nx σ' H') → t2 D σ H)
    (k : ∀ s σ' H', R.wp (rest s) q e → J s σ' H' → D.nx σ' H') : ifK t1 t2 D σ a H := by
  have hm' := R.wp_bind hm
  cases a with
  | true => exact h1 rfl _ hm' k
  | false => exact h2 rfl _ hm' k
/-! a name for what was reckoned -/
theorem wp_let {α : Type} {x : α} {f : α → R ρ} (hm : R.wp ((R.ok x).bind f) q e) : ∃ y, x = y ∧ R.wp (f y) q e := ⟨x, rfl, hm⟩
theorem ev_is (h : Ev te σ H v) (e : v = w) : Ev te σ H w := by rw [← e]; exact h
theorem q_is (e : v = w) (h : Q w H) : Q v H := by rw [e]; exact h
theorem n_is {i : Nat} (e : v = w) (h : D.nx (σ.set i (some w)) H) : D.nx (σ.set i (some v)) H := by rw [e]; exact h
theorem p_is (e : a = b) (h : P b H) : P a H := by rw [e]; exact h
/-- [elt ..] with a test: the two ways -/
theorem lc_if {A B : Prop} (h1 : a = true → A) (h2 : a = false → B) : if a = true then A else B := by
  cases a with
  | true => exact h1 rfl
  | false => exact h2 rfl
end
end Ml

namespace Ml
open PySem L2
/-! ### the layer's rules with the written part by its name -/
section
variable {X : Cx} (K : PySem.W.Frag) (hK : X.K = K := by rfl)
include hK
theorem ix_listK : IxR X (rIxL K) := by subst hK; exact ix_list
theorem ix_tupK : IxR X (rIxT K) := by subst hK; exact ix_tup
theorem sl_listK : SlR X (rSlL K) := by subst hK; exact sl_list
theorem lenSqK : CallR X (.builtin "len") (rLenSq K) := by subst hK; exact call_lenSq
theorem listSqK : CallR X (.type "list") (rListSq K) := by subst hK; exact call_listSq
theorem isiK : CallR X (.builtin "isinstance") (rIsi K) := by subst hK; exact call_isi
theorem inSqK : OpR X (compareOp .In) (rIn K false) := by subst hK; exact op_in_seq
theorem niSqK : OpR X (compareOp .NotIn) (rIn K true) := by subst hK; exact op_notIn_seq
theorem joinK : MtR X "str.join" (rJoin K) := by subst hK; exact mt_joinS
end
theorem eqDK {X : Cx} (K : PySem.W.Frag) (hu : X.A.units + 64 < cLine) (hK : X.K = K := by rfl) : OpR X (compareOp .Eq) (rEqD K) := by subst hK; exact op_eqD hu
theorem neDK {X : Cx} (K : PySem.W.Frag) (hu : X.A.units + 64 < cLine) (hK : X.K = K := by rfl) : OpR X (compareOp .NotEq) (rNeD K) := by subst hK; exact op_neD hu
theorem allK {X : Cx} (K : PySem.W.Frag) (hc : X.calm = true) (hK : X.K = K := by rfl) : CallR X (.builtin "all") (rAll K) := by subst hK; exact cr_all hc
theorem anyK {X : Cx} (K : PySem.W.Frag) (hc : X.calm = true) (hK : X.K = K := by rfl) : CallR X (.builtin "any") (rAny K) := by subst hK; exact cr_any hc
theorem pi_listK {X : Cx} {tg e : Expr} {tl : TE} (K : PySem.W.Frag) (h : PE X e tl) (hK : X.K = K := by rfl) : PI X tg e (iList K tl) := by subst hK; exact pi_list h
section
variable {X : Cx} {T : String} {name : Str} {id : String} {r : V → List V → Hp → VK → Prop} {o e : Expr} {es : List Expr} {to : TE} {t : TA} {apos cpos : Pos}
theorem pe_bm0K (K : PySem.W.Frag) (pa : PlainAttrs T) (slot : Slot T name id) (hty : typeOf (.builtin id) = pure (.type "method_descriptor")) (hm : MtR X id r) (ho : PE X o to) (hK : X.K = K := by rfl)
    (hbase : attributeBase o name X.env (eval o X.env) = eval o X.env := by rfl) (hline : (apos.endLine == cpos.line) = true := by rfl) :
    PE X (.Call (.Attribute o name apos) [] [] cpos) (tBM0 K T r to) := by subst hK; exact pe_bm0 pa slot hty hm ho hbase hline
theorem pe_bmK (K : PySem.W.Frag) (pa : PlainAttrs T) (slot : Slot T name id) (hty : typeOf (.builtin id) = pure (.type "method_descriptor")) (hm : MtR X id r) (ho : PE X o to) (ha : PA X (e :: es) t) (hK : X.K = K := by rfl)
    (hbase : attributeBase o name X.env (eval o X.env) = eval o X.env := by rfl)
    (hfew : ((backTo cpos (starEach (e :: es) X.env)).all (fun x => !x.1) && (backToKw cpos (keywordEach [] X.env)).all (fun x => x.1.isSome)
      && decide ((e :: es).length + ([] : List Keyword).length + (if ([] : List Keyword).isEmpty then 0 else 1) < 30)) = true := by rfl)
    (hline : (apos.endLine == cpos.line) = true := by rfl) (hs : starEach (e :: es) X.env = (false, eval e X.env) :: starEach es X.env := by rfl) (hplain : (backTo cpos (starEach es X.env)).any (·.1) = false := by rfl) :
    PE X (.Call (.Attribute o name apos) (e :: es) [] cpos) (tBM K T r to t) := by subst hK; exact pe_bm pa slot hty hm ho ha hbase hfew hline hs hplain
end
end Ml
namespace Ml
open PySem L2
theorem im_of_only {G : Gx} {H : Hp} {a : Addr} {ns : List Int} (hO : Only H) (hS : SqL G.K H a (ns.map V.int)) : Im.im G H (.ref a) (⟨ns⟩ : Script) := by
  refine ⟨a, rfl, ?_⟩
  rcases hS with (h | ⟨o, h⟩) | h
  · rcases hO a with z | ⟨o, xs, z⟩
    · rw [h] at z; cases z
    · rw [h] at z; cases z
  · exact .inl ⟨o, h⟩
  · exact .inr h
end Ml

namespace Ml
open PySem L2
/-! ### xs[i] += y -/
def rGetL (o i : V) (H : Hp) (Q : VK) : Prop := ∃ p xs k v, o = .ref p ∧ i = .int k ∧ H p = some (.lst xs) ∧ 0 ≤ k ∧ k < 2 ^ 63 ∧ xs[k.toNat]? = some v ∧ Q v H
theorem get_list {X : Cx} : PGet X rGetL := by
  intro pins s σ H o i ov iv Q hI ho hi ⟨p, xs, k, v, e1, e2, hp, h0, h1, hx, hq⟩
  subst e1; subst e2
  cases ho; obtain ⟨t, rfl⟩ := hi
  have := hI.hok p _ hp
  simp only [ObjOk] at this
  obtain ⟨_, its, n, hv, hg⟩ := this
  have hw : ∃ u, its.toArray[k.toNat]? = some u ∧ RelV v u := by
    obtain ⟨u, hu, hr⟩ := Vals.get hv hx
    exact ⟨u, by simpa using hu, hr⟩
  obtain ⟨u, hu, hr⟩ := hw
  exact wpAny_getItem_list ⟨_, hg, rfl, n, rfl⟩ h0 h1 hu ⟨v, H, hI, hr, hq⟩
variable {G : Gx} {σ : St} {H : Hp} {L : List (Asn G)} {D : Ends} {Q : VK} {α ρ : Type} {v : V}
theorem c_augS {to ti te : TE} {tget : V → V → Hp → VK → Prop} {tip : TIp} {tset : TSet} (h : to σ H fun o H1 => ti σ H1 fun i H2 => tget o i H2 fun x H3 => te σ H3 fun y H4 => tip x y H4 fun z H5 => tset o i z H5 fun H6 => D.nx σ H6) :
    tAugS to ti te tget tip tset D σ H := h
/-- the item to be made anew -/
def ixA (xs : List α) (i : Int) : R (Nat × α) := if 0 ≤ i ∧ i < 2 ^ 63 then match xs[i.toNat]? with
  | some x => .ok (i.toNat, x)
  | none => .bad else .bad
theorem wp_ixA {xs : List α} {i : Int} {f : Nat × α → R ρ} {q : ρ → Prop} {e : Exc → Prop} (h : R.wp ((ixA xs i).bind f) q e) :
    ∃ j x, (0 ≤ i ∧ i < 2 ^ 63 ∧ i.toNat = j ∧ xs[i.toNat]? = some x ∧ ixN xs.length i = some j) ∧ R.wp (f (j, x)) q e := by
  unfold ixA at h
  by_cases c : 0 ≤ i ∧ i < 2 ^ 63
  · rw [if_pos c] at h
    cases d : xs[i.toNat]? with
    | some x =>
      rw [d] at h
      refine ⟨i.toNat, x, ⟨c.1, c.2, rfl, rfl, ?_⟩, h⟩
      have := (List.getElem?_eq_some_iff.mp d).1
      unfold ixN
      rw [if_pos c.1, if_pos (by omega)]
    | none => rw [d] at h; exact h.elim
  · rw [if_neg c] at h; exact h.elim
theorem k_getL [Fv G α] {n : Nat} {a : Addr} {xs : List α} {x : α} {i : Int} {j : Nat} (hS : Sep H L) (e : L[n]? = some (lstA a xs)) (h : 0 ≤ i ∧ i < 2 ^ 63 ∧ i.toNat = j ∧ xs[i.toNat]? = some x ∧ ixN xs.length i = some j)
    (k : Q (Fv.enc G x) H) : rGetL (.ref a) (.int i) H Q := by
  obtain ⟨vs, h1, m⟩ := hS.lst e
  obtain ⟨u, hu, hm⟩ := m.get h.2.2.2.1
  rw [Fv.im_iff] at hm
  subst hm
  exact ⟨a, vs, i, _, rfl, rfl, h1, h.1, h.2.1, hu, k⟩
theorem r_mod {i j : Int} (c : 0 < j) (q : Q (.int (i % j)) H) : rI (fun _ j => 0 < j) (fun i j => V.int (i % j)) (.int i) (.int j) H Q := ⟨i, j, rfl, rfl, c, q⟩
theorem r_mul {i j : Int} (c : CMul i j) (q : Q (.int (i * j)) H) : rI CMul (fun i j => V.int (i * j)) (.int i) (.int j) H Q := ⟨i, j, rfl, rfl, c, q⟩
theorem r_fdiv {i j : Int} (c : 0 < j ∧ j < 1073741824) (q : Q (.int (i / j)) H) : rI CDiv (fun i j => V.int (i / j)) (.int i) (.int j) H Q := ⟨i, j, rfl, rfl, c, q⟩
/-! ### the place of a text in a text -/
def rIndexS : V → List V → Hp → VK → Prop := fun x xs H Q => ∃ a b i rest, x = .str a ∧ xs = [.str b] ∧ Builtin.Str.occurrences a b 0 a.length 1 = i :: rest ∧ Q (.int i) H
theorem mt_sindexR {X : Cx} : MtR X "str.index" rIndexS := mt_sindex
def indexR (a b : Str) : R Int := match Builtin.Str.occurrences a b 0 a.length 1 with
  | i :: _ => .ok i
  | [] => .bad
theorem wp_index {a b : Str} {f : Int → R ρ} {q : ρ → Prop} {e : Exc → Prop} (h : R.wp ((indexR a b).bind f) q e) :
    ∃ i, (∃ (j : Nat) (rest : List Nat), Builtin.Str.occurrences a b 0 a.length 1 = j :: rest ∧ i = (j : Int)) ∧ R.wp (f i) q e := by
  unfold indexR at h
  cases c : Builtin.Str.occurrences a b 0 a.length 1 with
  | cons x r => rw [c] at h; exact ⟨x, ⟨x, r, rfl, rfl⟩, h⟩
  | nil => rw [c] at h; exact h.elim
theorem ev_sindex {to ti : TE} {a b : Str} {i : Int} (h1 : Ev to σ H (.str a)) (h2 : Ev ti σ H (.str b)) (h : ∃ (j : Nat) (rest : List Nat), Builtin.Str.occurrences a b 0 a.length 1 = j :: rest ∧ i = (j : Int)) : Ev (tM1 rIndexS to ti) σ H (.int i) := by
  obtain ⟨j, rest, h3, rfl⟩ := h
  exact ev_m1 h1 h2 fun _ q => ⟨a, b, j, rest, rfl, rfl, h3, q⟩
end Ml


namespace Ml
open PySem L2
/-! ### a list is locked for good: from then on it is a value -/
def fzK (Q : VK) : VK := fun v H => Q v H ∨ ∃ a u, v = .ref a ∧ H a = some u ∧ Mut (some u) ∧ ∀ o, Q v (upd H a (.frz o u))
def tFz (t : TE) : TE := fun σ H Q => t σ H (fzK Q)
theorem pe_fz {X : Cx} {e : Expr} {t : TE} (h : PE X e t) : PE X e (tFz t) := by
  refine ⟨fun pins s σ H Q I hw => ?_⟩
  refine thn (h.run pins s σ H _ I hw) fun v s1 ⟨x, H1, I1, r, q⟩ => ?_
  rcases q with q | ⟨a, u, e, ha, mu, q⟩
  · exact ⟨x, H1, I1, r, q⟩
  · obtain ⟨od, I2⟩ := I1.lock ha mu
    exact ⟨x, _, I2, r, q od⟩
variable {G : Gx}
section
variable {σ : St} {H : Hp} {L : List (Asn G)} {te : TE} {Q : VK} {v : V} {α : Type}
theorem c_fz (h : te σ H (fzK Q)) : tFz te σ H Q := h
theorem fz_no (h : Q v H) : fzK Q v H := .inl h
theorem ev_fz (h : Ev te σ H v) : Ev (tFz te) σ H v := fun Q q => h _ (.inl q)
/-- a locked list: a value -/
instance imList [Im G α] : Im G (List α) := ⟨fun H v xs => ∃ a vs, v = .ref a ∧ (∃ o, H a = some (.frz o (.lst vs))) ∧ imL (G := G) H vs xs,
  fun ⟨a, vs, e, ⟨o, h⟩, m⟩ s => ⟨a, vs, e, ⟨o, s.1 a _ h rfl⟩, m.st s⟩⟩
theorem imPl [Im G α] {a : Addr} {xs : List α} (h : Im.im G H (.ref a) xs) : ∃ vs, SqL G.K H a vs ∧ imL (G := G) H vs xs := by
  obtain ⟨b, vs, e, ⟨o, h⟩, m⟩ := h
  cases e
  exact ⟨vs, .inl (.inr ⟨o, h⟩), m⟩
theorem imPlF [Fv G α] {a : Addr} {xs : List α} (h : Im.im G H (.ref a) xs) : SqL G.K H a (xs.map (Fv.enc G)) := by
  obtain ⟨vs, e, m⟩ := imPl h
  rw [imL.flat.mp m] at e
  exact e
/-- the i-th thing is dropped, the rest stays while its cell changes -/
theorem Sep.drop1 {a : Addr} {o o' : HO} {M : List (Asn G)} (h : Sep H (cell a o :: M)) (kd : kindOf o' = kindOf o) : Sep (upd H a o') M := by
  obtain ⟨fp, ⟨f1, f2, e, ⟨e1, ho⟩, k⟩, h2, h3⟩ := h
  subst e1; subst e
  have nd : ¬ a ∈ f2 := (List.nodup_cons.mp h2).1
  obtain ⟨u, hu, nu⟩ := h3 a (by simp)
  have eu : u = o := by rw [ho] at hu; cases hu; rfl
  have st : Stab G H (upd H a o') := stab_put hu nu (by rw [eu]; exact kd)
  refine ⟨f2, k.loc (fun b m => upd_ne fun z => nd (z ▸ m)) st, (List.nodup_cons.mp h2).2, fun b m => ?_⟩
  obtain ⟨x, hx, nx⟩ := h3 b (by simp [m])
  exact ⟨x, by rw [upd_ne (fun z => nd (by rw [← z]; exact m))]; exact hx, nx⟩
theorem fz_yes [Im G α] {i : Nat} {a : Addr} {xs : List α} (hS : Sep H L) (e : L[i]? = some (lstA a xs)) (k : ∀ H', Sep H' (imA (.ref a) xs :: L.eraseIdx i) → Q (.ref a) H') : fzK Q (.ref a) H := by
  obtain ⟨vs, m, h1⟩ := hS.openL e
  have h0 := h1.getCell (get_set e)
  refine .inr ⟨a, .lst vs, rfl, h0, True.intro, fun o => k _ ?_⟩
  have h2 := h1.perm (pull_perm (get_set (y := cell (G := G) a (.lst vs)) e))
  have e3 : (L.set i (cell a (.lst vs))).eraseIdx i = L.eraseIdx i := by simp [List.eraseIdx_set_eq]
  rw [e3] at h2
  obtain ⟨fp, ⟨f1, f2, _, ⟨ef, _⟩, _⟩, nd0, nper⟩ := id h2
  have nu : per G (.lst vs) = false := rfl
  have st : Stab G H (upd H a (.frz o (.lst vs))) := stab_put h0 nu rfl
  have h4 := h2.drop1 (o' := .frz o (.lst vs)) rfl
  exact h4.addIm ⟨a, vs, rfl, ⟨o, upd_same⟩, m.st st⟩
end
/-! ### tuples -/
structure T3 (α β γ : Type) where
  a : α
  b : β
  c : γ
  deriving DecidableEq, Repr
structure T4 (α β γ δ : Type) where
  a : α
  b : β
  c : γ
  d : δ
  deriving DecidableEq, Repr
structure T5 (α β γ δ ε : Type) where
  a : α
  b : β
  c : γ
  d : δ
  e : ε
  deriving DecidableEq, Repr
structure T1 (α : Type) where
  a : α
  deriving DecidableEq, Repr
section
variable {α β γ δ ε : Type} [Im G α] [Im G β] [Im G γ] [Im G δ] [Im G ε] {H H' : Hp} {a : Addr} {u1 u2 u3 u4 u5 : V}
instance imT1 : Im G (T1 α) := ⟨fun H v x => ∃ a u1, v = .ref a ∧ H a = some (.tup [u1]) ∧ Im.im G H u1 x.a,
  fun ⟨a, u1, e, h, i1⟩ s => ⟨a, u1, e, s.1 a _ h rfl, Im.st i1 s⟩⟩
instance imT2 : Im G (α × β) := ⟨fun H v x => ∃ a u1 u2, v = .ref a ∧ H a = some (.tup [u1, u2]) ∧ Im.im G H u1 x.1 ∧ Im.im G H u2 x.2,
  fun ⟨a, u1, u2, e, h, i1, i2⟩ s => ⟨a, u1, u2, e, s.1 a _ h rfl, Im.st i1 s, Im.st i2 s⟩⟩
instance imT3 : Im G (T3 α β γ) := ⟨fun H v x => ∃ a u1 u2 u3, v = .ref a ∧ H a = some (.tup [u1, u2, u3]) ∧ Im.im G H u1 x.a ∧ Im.im G H u2 x.b ∧ Im.im G H u3 x.c,
  fun ⟨a, u1, u2, u3, e, h, i1, i2, i3⟩ s => ⟨a, u1, u2, u3, e, s.1 a _ h rfl, Im.st i1 s, Im.st i2 s, Im.st i3 s⟩⟩
instance imT4 : Im G (T4 α β γ δ) := ⟨fun H v x => ∃ a u1 u2 u3 u4, v = .ref a ∧ H a = some (.tup [u1, u2, u3, u4]) ∧ Im.im G H u1 x.a ∧ Im.im G H u2 x.b ∧ Im.im G H u3 x.c ∧ Im.im G H u4 x.d,
  fun ⟨a, u1, u2, u3, u4, e, h, i1, i2, i3, i4⟩ s => ⟨a, u1, u2, u3, u4, e, s.1 a _ h rfl, Im.st i1 s, Im.st i2 s, Im.st i3 s, Im.st i4 s⟩⟩
instance imT5 : Im G (T5 α β γ δ ε) := ⟨fun H v x => ∃ a u1 u2 u3 u4 u5, v = .ref a ∧ H a = some (.tup [u1, u2, u3, u4, u5]) ∧ Im.im G H u1 x.a ∧ Im.im G H u2 x.b ∧ Im.im G H u3 x.c ∧ Im.im G H u4 x.d ∧ Im.im G H u5 x.e,
  fun ⟨a, u1, u2, u3, u4, u5, e, h, i1, i2, i3, i4, i5⟩ s => ⟨a, u1, u2, u3, u4, u5, e, s.1 a _ h rfl, Im.st i1 s, Im.st i2 s, Im.st i3 s, Im.st i4 s, Im.st i5 s⟩⟩
theorem im1 {x : T1 α} (h : Im.im G H (.ref a) x) : ∃ u1, H a = some (.tup [u1]) ∧ Im.im G H u1 x.a := by
  obtain ⟨b, u1, e, h⟩ := h; cases e; exact ⟨u1, h⟩
theorem im2 {x : α × β} (h : Im.im G H (.ref a) x) : ∃ u1 u2, H a = some (.tup [u1, u2]) ∧ Im.im G H u1 x.1 ∧ Im.im G H u2 x.2 := by
  obtain ⟨b, u1, u2, e, h⟩ := h; cases e; exact ⟨u1, u2, h⟩
theorem im3 {x : T3 α β γ} (h : Im.im G H (.ref a) x) : ∃ u1 u2 u3, H a = some (.tup [u1, u2, u3]) ∧ Im.im G H u1 x.a ∧ Im.im G H u2 x.b ∧ Im.im G H u3 x.c := by
  obtain ⟨b, u1, u2, u3, e, h⟩ := h; cases e; exact ⟨u1, u2, u3, h⟩
theorem im4 {x : T4 α β γ δ} (h : Im.im G H (.ref a) x) : ∃ u1 u2 u3 u4, H a = some (.tup [u1, u2, u3, u4]) ∧ Im.im G H u1 x.a ∧ Im.im G H u2 x.b ∧ Im.im G H u3 x.c ∧ Im.im G H u4 x.d := by
  obtain ⟨b, u1, u2, u3, u4, e, h⟩ := h; cases e; exact ⟨u1, u2, u3, u4, h⟩
theorem im5 {x : T5 α β γ δ ε} (h : Im.im G H (.ref a) x) : ∃ u1 u2 u3 u4 u5, H a = some (.tup [u1, u2, u3, u4, u5]) ∧ Im.im G H u1 x.a ∧ Im.im G H u2 x.b ∧ Im.im G H u3 x.c ∧ Im.im G H u4 x.d ∧ Im.im G H u5 x.e := by
  obtain ⟨b, u1, u2, u3, u4, u5, e, h⟩ := h; cases e; exact ⟨u1, u2, u3, u4, u5, h⟩
theorem mk1 {x : T1 α} (i1 : Im.im G H u1 x.a) (h : H' a = some (.tup [u1])) (s : Stab G H H') : Im.im G H' (.ref a) x := ⟨a, u1, rfl, h, Im.st i1 s⟩
theorem mk2 {x : α × β} (i1 : Im.im G H u1 x.1) (i2 : Im.im G H u2 x.2) (h : H' a = some (.tup [u1, u2])) (s : Stab G H H') : Im.im G H' (.ref a) x := ⟨a, u1, u2, rfl, h, Im.st i1 s, Im.st i2 s⟩
theorem mk3 {x : T3 α β γ} (i1 : Im.im G H u1 x.a) (i2 : Im.im G H u2 x.b) (i3 : Im.im G H u3 x.c) (h : H' a = some (.tup [u1, u2, u3])) (s : Stab G H H') : Im.im G H' (.ref a) x := ⟨a, u1, u2, u3, rfl, h, Im.st i1 s, Im.st i2 s, Im.st i3 s⟩
theorem mk4 {x : T4 α β γ δ} (i1 : Im.im G H u1 x.a) (i2 : Im.im G H u2 x.b) (i3 : Im.im G H u3 x.c) (i4 : Im.im G H u4 x.d) (h : H' a = some (.tup [u1, u2, u3, u4])) (s : Stab G H H') : Im.im G H' (.ref a) x := ⟨a, u1, u2, u3, u4, rfl, h, Im.st i1 s, Im.st i2 s, Im.st i3 s, Im.st i4 s⟩
theorem mk5 {x : T5 α β γ δ ε} (i1 : Im.im G H u1 x.a) (i2 : Im.im G H u2 x.b) (i3 : Im.im G H u3 x.c) (i4 : Im.im G H u4 x.d) (i5 : Im.im G H u5 x.e) (h : H' a = some (.tup [u1, u2, u3, u4, u5])) (s : Stab G H H') : Im.im G H' (.ref a) x :=
  ⟨a, u1, u2, u3, u4, u5, rfl, h, Im.st i1 s, Im.st i2 s, Im.st i3 s, Im.st i4 s, Im.st i5 s⟩
end
class IsRef (G : Gx) (α : Type) [Im G α] : Prop where
  isref : ∀ {H : Hp} {v : V} {x : α}, Im.im G H v x → ∃ a, v = .ref a
theorem isref {α : Type} [Im G α] [IsRef G α] {H : Hp} {v : V} {x : α} (h : Im.im G H v x) : ∃ a, v = .ref a := IsRef.isref h
section
variable {α β γ δ ε : Type} [Im G α] [Im G β] [Im G γ] [Im G δ] [Im G ε]
instance : IsRef G (List α) := ⟨fun h => by obtain ⟨a, _, e, _⟩ := h; exact ⟨a, e⟩⟩
instance : IsRef G (T1 α) := ⟨fun h => by obtain ⟨a, _, e, _⟩ := h; exact ⟨a, e⟩⟩
instance : IsRef G (α × β) := ⟨fun h => by obtain ⟨a, _, _, e, _⟩ := h; exact ⟨a, e⟩⟩
instance : IsRef G (T3 α β γ) := ⟨fun h => by obtain ⟨a, _, _, _, e, _⟩ := h; exact ⟨a, e⟩⟩
instance : IsRef G (T4 α β γ δ) := ⟨fun h => by obtain ⟨a, _, _, _, _, e, _⟩ := h; exact ⟨a, e⟩⟩
instance : IsRef G (T5 α β γ δ ε) := ⟨fun h => by obtain ⟨a, _, _, _, _, _, e, _⟩ := h; exact ⟨a, e⟩⟩
end
section
variable {σ σ' : St} {H : Hp} {L : List (Asn G)} {D : Ends} {Q : VK} {te ta tb : TE} {α : Type} {K : PySem.W.Frag} {v : V}
/-- a tuple is laid -/
theorem k_tupP [Im G α] {vs : List V} {x : α} (hS : Sep H L) (mk : ∀ (H' : Hp) (p : Addr), H' p = some (.tup vs) → Stab G H H' → Im.im G H' (.ref p) x) (hl : vs.length ≤ sizeLine)
    (k : ∀ p H', Sep H' (imA (.ref p) x :: L) → Q (.ref p) H') : tupK Q vs H :=
  ⟨hl, fun p hp => k p _ ((hS.more (same_new hp)).addIm (mk _ p upd_same (.of_same (same_new hp))))⟩
theorem sqT_of {a : Addr} {us : List V} (h : H a = some (.tup us)) : SqT K H a us := SqT.of h
theorem ev_ixT {a : Addr} {i : Int} {us : List V} (ha : Ev ta σ H (.ref a)) (hb : Ev tb σ H (.int i)) (h : H a = some (.tup us)) (e : atI us i = some v) : Ev (tOp (rIxT K) ta tb) σ H v :=
  ev_op ha hb fun _ q => ⟨a, us, i, v, rfl, rfl, SqT.of h, e, q⟩
theorem r_ixT {a : Addr} {i : Int} {us : List V} (h : H a = some (.tup us)) (e : atI us i = some v) (q : Q v H) : rIxT K (.ref a) (.int i) H Q := ⟨a, us, i, v, rfl, rfl, SqT.of h, e, q⟩
/-- a field -/
theorem ev_fld {a C dx : Addr} {fs : List (Str × V)} {f : Str} (ha : Ev ta σ H (.ref a)) (h : H a = some (.ins C dx fs)) (c : Cls K C) (n : NoAttr K C f) (l : fs.lookup f = some v) : Ev (tFld K ta f) σ H v :=
  fun _ q => ha _ ⟨a, C, dx, fs, v, rfl, h, c, n, l, q⟩
end
end Ml

namespace Ml
open PySem L2
/-! ### things of any sort -/
inductive Any where
  | str (s : Str) | int (i : Int) | bl (b : Bool) | non | tup (xs : List Any) | lst (xs : List Any) | oth (k : Nat)
section
variable (G : Gx)
mutual
def imAny (H : Hp) : V → Any → Prop
  | v, .str s => v = .str s
  | v, .int i => v = .int i
  | v, .bl b => v = .bl b
  | v, .non => v = .non
  | v, .tup xs => ∃ a vs, v = .ref a ∧ H a = some (.tup vs) ∧ imAnyL H vs xs
  | v, .lst xs => ∃ a vs, v = .ref a ∧ (∃ o, H a = some (.frz o (.lst vs))) ∧ imAnyL H vs xs
  | v, .oth k => ∃ a o, v = .ref a ∧ H a = some o ∧ kindOf o = k ∧ (k = 0 ∨ k = 1)
def imAnyL (H : Hp) : List V → List Any → Prop
  | [], [] => True
  | v :: vs, x :: xs => imAny H v x ∧ imAnyL H vs xs
  | _, _ => False
end
variable {G} {H H' : Hp}
mutual
theorem imAny.st : ∀ {v : V} {x : Any}, imAny H v x → Stab G H H' → imAny H' v x
  | v, .str s, h, _ => by rw [imAny] at h ⊢; exact h
  | v, .int i, h, _ => by rw [imAny] at h ⊢; exact h
  | v, .bl b, h, _ => by rw [imAny] at h ⊢; exact h
  | v, .non, h, _ => by rw [imAny] at h ⊢; exact h
  | v, .tup xs, h, s => by
    rw [imAny] at h ⊢
    obtain ⟨a, vs, e, g, m⟩ := h
    exact ⟨a, vs, e, s.1 a _ g rfl, imAnyL.st m s⟩
  | v, .lst xs, h, s => by
    rw [imAny] at h ⊢
    obtain ⟨a, vs, e, ⟨o, g⟩, m⟩ := h
    exact ⟨a, vs, e, ⟨o, s.1 a _ g rfl⟩, imAnyL.st m s⟩
  | v, .oth k, h, s => by
    rw [imAny] at h ⊢
    obtain ⟨a, o, e, g, q, z⟩ := h
    obtain ⟨o', g', q'⟩ := s.2 a o g
    exact ⟨a, o', e, g', q'.trans q, z⟩
theorem imAnyL.st : ∀ {vs : List V} {xs : List Any}, imAnyL H vs xs → Stab G H H' → imAnyL H' vs xs
  | [], [], h, _ => h
  | v :: vs, x :: xs, h, s => by
    rw [imAnyL] at h ⊢
    exact ⟨imAny.st h.1 s, imAnyL.st h.2 s⟩
  | [], _ :: _, h, _ => by rw [imAnyL] at h; exact h.elim; all_goals simp
  | _ :: _, [], h, _ => by rw [imAnyL] at h; exact h.elim; all_goals simp
end
instance imAnyI : Im G Any := ⟨fun H v x => imAny H v x, fun h s => imAny.st h s⟩
end
variable {G : Gx} {H : Hp} {L : List (Asn G)}
theorem any_str {v : V} {s : Str} : Im.im G H v (Any.str s) ↔ v = .str s := by show imAny H v (.str s) ↔ _; rw [imAny]
theorem any_int {v : V} {s : Int} : Im.im G H v (Any.int s) ↔ v = .int s := by show imAny H v (.int s) ↔ _; rw [imAny]
theorem any_bl {v : V} {s : Bool} : Im.im G H v (Any.bl s) ↔ v = .bl s := by show imAny H v (.bl s) ↔ _; rw [imAny]
theorem any_non {v : V} : Im.im G H v Any.non ↔ v = .non := by show imAny H v .non ↔ _; rw [imAny]
theorem imAnyL_eq : ∀ {vs : List V} {xs : List Any}, imAnyL H vs xs ↔ imL (G := G) H vs xs
  | [], [] => by rw [imAnyL]; exact Iff.rfl
  | v :: vs, x :: xs => by
    rw [imAnyL]
    exact and_congr_right fun _ => imAnyL_eq (vs := vs) (xs := xs)
  | [], _ :: _ => ⟨fun h => by rw [imAnyL] at h; exact h.elim; all_goals simp, fun h => h.elim⟩
  | _ :: _, [] => ⟨fun h => by rw [imAnyL] at h; exact h.elim; all_goals simp, fun h => h.elim⟩
theorem any_tup {v : V} {xs : List Any} : Im.im G H v (Any.tup xs) ↔ ∃ a vs, v = .ref a ∧ H a = some (.tup vs) ∧ imL (G := G) H vs xs := by
  show imAny H v (.tup xs) ↔ _
  rw [imAny]
  exact exists_congr fun a => exists_congr fun vs => and_congr_right fun _ => and_congr_right fun _ => imAnyL_eq
theorem any_lsts {v : V} {xs : List Any} : Im.im G H v (Any.lst xs) ↔ ∃ a vs, v = .ref a ∧ (∃ o, H a = some (.frz o (.lst vs))) ∧ imL (G := G) H vs xs := by
  show imAny H v (.lst xs) ↔ _
  rw [imAny]
  exact exists_congr fun a => exists_congr fun vs => and_congr_right fun _ => and_congr_right fun _ => imAnyL_eq
theorem any_oth {v : V} {k : Nat} : Im.im G H v (Any.oth k) ↔ ∃ a o, v = .ref a ∧ H a = some o ∧ kindOf o = k ∧ (k = 0 ∨ k = 1) := by
  show imAny H v (.oth k) ↔ _
  rw [imAny]
def Any.ty : Any → String
  | .str _ => "str"
  | .int _ => "int"
  | .bl _ => "bool"
  | .non => "NoneType"
  | .tup _ => "tuple"
  | .lst _ => "list"
  | .oth 0 => "list"
  | .oth _ => "dict"
theorem ty_of_kind {K : PySem.W.Frag} {a : Addr} {o : HO} {k : Nat} (h : H a = some o) (e : kindOf o = k) (z : k = 0 ∨ k = 1) : TyX K H (.ref a) (.type (Any.oth k).ty) := by
  rcases z with rfl | rfl
  · cases o with
    | lst xs => exact .base (.lst h)
    | frz o x => cases x with
      | lst xs => exact .base (.frz h)
      | _ => cases e
    | _ => cases e
  · cases o with
    | dK xs => exact .base (.dK h)
    | dT xs => exact .base (.dT h)
    | frz o x => cases x with
      | lst xs => cases e
      | _ => cases e
    | _ => cases e
theorem ty_any {v : V} {x : Any} (h : Im.im G H v x) : TyX G.K H v (.type x.ty) := by
  cases x with
  | str s => rw [any_str] at h; subst h; exact .base (.str s)
  | int s => rw [any_int] at h; subst h; exact .base (.int s)
  | bl s => rw [any_bl] at h; subst h; exact .base (.bl s)
  | non => rw [any_non] at h; subst h; exact .base .non
  | tup xs => rw [any_tup] at h; obtain ⟨a, vs, rfl, g, _⟩ := h; exact .base (.tup g)
  | lst xs => rw [any_lsts] at h; obtain ⟨a, vs, rfl, ⟨o, g⟩, _⟩ := h; exact .base (.frz g)
  | oth k => rw [any_oth] at h; obtain ⟨a, o, rfl, g, q, z⟩ := h; exact ty_of_kind g q z
/-- isinstance of a plain type -/
def Any.is (x : Any) (t : String) : Bool := x.ty == t || (x.ty == "bool" && t == "int")
theorem any_kit (x : Any) (t : String) (ht : t ∈ ["str", "int", "bool", "tuple", "list", "dict"]) : kitB x.ty t = some (x.is t) := by
  have : ∀ u, u ∈ ["str", "int", "bool", "tuple", "list", "dict", "NoneType"] → ∀ t, t ∈ ["str", "int", "bool", "tuple", "list", "dict"] → kitB u t = some (u == t || (u == "bool" && t == "int")) := by decide +kernel
  refine this _ ?_ t ht
  unfold Any.ty
  split <;> decide
theorem ev_isAny {σ : St} {ta tb : TE} {v : V} {x : Any} {t : String} (ha : Ev ta σ H v) (hb : Ev tb σ H (.ty t)) (h : Im.im G H v x) (ht : t ∈ ["str", "int", "bool", "tuple", "list", "dict"]) : Ev (tCB (rIsi G.K) (tCons ta (tCons tb tNil))) σ H (.bl (x.is t)) :=
  ev_isi ha hb (ty_any h) (any_kit x t ht)
end Ml
namespace Ml
open PySem L2
variable {G : Gx} {H : Hp} {L : List (Asn G)} {ρ : Type} {q : ρ → Prop} {e : Exc → Prop} {Q : VK} {σ : St}
def Any.asStr : Any → R Str
  | .str s => .ok s
  | _ => .bad
def Any.asInt : Any → R Int
  | .int s => .ok s
  | _ => .bad
def Any.asBl : Any → R Bool
  | .bl s => .ok s
  | _ => .bad
def Any.asTup : Any → R (List Any)
  | .tup s => .ok s
  | _ => .bad
theorem wp_asStr {x : Any} {f : Str → R ρ} (h : R.wp (x.asStr.bind f) q e) : ∃ s, x = .str s ∧ R.wp (f s) q e := by
  cases x with
  | str s => exact ⟨s, rfl, h⟩
  | _ => exact h.elim
theorem wp_asInt {x : Any} {f : Int → R ρ} (h : R.wp (x.asInt.bind f) q e) : ∃ s, x = .int s ∧ R.wp (f s) q e := by
  cases x with
  | int s => exact ⟨s, rfl, h⟩
  | _ => exact h.elim
theorem wp_asBl {x : Any} {f : Bool → R ρ} (h : R.wp (x.asBl.bind f) q e) : ∃ s, x = .bl s ∧ R.wp (f s) q e := by
  cases x with
  | bl s => exact ⟨s, rfl, h⟩
  | _ => exact h.elim
theorem wp_asTup {x : Any} {f : List Any → R ρ} (h : R.wp (x.asTup.bind f) q e) : ∃ s, x = .tup s ∧ R.wp (f s) q e := by
  cases x with
  | tup s => exact ⟨s, rfl, h⟩
  | _ => exact h.elim
theorem v_str {v : V} {x : Any} {s : Str} (h : Im.im G H v x) (e : x = .str s) : v = .str s := any_str.mp (e ▸ h)
theorem v_int {v : V} {x : Any} {s : Int} (h : Im.im G H v x) (e : x = .int s) : v = .int s := any_int.mp (e ▸ h)
theorem v_bl {v : V} {x : Any} {s : Bool} (h : Im.im G H v x) (e : x = .bl s) : v = .bl s := any_bl.mp (e ▸ h)
theorem any_lst {α : Type} [Im G α] {i : Nat} {a : Addr} {xs : List α} (hS : Sep H L) (e : L[i]? = some (lstA a xs)) : Im.im G H (.ref a) (Any.oth 0) := by
  obtain ⟨vs, h, _⟩ := hS.lst e
  exact any_oth.mpr ⟨a, _, rfl, h, rfl, .inl rfl⟩
theorem any_dict {κ β : Type} [DecidableEq κ] [Kx κ] [Im G β] {i : Nat} {a : Addr} {xs : List (κ × β)} (hS : Sep H L) (e : L[i]? = some (dictA a xs)) : Im.im G H (.ref a) (Any.oth 1) := by
  obtain ⟨vs, h, _⟩ := hS.dict e
  exact any_oth.mpr ⟨a, _, rfl, h, rfl, .inr rfl⟩
/-- a tuple, of things of any sort -/
theorem k_tupA {vs : List V} {xs : List Any} (hS : Sep H L) (m : imL (G := G) H vs xs) (hl : vs.length ≤ sizeLine) (k : ∀ p H', Sep H' (imA (.ref p) (Any.tup xs) :: L) → Q (.ref p) H') :
    tupK Q vs H :=
  ⟨hl, fun p hp => k p _ ((hS.more (same_new hp)).addIm (any_tup.mpr ⟨p, vs, rfl, upd_same, m.st (.of_same (same_new hp))⟩))⟩
/-- an item, of a list of things that stay -/
theorem k_ixL {α : Type} [Im G α] {n : Nat} {a : Addr} {xs : List α} {i : Int} {x : α} (hS : Sep H L) (e : L[n]? = some (lstA a xs)) (h : atI xs i = some x) (k : ∀ v, Sep H (imA v x :: L) → Q v H) : rIxL G.K (.ref a) (.int i) H Q := by
  obtain ⟨vs, hp, m⟩ := hS.lst e
  obtain ⟨v, hv, hi⟩ := atI_im m h
  exact ⟨a, vs, i, v, rfl, rfl, .inl (.inl hp), hv, k v (hS.addIm hi)⟩
end Ml


namespace Ml
open PySem L2
variable {G : Gx}
/-! ### data as it is compared: lists and tuples of such -/
section
variable {α β γ δ ε : Type} [Lay α] [Lay β] [Lay γ] [Lay δ] [Lay ε]
instance layList : Lay (List α) := ⟨layAllB⟩
instance layT1 : Lay (T1 α) := ⟨fun x => Lay.lay x.a⟩
instance layT2 : Lay (α × β) := ⟨fun x => Lay.lay x.1 && Lay.lay x.2⟩
instance layT3 : Lay (T3 α β γ) := ⟨fun x => Lay.lay x.a && (Lay.lay x.b && Lay.lay x.c)⟩
instance layT4 : Lay (T4 α β γ δ) := ⟨fun x => Lay.lay x.a && (Lay.lay x.b && (Lay.lay x.c && Lay.lay x.d))⟩
instance layT5 : Lay (T5 α β γ δ ε) := ⟨fun x => Lay.lay x.a && (Lay.lay x.b && (Lay.lay x.c && (Lay.lay x.d && Lay.lay x.e)))⟩
end
section
variable {α β γ δ ε : Type} [Im G α] [DecidableEq α] [Lay α] [Pd G α] [Im G β] [DecidableEq β] [Lay β] [Pd G β] [Im G γ] [DecidableEq γ] [Lay γ] [Pd G γ] [Im G δ] [DecidableEq δ] [Lay δ] [Pd G δ] [Im G ε] [DecidableEq ε] [Lay ε] [Pd G ε]
instance pdList : Pd G (List α) where
  pd := fun xs => .list (xs.map (Pd.pd G))
  dep := Pd.dep G α + 1
  dp := fun {H v x} h => by
    obtain ⟨a, vs, rfl, ⟨o, g⟩, m⟩ := h
    exact .lst (.inl (.inr ⟨o, g⟩)) (dpAll m)
  lay_ok := fun x h => layAll (G := G) h
  dep_ok := fun x => Nat.succ_le_succ (depAll (G := G) x)
  eqv := fun x y => eqvAll_is x y
theorem canTup (ds : List PyData) : (PyData.tuple ds).canLay0 = PyData.canLayAll0 ds := rfl
theorem canCons (d : PyData) (ds : List PyData) : PyData.canLayAll0 (d :: ds) = (d.canLay0 && PyData.canLayAll0 ds) := rfl
theorem canNil : PyData.canLayAll0 [] = true := rfl
theorem depTup (ds : List PyData) : (PyData.tuple ds).depth = PyData.depthAll ds + 1 := rfl
theorem depCons (d : PyData) (ds : List PyData) : PyData.depthAll (d :: ds) = max d.depth (PyData.depthAll ds) := rfl
theorem depNil : PyData.depthAll [] = 0 := rfl
theorem eqvTup (ds es : List PyData) : PyData.eqv (.tuple ds) (.tuple es) = PyData.eqvAll ds es := rfl
theorem eqvCons (d e : PyData) (ds es : List PyData) : PyData.eqvAll (d :: ds) (e :: es) = (PyData.eqv d e && PyData.eqvAll ds es) := rfl
theorem eqvNil : PyData.eqvAll [] [] = true := rfl
instance pdT1 : Pd G (T1 α) where
  pd := fun x => .tuple [Pd.pd G x.a]
  dep := Pd.dep G α + 1
  dp := fun {H v x} h => by
    obtain ⟨a, u1, rfl, g, i1⟩ := h
    exact .tup (SqT.of g) (.cons (Pd.dp i1) .nil)
  lay_ok := fun x h => by rw [canTup, canCons, Pd.lay_ok x.a h]; rfl
  dep_ok := fun x => by
    rw [depTup, depCons, depNil]
    have := Pd.dep_ok (G := G) x.a
    omega
  eqv := fun x y => by
    rw [eqvTup, eqvCons, eqvNil, Pd.eqv]
    obtain ⟨a⟩ := x; obtain ⟨b⟩ := y
    simp
instance pdT2 : Pd G (α × β) where
  pd := fun x => .tuple [Pd.pd G x.1, Pd.pd G x.2]
  dep := max (Pd.dep G α) (Pd.dep G β) + 1
  dp := fun {H v x} h => by
    obtain ⟨a, u1, u2, rfl, g, i1, i2⟩ := h
    exact .tup (SqT.of g) (.cons (Pd.dp i1) (.cons (Pd.dp i2) .nil))
  lay_ok := fun x h => by
    have h : (Lay.lay x.1 && Lay.lay x.2) = true := h
    rw [Bool.and_eq_true] at h
    rw [canTup, canCons, canCons, Pd.lay_ok x.1 h.1, Pd.lay_ok x.2 h.2]; rfl
  dep_ok := fun x => by
    rw [depTup, depCons, depCons, depNil]
    have := Pd.dep_ok (G := G) x.1
    have := Pd.dep_ok (G := G) x.2
    omega
  eqv := fun x y => by
    rw [eqvTup, eqvCons, eqvCons, eqvNil, Pd.eqv, Pd.eqv]
    obtain ⟨a, b⟩ := x; obtain ⟨c, d⟩ := y
    simp
instance pdT3 : Pd G (T3 α β γ) where
  pd := fun x => .tuple [Pd.pd G x.a, Pd.pd G x.b, Pd.pd G x.c]
  dep := max (Pd.dep G α) (max (Pd.dep G β) (Pd.dep G γ)) + 1
  dp := fun {H v x} h => by
    obtain ⟨a, u1, u2, u3, rfl, g, i1, i2, i3⟩ := h
    exact .tup (SqT.of g) (.cons (Pd.dp i1) (.cons (Pd.dp i2) (.cons (Pd.dp i3) .nil)))
  lay_ok := fun x h => by
    have h : (Lay.lay x.a && (Lay.lay x.b && Lay.lay x.c)) = true := h
    simp only [Bool.and_eq_true] at h
    rw [canTup, canCons, canCons, canCons, Pd.lay_ok x.a h.1, Pd.lay_ok x.b h.2.1, Pd.lay_ok x.c h.2.2]; rfl
  dep_ok := fun x => by
    rw [depTup, depCons, depCons, depCons, depNil]
    have := Pd.dep_ok (G := G) x.a
    have := Pd.dep_ok (G := G) x.b
    have := Pd.dep_ok (G := G) x.c
    omega
  eqv := fun x y => by
    rw [eqvTup, eqvCons, eqvCons, eqvCons, eqvNil, Pd.eqv, Pd.eqv, Pd.eqv]
    obtain ⟨a, b, c⟩ := x; obtain ⟨d, e, f⟩ := y
    simp
instance pdT4 : Pd G (T4 α β γ δ) where
  pd := fun x => .tuple [Pd.pd G x.a, Pd.pd G x.b, Pd.pd G x.c, Pd.pd G x.d]
  dep := max (Pd.dep G α) (max (Pd.dep G β) (max (Pd.dep G γ) (Pd.dep G δ))) + 1
  dp := fun {H v x} h => by
    obtain ⟨a, u1, u2, u3, u4, rfl, g, i1, i2, i3, i4⟩ := h
    exact .tup (SqT.of g) (.cons (Pd.dp i1) (.cons (Pd.dp i2) (.cons (Pd.dp i3) (.cons (Pd.dp i4) .nil))))
  lay_ok := fun x h => by
    have h : (Lay.lay x.a && (Lay.lay x.b && (Lay.lay x.c && Lay.lay x.d))) = true := h
    simp only [Bool.and_eq_true] at h
    rw [canTup, canCons, canCons, canCons, canCons, Pd.lay_ok x.a h.1, Pd.lay_ok x.b h.2.1, Pd.lay_ok x.c h.2.2.1, Pd.lay_ok x.d h.2.2.2]; rfl
  dep_ok := fun x => by
    rw [depTup, depCons, depCons, depCons, depCons, depNil]
    have := Pd.dep_ok (G := G) x.a
    have := Pd.dep_ok (G := G) x.b
    have := Pd.dep_ok (G := G) x.c
    have := Pd.dep_ok (G := G) x.d
    omega
  eqv := fun x y => by
    rw [eqvTup, eqvCons, eqvCons, eqvCons, eqvCons, eqvNil, Pd.eqv, Pd.eqv, Pd.eqv, Pd.eqv]
    obtain ⟨a, b, c, d⟩ := x; obtain ⟨a', b', c', d'⟩ := y
    simp
instance pdT5 : Pd G (T5 α β γ δ ε) where
  pd := fun x => .tuple [Pd.pd G x.a, Pd.pd G x.b, Pd.pd G x.c, Pd.pd G x.d, Pd.pd G x.e]
  dep := max (Pd.dep G α) (max (Pd.dep G β) (max (Pd.dep G γ) (max (Pd.dep G δ) (Pd.dep G ε)))) + 1
  dp := fun {H v x} h => by
    obtain ⟨a, u1, u2, u3, u4, u5, rfl, g, i1, i2, i3, i4, i5⟩ := h
    exact .tup (SqT.of g) (.cons (Pd.dp i1) (.cons (Pd.dp i2) (.cons (Pd.dp i3) (.cons (Pd.dp i4) (.cons (Pd.dp i5) .nil)))))
  lay_ok := fun x h => by
    have h : (Lay.lay x.a && (Lay.lay x.b && (Lay.lay x.c && (Lay.lay x.d && Lay.lay x.e)))) = true := h
    simp only [Bool.and_eq_true] at h
    rw [canTup, canCons, canCons, canCons, canCons, canCons, Pd.lay_ok x.a h.1, Pd.lay_ok x.b h.2.1, Pd.lay_ok x.c h.2.2.1, Pd.lay_ok x.d h.2.2.2.1, Pd.lay_ok x.e h.2.2.2.2]; rfl
  dep_ok := fun x => by
    rw [depTup, depCons, depCons, depCons, depCons, depCons, depNil]
    have := Pd.dep_ok (G := G) x.a
    have := Pd.dep_ok (G := G) x.b
    have := Pd.dep_ok (G := G) x.c
    have := Pd.dep_ok (G := G) x.d
    have := Pd.dep_ok (G := G) x.e
    omega
  eqv := fun x y => by
    rw [eqvTup, eqvCons, eqvCons, eqvCons, eqvCons, eqvCons, eqvNil, Pd.eqv, Pd.eqv, Pd.eqv, Pd.eqv, Pd.eqv]
    obtain ⟨a, b, c, d, e⟩ := x; obtain ⟨a', b', c', d', e'⟩ := y
    simp
end
section
variable {α : Type} [Im G α] [DecidableEq α] [Lay α] [Pd G α] {H : Hp} {L : List (Asn G)} {σ : St} {ta tb : TE} {Q : VK} {v w : V} {x y : α}
theorem shapedP (h : Lay.lay x = true) (d : Pd.dep G α ≤ 64) : SeqAt.shaped (Pd.pd G x) = true := by
  unfold SeqAt.shaped
  rw [Pd.lay_ok x h, decide_eq_true (Nat.le_trans (Pd.dep_ok x) d)]; rfl
/-- the data of a list that one owns -/
theorem dpOwn {i : Nat} {a : Addr} {xs : List α} (hS : Sep H L) (e : L[i]? = some (lstA a xs)) : Dp G.K H (.ref a) (Pd.pd G xs) := by
  obtain ⟨vs, s, m⟩ := hS.sq e
  exact .lst s (dpAll m)
theorem dpRaw {a : Addr} {vs : List V} {xs : List α} (h : H a = some (.lst vs)) (m : DpAll G.K H vs (xs.map (Pd.pd G))) : Dp G.K H (.ref a) (Pd.pd G xs) := .lst (.inl (.inl h)) m
theorem ev_eqP (ha : Ev ta σ H v) (hb : Ev tb σ H w) (d1 : Dp G.K H v (Pd.pd G x)) (d2 : Dp G.K H w (Pd.pd G y)) (l1 : Lay.lay x = true) (l2 : Lay.lay y = true) (d : Pd.dep G α ≤ 64) :
    Ev (tOp (rEqD G.K) ta tb) σ H (.bl (decide (x = y))) := ev_op ha hb fun Q q => by
  refine ⟨_, _, d1, d2, shapedP l1 d, shapedP l2 d, ?_⟩
  rw [Pd.eqv]; exact q
theorem ev_neP (ha : Ev ta σ H v) (hb : Ev tb σ H w) (d1 : Dp G.K H v (Pd.pd G x)) (d2 : Dp G.K H w (Pd.pd G y)) (l1 : Lay.lay x = true) (l2 : Lay.lay y = true) (d : Pd.dep G α ≤ 64) :
    Ev (tOp (rNeD G.K) ta tb) σ H (.bl (!decide (x = y))) := ev_op ha hb fun Q q => by
  refine ⟨_, _, d1, d2, shapedP l1 d, shapedP l2 d, ?_⟩
  rw [Pd.eqv]; exact q
theorem r_eqP (d1 : Dp G.K H v (Pd.pd G x)) (d2 : Dp G.K H w (Pd.pd G y)) (l1 : Lay.lay x = true) (l2 : Lay.lay y = true) (d : Pd.dep G α ≤ 64) (q : Q (.bl (decide (x = y))) H) : rEqD G.K v w H Q :=
  ev_eqP (σ := []) (ta := tC v) (tb := tC w) ev_c ev_c d1 d2 l1 l2 d Q q
theorem r_neP (d1 : Dp G.K H v (Pd.pd G x)) (d2 : Dp G.K H w (Pd.pd G y)) (l1 : Lay.lay x = true) (l2 : Lay.lay y = true) (d : Pd.dep G α ≤ 64) (q : Q (.bl (!decide (x = y))) H) : rNeD G.K v w H Q :=
  ev_neP (σ := []) (ta := tC v) (tb := tC w) ev_c ev_c d1 d2 l1 l2 d Q q
end
/-! ### things of any sort, compared -/
mutual
def pdA : Any → PyData
  | .str s => .str s
  | .int i => .int i
  | .bl b => .bool b
  | .non => .none
  | .tup xs => .tuple (pdAL xs)
  | .lst xs => .list (pdAL xs)
  | .oth _ => .none
def pdAL : List Any → List PyData
  | [] => []
  | x :: xs => pdA x :: pdAL xs
end
mutual
def plA : Any → Bool
  | .tup xs => plAL xs
  | .lst xs => plAL xs
  | .oth _ => false
  | _ => true
def plAL : List Any → Bool
  | [] => true
  | x :: xs => plA x && plAL xs
end
section
variable {H : Hp}
mutual
theorem dpA : ∀ {v : V} {x : Any}, imAny H v x → plA x = true → Dp G.K H v (pdA x)
  | v, .str s, h, _ => by rw [imAny] at h; subst h; rw [pdA]; exact .str s
  | v, .int s, h, _ => by rw [imAny] at h; subst h; rw [pdA]; exact .int s
  | v, .bl s, h, _ => by rw [imAny] at h; subst h; rw [pdA]; exact .bl s
  | v, .non, h, _ => by rw [imAny] at h; subst h; rw [pdA]; exact .non
  | v, .tup xs, h, l => by
    rw [imAny] at h; rw [plA] at l; rw [pdA]
    obtain ⟨a, vs, rfl, g, m⟩ := h
    exact .tup (SqT.of g) (dpAL m l)
  | v, .lst xs, h, l => by
    rw [imAny] at h; rw [plA] at l; rw [pdA]
    obtain ⟨a, vs, rfl, ⟨o, g⟩, m⟩ := h
    exact .lst (.inl (.inr ⟨o, g⟩)) (dpAL m l)
  | v, .oth k, h, l => by rw [plA] at l; cases l
theorem dpAL : ∀ {vs : List V} {xs : List Any}, imAnyL H vs xs → plAL xs = true → DpAll G.K H vs (pdAL xs)
  | [], [], h, _ => by rw [pdAL]; exact .nil
  | v :: vs, x :: xs, h, l => by
    rw [imAnyL] at h; rw [plAL, Bool.and_eq_true] at l; rw [pdAL]
    exact .cons (dpA h.1 l.1) (dpAL h.2 l.2)
  | [], _ :: _, h, _ => by rw [imAnyL] at h; exact h.elim; all_goals simp
  | _ :: _, [], h, _ => by rw [imAnyL] at h; exact h.elim; all_goals simp
end
end
/-- x == y of things of any sort -/
def eqA (x y : Any) : R Bool := R.need (plA x = true ∧ plA y = true ∧ SeqAt.shaped (pdA x) = true ∧ SeqAt.shaped (pdA y) = true) (.ok (PyData.eqv (pdA x) (pdA y)))
section
variable {H : Hp} {σ : St} {ta tb : TE} {Q : VK} {v w : V} {x y : Any} {ρ : Type} {q : ρ → Prop} {e : Exc → Prop}
theorem wp_eqA {f : Bool → R ρ} (h : R.wp ((eqA x y).bind f) q e) : ∃ b, (plA x = true ∧ plA y = true ∧ SeqAt.shaped (pdA x) = true ∧ SeqAt.shaped (pdA y) = true ∧ b = PyData.eqv (pdA x) (pdA y)) ∧ R.wp (f b) q e := by
  unfold eqA R.need at h
  by_cases c : plA x = true ∧ plA y = true ∧ SeqAt.shaped (pdA x) = true ∧ SeqAt.shaped (pdA y) = true
  · rw [if_pos c] at h; exact ⟨_, ⟨c.1, c.2.1, c.2.2.1, c.2.2.2, rfl⟩, h⟩
  · rw [if_neg c] at h; exact h.elim
theorem ev_eqA {b : Bool} (ha : Ev ta σ H v) (hb : Ev tb σ H w) (i1 : Im.im G H v x) (i2 : Im.im G H w y) (h : plA x = true ∧ plA y = true ∧ SeqAt.shaped (pdA x) = true ∧ SeqAt.shaped (pdA y) = true ∧ b = PyData.eqv (pdA x) (pdA y)) :
    Ev (tOp (rEqD G.K) ta tb) σ H (.bl b) := ev_op ha hb fun Q q => by
  obtain ⟨h1, h2, h3, h4, rfl⟩ := h
  exact ⟨_, _, dpA i1 h1, dpA i2 h2, h3, h4, q⟩
theorem ev_neA {b : Bool} (ha : Ev ta σ H v) (hb : Ev tb σ H w) (i1 : Im.im G H v x) (i2 : Im.im G H w y) (h : plA x = true ∧ plA y = true ∧ SeqAt.shaped (pdA x) = true ∧ SeqAt.shaped (pdA y) = true ∧ b = PyData.eqv (pdA x) (pdA y)) :
    Ev (tOp (rNeD G.K) ta tb) σ H (.bl (!b)) := ev_op ha hb fun Q q => by
  obtain ⟨h1, h2, h3, h4, rfl⟩ := h
  exact ⟨_, _, dpA i1 h1, dpA i2 h2, h3, h4, q⟩
end
end Ml

/-! ### calls whose exceptions are wished for at the caller's slots: methods, instances -/
namespace L2
open PySem PySem.Spec PyProof.Rows
section
variable {X : Cx} {CX : CXT} {k : Nat} {f C : Addr} {fd : FuncData} {ps : List Str} {sp : Sp} {dvs : List V} {ds : List Value} {E : St → XK} {x m : Str} {p pos apos : Pos} {e o : Expr} {es : List Expr} {ta : TE} {t : TA}
def tMethSD (C : Addr) (m : Str) (sp : Sp) (dvs : List V) (E : St → XK) (ta : TE) (t : TA) : TE := fun σ H Q => ta σ H fun x H1 => ∃ a dx fs, x = .ref a ∧ H1 a = some (.ins C dx fs) ∧ fs.lookup m = none ∧
  t σ H1 fun vs H2 => sp (x :: (vs ++ dvs)) H2 Q (E σ)
def tMakeSD (C : Addr) (sp : Sp) (dvs : List V) (E : St → XK) (t : TA) : TE := fun σ H Q => t σ H fun vs H1 => ∀ x dx, H1 x = none → H1 dx = none → dx ≠ x →
  sp (.ref x :: (vs ++ dvs)) (upd (upd H1 dx (.own x)) x (.ins C dx [])) (fun v H2 => v = .non ∧ Q (.ref x) H2) (E σ)
theorem pe_call0SD (F : FnOk X.prog X.w X.K X.mg X.base CX k f fd ps sp) (hr : Room k X.A) (hg : Gl X x) (hm : X.mg x = some (.ref f)) (hk : PySem.W.keepIn X.K (.ref f) = true) (hb : Binds X.K fd ps ds) (hd : Vals dvs ds) (hx : ∀ σ, PassesAt CX X σ (E σ))
    (hdb : (x == ("__debug__" : Str)) = false := by decide) : PE X (.Call (.Name x p) [] [] pos) (tCallSD sp dvs E tNil) := by
  refine ⟨fun pins s σ H Q I h => ?_⟩
  refine wpAny_Call_Name_kw (ld_glob I hg hm ?_ hdb)
  exact PySem.W.callWith_K0 I.kIn hk (run_fnSD (us := []) F hr hb hd (hx σ) I .nil h)
theorem pe_methSD {pl : Sem Bool} (he : PE X o ta) (c : Cls X.K C) (hm : Meth X.K C m f) (F : FnOk X.prog X.w X.K X.mg X.base CX k f fd ps sp) (hr : Room k X.A) (hb : Binds X.K fd ps ds) (hd : Vals dvs ds) (hx : ∀ σ, PassesAt CX X σ (E σ)) (ha : PA X (e :: es) t)
    (hst : starEach (e :: es) X.env = (false, eval e X.env) :: starEach es X.env := by rfl) (hpl : (backTo pos (starEach es X.env)).any (·.1) = false := by rfl)
    (ht : eval (.Call (.Attribute o m apos) (e :: es) [] pos) X.env = (do
      let ov ← eval o X.env
      standAt apos.atName
      let (f, first) ← holding [ov] (getMethod ov m pl)
      callWith pos f first (backTo pos (starEach (e :: es) X.env)) (backToKw pos (keywordEach [] X.env))) := by rfl) :
    PE X (.Call (.Attribute o m apos) (e :: es) [] pos) (tMethSD C m sp dvs E ta t) := by
  refine ⟨fun pins s σ H Q I h => ?_⟩
  refine PySem.W.methodCall_KW (pl := pl) (thn (he.run pins s σ H _ I h) fun u s1 ⟨x, H1, I1, rx, a, dx, fs, ex, ea, l, q⟩ => ?_) ht
  subst ex
  obtain rfl : u = Value.ref a := rx
  refine getmeth_ok I1 ea c hm l ?_
  refine PySem.W.callWith_K (first := [.ref a]) (h₀ := X.base) I.ok.mod.kin hm.kp (thn (ha.run pos pins s1 σ H1 _ I1 q) fun us s2 ⟨vs, H2, I2, r, q2⟩ => ⟨I2.kIn, ?_⟩) hst hpl
  exact run_fnSD (us := .ref a :: us) (vs := .ref a :: vs) F hr hb hd (hx σ) I2 (.cons rfl r) q2
theorem pe_meth0SD {pl : Sem Bool} (he : PE X o ta) (c : Cls X.K C) (hm : Meth X.K C m f) (F : FnOk X.prog X.w X.K X.mg X.base CX k f fd ps sp) (hr : Room k X.A) (hb : Binds X.K fd ps ds) (hd : Vals dvs ds) (hx : ∀ σ, PassesAt CX X σ (E σ))
    (ht : eval (.Call (.Attribute o m apos) [] [] pos) X.env = (do
      let ov ← eval o X.env
      standAt apos.atName
      let (f, first) ← holding [ov] (getMethod ov m pl)
      callWith pos f first (backTo pos (starEach [] X.env)) (backToKw pos (keywordEach [] X.env))) := by rfl) :
    PE X (.Call (.Attribute o m apos) [] [] pos) (tMethSD C m sp dvs E ta tNil) := by
  refine ⟨fun pins s σ H Q I h => ?_⟩
  refine PySem.W.methodCall_KW (pl := pl) (thn (he.run pins s σ H _ I h) fun u s1 ⟨x, H1, I1, rx, a, dx, fs, ex, ea, l, q⟩ => ?_) ht
  subst ex
  obtain rfl : u = Value.ref a := rx
  refine getmeth_ok I1 ea c hm l ?_
  exact PySem.W.callWith_K0 (first := [.ref a]) I1.kIn hm.kp (run_fnSD (us := [.ref a]) (vs := [.ref a]) F hr hb hd (hx σ) I1 (.cons rfl .nil) q)
theorem run_makeSD {pins : List (Addr × Obj)} {σ : St} {H : Hp} {s : Shared} {Q : VK} {us : List Value} {vs : List V} (M : Mk X.K C f) (F : FnOk X.prog X.w X.K X.mg X.base CX k f fd ps sp) (hr : Room (k + 1) X.A) (hb : Binds X.K fd ps ds) (hd : Vals dvs ds)
    (hx : PassesAt CX X σ (E σ)) (I : Inv X pins σ H s) (r : Vals vs us)
    (h : ∀ x dx, H x = none → H dx = none → dx ≠ x → sp (.ref x :: (vs ++ dvs)) (upd (upd H dx (.own x)) x (.ins C dx [])) (fun v H2 => v = .non ∧ Q (.ref x) H2) (E σ)) :
    wpAny (model X.prog X.w) X.A (call (.ref C) us) (EP X pins σ Q) X.xe s := by
  have hq := h (s.heap.objs.size + 1) s.heap.objs.size (I.hok.fresh (Nat.le_succ _)) (I.hok.fresh (Nat.le_refl _)) (Nat.ne_of_lt (Nat.lt_succ_self _))
  have I2 := Inv.made (C := C) I
  have r2 : Vals (V.ref (s.heap.objs.size + 1) :: (vs ++ dvs)) (Value.ref (s.heap.objs.size + 1) :: (us ++ ds)) := .cons rfl (r.append hd)
  have hl : (Value.ref (s.heap.objs.size + 1) :: us ++ ds).length = ps.length := by
    have e := r2.length
    rw [F.len _ _ _ _ hq] at e
    exact e.symm
  refine wpAny_call (make_map (f := f) I.kIn M.makes M.init (beq_iff_eq.mp M.fn) (codeAny_mono (F.run _ X.stack _ _ ⟨Value.ref (s.heap.objs.size + 1) :: us, []⟩ (Value.ref (s.heap.objs.size + 1) :: (us ++ ds)) _ _ (E σ) (hr.make C us [])
    (I2.env0.make C us []) (hb _ (Value.ref (s.heap.objs.size + 1) :: us) I2.kIn hl) r2 hq) fun r s' hq' => ?_))
  cases r with
  | error e => exact hx pins _ _ e s' I2 hq'
  | ok fl =>
    cases fl with
    | ret u =>
      obtain ⟨v, H', I3, rv, ev, q3⟩ := I2.after hq'
      subst ev
      exact ⟨rv, ⟨V.ref (s.heap.objs.size + 1), H', I3, rfl, q3⟩⟩
    | next => exact False.elim hq'
    | brk => exact False.elim hq'
    | cont => exact False.elim hq'
theorem pe_makeSD (M : Mk X.K C f) (F : FnOk X.prog X.w X.K X.mg X.base CX k f fd ps sp) (hr : Room (k + 1) X.A) (hg : Gl X x) (hm : X.mg x = some (.ref C)) (hb : Binds X.K fd ps ds) (hd : Vals dvs ds) (hx : ∀ σ, PassesAt CX X σ (E σ))
    (ha : PA X (e :: es) t) (hdb : (x == ("__debug__" : Str)) = false := by decide) (he : starEach (e :: es) X.env = (false, eval e X.env) :: starEach es X.env := by rfl) (hpl : (backTo pos (starEach es X.env)).any (·.1) = false := by rfl) :
    PE X (.Call (.Name x p) (e :: es) [] pos) (tMakeSD C sp dvs E t) := by
  refine ⟨fun pins s σ H Q I h => ?_⟩
  refine wpAny_Call_Name_kw (ld_glob I hg hm ?_ hdb)
  refine PySem.W.callWith_K (h₀ := X.base) I.ok.mod.kin M.kp (thn (ha.run pos pins s σ H _ I h) fun us s1 ⟨vs, H1, I1, r, q⟩ => ⟨I1.kIn, ?_⟩) he hpl
  exact run_makeSD M F hr hb hd (hx σ) I1 r q
theorem pe_make0SD (M : Mk X.K C f) (F : FnOk X.prog X.w X.K X.mg X.base CX k f fd ps sp) (hr : Room (k + 1) X.A) (hg : Gl X x) (hm : X.mg x = some (.ref C)) (hb : Binds X.K fd ps ds) (hd : Vals dvs ds) (hx : ∀ σ, PassesAt CX X σ (E σ))
    (hdb : (x == ("__debug__" : Str)) = false := by decide) : PE X (.Call (.Name x p) [] [] pos) (tMakeSD C sp dvs E tNil) := by
  refine ⟨fun pins s σ H Q I h => ?_⟩
  refine wpAny_Call_Name_kw (ld_glob I hg hm ?_ hdb)
  exact PySem.W.callWith_K0 I.kIn M.kp (run_makeSD (us := []) M F hr hb hd (hx σ) I .nil h)
end
/-- list + list, either may be locked -/
def rCatR : R2 := fun x y H Q => ∃ l b xs zs, x = .ref l ∧ y = .ref b ∧ Rd H l (.lst xs) ∧ Rd H b (.lst zs) ∧ xs.length + zs.length ≤ sizeLine ∧ ∀ p, H p = none → Q (.ref p) (upd H p (.lst (xs ++ zs)))
theorem op_catR {X : Cx} : OpR X (binaryOp .Add) rCatR := by
  intro pins s σ H x y v u Q I rx ry h
  obtain ⟨l, b, xs, zs, rfl, rfl, hH, hB, hz, q⟩ := h
  cases rx
  cases ry
  obtain ⟨z, its, n, r, e⟩ := hH.ok I.hok
  obtain ⟨z2, its2, n2, r2, e2⟩ := hB.ok I.hok
  have hl := r.length
  have hl2 := r2.length
  refine PySem.P.add_list e e2 ?_ (by rw [List.size_toArray, List.size_toArray]; omega)
  have ea : its.toArray ++ its2.toArray = (its ++ its2).toArray := by simp
  rw [ea]
  exact ⟨.ref _, _, I.lnew (t' := s.toks) (r.append r2) (by rw [List.length_append]; omega), rfl, q _ I.fresh⟩
/-- len of a text, a list, a tuple -/
def rLenAny (K : PySem.W.Frag) : List V → Hp → VK → Prop := fun xs H Q => Ml.rLenS xs H Q ∨ Ml.rLenSq K xs H Q
theorem call_lenAny {X : Cx} : CallR X (.builtin "len") (rLenAny X.K) := by
  intro pins s σ H xs us Q I r h
  rcases h with h | h
  · exact Ml.call_lenS pins s σ H xs us Q I r h
  · exact Ml.call_lenSq pins s σ H xs us Q I r h
section
variable {P : Program} {w : World} {K : PySem.W.Frag} {mg : Str → Option Value} {base : Heap} {x qual : Str} {params : Arguments} {body : List Stmt} {scope : Scope} {dvs : List V} {kws : List (Str × V)} {f : Addr} {fd : FuncData}
theorem FunD.ok0 {N ps : List Str} {k : Nat} {sp : Sp} (F : FunD K x qual params body scope dvs kws f fd) (S : FnScope N ps scope) (len : ∀ vs H Q E, sp vs H Q E → vs.length = ps.length)
    (hbody : ∀ (cdv : Value) (A : Around) (outer : List Env) (s : Shared) (H : Hp) (vs : List V) (Q : VK) (E : XK), Room k (A.deeper (envOfC qual scope s.heap.objs.size f cdv)) → sp vs H Q E →
      ∃ t, PSs (cxOf CX0 P w K mg base N qual scope f cdv A outer s H E).nox body t ∧ t { nx := fun _ H' => Q .non H', rt := Q } (start N vs) H) : FnOk P w K mg base CX0 (k + 1) f fd ps sp :=
  F.ok S len fun cdv A outer s H vs Q E hr hsp => by
    obtain ⟨t, h, q⟩ := hbody cdv A outer s H vs Q E hr hsp
    exact ⟨t, h.nox, q⟩
end
end L2
namespace Ml
open PySem L2
/-! ### exceptions in plain programs -/
namespace R
variable {α β ρ : Type} {q : α → Prop} {e : Exc → Prop}
def noexc : R α → R α
  | .ok a => .ok a
  | _ => .bad
theorem wp_noexc {m : R α} {f : α → R β} {q : β → Prop} (h : wp ((noexc m).bind f) q e) : wp m (fun a => wp (f a) q e) (fun _ => False) := by
  cases m with
  | ok a => exact h
  | exc x => exact h.elim
  | bad => exact h.elim
def tryC : R α → (α → R β) → (Exc → R β) → R β
  | .ok a, k, _ => k a
  | .exc x, _, h => h x
  | .bad, _, _ => .bad
theorem wp_tryC {m : R α} {k : α → R β} {h : Exc → R β} {q : β → Prop} (w : wp (tryC m k h) q e) : wp m (fun a => wp (k a) q e) (fun x => wp (h x) q e) := by
  cases m <;> exact w
end R
/-- an except clause: known classes, those that it takes -/
def catchR {β : Type} (all subs : List Nat) (x : Exc) (a b : R β) : R β := if all.contains x.cls then (if subs.contains x.cls then a else b) else .bad
def contF {σ ρ β : Type} (k : σ → R β) (o : ρ → R β) : Fl σ ρ → R β
  | .go s => k s
  | .brk s => k s
  | .out r => o r
/-- an exception as it is wished for -/
def Eok (G : Gx) (x : Exc) (E : XK) (H : Hp) : Prop := E (.ref (G.cl x.cls)) none H
variable {G : Gx}
section
variable {σ σ' : St} {H : Hp} {L L' : List (Asn G)} {D : Ends} {Q : VK} {te ta tb : TE} {α β τ ρ : Type} {v w : V} {q : ρ → Prop} {e : Exc → Prop}
/-! ### lists that are read, one's own or locked -/
theorem imR [Im G α] {a : Addr} {xs : List α} (h : Im.im G H (.ref a) xs) : ∃ vs, Rd H a (.lst vs) ∧ imL (G := G) H vs xs := by
  obtain ⟨b, vs, e, ⟨o, h⟩, m⟩ := h
  cases e
  exact ⟨vs, .inr ⟨o, h⟩, m⟩
theorem Sep.rd [Im G α] (h : Sep H L) {i : Nat} {a : Addr} {xs : List α} (e : L[i]? = some (lstA a xs)) : ∃ vs, Rd H a (.lst vs) ∧ imL (G := G) H vs xs := by
  obtain ⟨vs, e, m⟩ := h.lst e
  exact ⟨vs, .inl e, m⟩
theorem rd_sq {K : PySem.W.Frag} {a : Addr} {vs : List V} (h : Rd H a (.lst vs)) : SqL K H a vs := .inl h
theorem rdF [Fv G α] {a : Addr} {xs : List α} (h : ∃ vs, SqL G.K H a vs ∧ imL (G := G) H vs xs) : SqL G.K H a (xs.map (Fv.enc G)) := by
  obtain ⟨vs, e, m⟩ := h
  rw [imL.flat.mp m] at e
  exact e
theorem imL_ints : ∀ (ns : List Int), imL (G := G) H (ns.map V.int) ns
  | [] => True.intro
  | n :: ns => ⟨rfl, imL_ints ns⟩
theorem read_script {a : Addr} {x : Script} (h : Im.im G H (.ref a) x) : ∃ vs, SqL G.K H a vs ∧ imL (G := G) H vs x.ns := ⟨_, sq_script h, imL_ints x.ns⟩
theorem k_catG [Im G α] {a b : Addr} {xs ys : List α} (hS : Sep H L) (h1 : ∃ vs, Rd H a (.lst vs) ∧ imL (G := G) H vs xs) (h2 : ∃ vs, Rd H b (.lst vs) ∧ imL (G := G) H vs ys) (z : xs.length + ys.length ≤ sizeLine)
    (k : ∀ p H', Sep H' (lstA p (xs ++ ys) :: L) → Q (.ref p) H') : rCatR (.ref a) (.ref b) H Q := by
  obtain ⟨vs, r1, m1⟩ := h1
  obtain ⟨ws, r2, m2⟩ := h2
  exact ⟨a, b, vs, ws, rfl, rfl, r1, r2, by rw [m1.len, m2.len]; exact z, fun p hp => k p _ (hS.newL hp (m1.app m2))⟩
theorem k_slG [Im G α] {a : Addr} {xs : List α} {lo hi : Option Int} (hS : Sep H L) (h : ∃ vs, SqL G.K H a vs ∧ imL (G := G) H vs xs)
    (k : ∀ p H', Sep H' (lstA p (cutL xs lo hi) :: L) → Q (.ref p) H') : rSlL G.K (.ref a) lo hi H Q := by
  obtain ⟨vs, h, m⟩ := h
  exact ⟨a, vs, rfl, h, fun p hp => k p _ (hS.newL hp (cutL_im m))⟩
theorem k_listG [Im G α] {a : Addr} {xs : List α} (hS : Sep H L) (h : ∃ vs, SqL G.K H a vs ∧ imL (G := G) H vs xs) (k : ∀ p H', Sep H' (lstA p xs :: L) → Q (.ref p) H') : rListSq G.K [.ref a] H Q := by
  obtain ⟨vs, h, m⟩ := h
  exact ⟨a, vs, rfl, .inl h, fun p hp => k p _ (hS.newL hp m)⟩
theorem k_ilG [Im G α] {a : Addr} {xs : List α} {R : It → Hp → Prop} (h : ∃ vs, SqL G.K H a vs ∧ imL (G := G) H vs xs) (k : R (Itl G.K a) H) : ilK G.K R (.ref a) H := by
  obtain ⟨vs, s, _⟩ := h
  exact ⟨a, rfl, ⟨vs, s⟩, k⟩
theorem ev_lenG [Im G α] {a : Addr} {xs : List α} (ha : Ev ta σ H (.ref a)) (h : ∃ vs, SqL G.K H a vs ∧ imL (G := G) H vs xs) : Ev (tCB (rLenSq G.K) (tCons ta tNil)) σ H (.int xs.length) := by
  obtain ⟨vs, s, m⟩ := h
  have := ev_lenL ha s
  rw [m.len] at this
  exact this
theorem k_lenG [Im G α] {a : Addr} {xs : List α} (h : ∃ vs, SqL G.K H a vs ∧ imL (G := G) H vs xs) (q : Q (.int xs.length) H) : rLenSq G.K [.ref a] H Q := by
  obtain ⟨vs, s, m⟩ := h
  exact ⟨a, vs, rfl, .inl s, by rw [m.len]; exact q⟩
theorem k_lstRaw {vs : List V} (hS : Sep H L) (z : vs.length ≤ sizeLine) (k : ∀ p H', Sep H' (cell p (.lst vs) :: L) → Q (.ref p) H') : lstK Q vs H := ⟨z, fun p hp => k p _ (hS.new hp rfl)⟩
theorem ty_plst [Im G α] {a : Addr} {xs : List α} (h : Im.im G H (.ref a) xs) : TyX G.K H (.ref a) (.type "list") := by
  obtain ⟨b, vs, e, ⟨o, h⟩, _⟩ := h
  cases e
  exact .base (.frz h)
theorem ev_inPl {x : Str} {ys : List Str} {a : Addr} (h : Im.im G H (.ref a) ys) (ha : Ev ta σ H (.str x)) (hb : Ev tb σ H (.ref a)) : Ev (tOp (rIn G.K false) ta tb) σ H (.bl (decide (x ∈ ys))) := ev_op ha hb fun Q q =>
  ⟨a, ys.map V.str, rfl, .inl (imPlF h), rfl, flat_str ys, by
    show Q (.bl (inV (.str x) (ys.map V.str))) H
    rw [inV_str]; exact q⟩
theorem ev_niPl {x : Str} {ys : List Str} {a : Addr} (h : Im.im G H (.ref a) ys) (ha : Ev ta σ H (.str x)) (hb : Ev tb σ H (.ref a)) : Ev (tOp (rIn G.K true) ta tb) σ H (.bl (!decide (x ∈ ys))) := ev_op ha hb fun Q q =>
  ⟨a, ys.map V.str, rfl, .inl (imPlF h), rfl, flat_str ys, by
    show Q (.bl (!inV (.str x) (ys.map V.str))) H
    rw [inV_str]; exact q⟩
/-- the rule on values alone -/
theorem ev_op2 {r : R2} {x y : V} (h : Ev (tOp r (tC x) (tC y)) [] H v) (q : Q v H) : r x y H Q := h Q q
theorem ev_cb2 {r : List V → Hp → VK → Prop} {x y : V} (h : Ev (tCB r (tCons (tC x) (tCons (tC y) tNil))) [] H v) (q : Q v H) : r [x, y] H Q := h Q q
/-! ### Any -/
theorem any_tupE {v : V} {x : Any} {xs : List Any} (h : Im.im G H v x) (e : x = .tup xs) : ∃ a vs, v = .ref a ∧ H a = some (.tup vs) ∧ imL (G := G) H vs xs := any_tup.mp (e ▸ h)
def lenA : Any → R Int
  | .str s => R.need (s.length ≤ sizeLine) (.ok s.length)
  | .tup xs => .ok xs.length
  | .lst xs => .ok xs.length
  | _ => .bad
theorem wp_lenA {x : Any} {f : Int → R ρ} (h : R.wp ((lenA x).bind f) q e) : ∃ n, lenA x = .ok n ∧ R.wp (f n) q e := by
  cases c : lenA x with
  | ok n => rw [c] at h; exact ⟨n, rfl, h⟩
  | exc y => exact absurd c (by cases x <;> simp [lenA, R.need] <;> split <;> simp)
  | bad => rw [c] at h; exact h.elim
theorem ev_lenA {x : Any} {n : Int} (ha : Ev ta σ H v) (h : Im.im G H v x) (hn : lenA x = .ok n) : Ev (tCB (rLenAny G.K) (tCons ta tNil)) σ H (.int n) := ev_cb (ea_cons ha ea_nil) fun Q q => by
  cases x with
  | str s =>
    rw [any_str] at h; subst h
    have hn : R.need (s.length ≤ sizeLine) (.ok (s.length : Int)) = .ok n := hn
    by_cases c : s.length ≤ sizeLine
    · rw [R.need_pos c] at hn; cases hn; exact .inl ⟨s, rfl, c, q⟩
    · unfold R.need at hn; rw [if_neg c] at hn; cases hn
  | tup xs =>
    rw [any_tup] at h
    obtain ⟨a, vs, rfl, g, m⟩ := h
    cases hn
    exact .inr ⟨a, vs, rfl, .inr (SqT.of g), by rw [m.len]; exact q⟩
  | lst xs =>
    rw [any_lsts] at h
    obtain ⟨a, vs, rfl, ⟨o, g⟩, m⟩ := h
    cases hn
    exact .inr ⟨a, vs, rfl, .inl (.inl (.inr ⟨o, g⟩)), by rw [m.len]; exact q⟩
  | _ => cases hn
/-! ### texts -/
def intR (a : Str) : R Int := match PySem.intText? a with
  | some n => R.need (a.length ≤ 640) (.ok n)
  | none => .bad
theorem wp_intR {a : Str} {f : Int → R ρ} (h : R.wp ((intR a).bind f) q e) : ∃ n, (PySem.intText? a = some n ∧ a.length ≤ 640) ∧ R.wp (f n) q e := by
  unfold intR at h
  cases c : PySem.intText? a with
  | some n =>
    rw [c] at h
    unfold R.need at h
    by_cases l : a.length ≤ 640
    · dsimp only at h; rw [if_pos l] at h; exact ⟨n, ⟨rfl, l⟩, h⟩
    · dsimp only at h; rw [if_neg l] at h; exact h.elim
  | none => rw [c] at h; exact h.elim
theorem ev_intS {a : Str} {n : Int} (ha : Ev ta σ H (.str a)) (h : PySem.intText? a = some n ∧ a.length ≤ 640) : Ev (tCB (fun xs H Q => ∃ a n, xs = [.str a] ∧ PySem.intText? a = some n ∧ a.length ≤ 640 ∧ Q (.int n) H) (tCons ta tNil)) σ H (.int n) :=
  ev_cb (ea_cons ha ea_nil) fun _ q => ⟨a, n, rfl, h.1, h.2, q⟩
def splitOk (a b : Str) : Prop := (b.length == 0) = false ∧ a.length + 2 ≤ sizeLine
instance (a b : Str) : Decidable (splitOk a b) := by unfold splitOk; infer_instance
theorem imL_strs : ∀ (ys : List Str), imL (G := G) H (ys.map V.str) ys
  | [] => True.intro
  | y :: ys => ⟨rfl, imL_strs ys⟩
theorem k_split {a b : Str} (hS : Sep H L) (h1 : Ev ta σ H (.str a)) (h2 : Ev tb σ H (.str b)) (h : splitOk a b) (k : ∀ p H', Sep H' (lstA p (Txt.split a b) :: L) → Q (.ref p) H') :
    tM1 (fun x xs H Q => ∃ a b, x = .str a ∧ xs = [.str b] ∧ (b.length == 0) = false ∧ a.length + 2 ≤ sizeLine ∧ rNewStrs (Txt.split a b) H Q) ta tb σ H Q :=
  c_m1 h1 (h2 _ ⟨a, b, rfl, rfl, h.1, h.2, fun p hp => k p _ (hS.newL hp (imL_strs _))⟩)
def zfOk (_ : Str) (i : Int) : Prop := PadOk i = true
instance (a : Str) (i : Int) : Decidable (zfOk a i) := by unfold zfOk; infer_instance
abbrev zfillT (a : Str) (i : Int) : Str := Txt.zfill a i
theorem k_zfill {a : Str} {i : Int} (h : zfOk a i) (q : Q (.str (zfillT a i)) H) : (fun (x : V) (xs : List V) (H : Hp) (Q : VK) => ∃ (a : Str) (i : Int), x = .str a ∧ xs = [.int i] ∧ PadOk i = true ∧ Q (.str (Txt.zfill a i)) H) (.str a) [.int i] H Q := ⟨a, i, rfl, rfl, h, q⟩
theorem tyStr {K : PySem.W.Frag} {a : Str} : tyV K "str" (.str a) H := rfl
/-! f-strings -/
section
variable {acc y : Str} {ts : List TE} {te : TE} {P : Str → Hp → Prop}
theorem f_fc (h : Ev te σ H (.str y)) (z : (acc ++ y).length ≤ sizeLine) (k : tJs ts (acc ++ y) σ H P) : tJs (te :: ts) acc σ H P := h _ ⟨y, rfl, z, k⟩
theorem f_fs (h : Ev te σ H (.str y)) (l : y.length ≤ sizeLine) (z : (acc ++ y).length ≤ sizeLine) (k : tJs ts (acc ++ y) σ H P) : tJs (tFmt te :: ts) acc σ H P := h _ (.inl ⟨y, rfl, l, y, rfl, z, k⟩)
theorem f_fi {i : Int} (h : Ev te σ H (.int i)) (l : i.natAbs.log2 < 1920) (z : (acc ++ Str.ofString (toString i)).length ≤ sizeLine) (k : tJs ts (acc ++ Str.ofString (toString i)) σ H P) : tJs (tFmt te :: ts) acc σ H P := h _ (.inr ⟨i, rfl, l, _, rfl, z, k⟩)
theorem f_je (k : P acc H) : tJs [] acc σ H P := k
end
/-! ### tuples: two as one, a part -/
theorem k_catT [Im G α] {a b : Addr} {us ws : List V} {x : α} (hS : Sep H L) (h1 : H a = some (.tup us)) (h2 : H b = some (.tup ws)) (n1 : us ≠ []) (n2 : ws ≠ []) (mk : ∀ (H' : Hp) (p : Addr), H' p = some (.tup (us ++ ws)) → Stab G H H' → Im.im G H' (.ref p) x)
    (hl : us.length + ws.length ≤ sizeLine) (k : ∀ p H', Sep H' (imA (.ref p) x :: L) → Q (.ref p) H') : rCatT G.K (.ref a) (.ref b) H Q :=
  ⟨a, b, us, ws, rfl, rfl, SqT.of h1, SqT.of h2, n1, hl, fun z => absurd z n2, fun _ p hp => k p _ ((hS.more (same_new hp)).addIm (mk _ p upd_same (.of_same (same_new hp))))⟩
theorem k_slT [Im G α] {a : Addr} {us ws : List V} {lo hi : Option Int} {x : α} (hS : Sep H L) (h1 : H a = some (.tup us)) (ew : cutV us lo hi = ws) (n : ¬ (HT.sIx us.length 0 lo = 0 ∧ HT.sIx us.length us.length hi = us.length))
    (mk : ∀ (H' : Hp) (p : Addr), H' p = some (.tup ws) → Stab G H H' → Im.im G H' (.ref p) x) (k : ∀ p H', Sep H' (imA (.ref p) x :: L) → Q (.ref p) H') : rSlT G.K (.ref a) lo hi H Q := by
  subst ew
  exact ⟨a, us, rfl, SqT.of h1, n, fun p hp => k p _ ((hS.more (same_new hp)).addIm (mk _ p upd_same (.of_same (same_new hp))))⟩
/-! ### popped -/
def popR (xs : List α) (i : Int) : R (Nat × α) := if -(2 ^ 63) ≤ i ∧ i < 2 ^ 63 then match seqIndex? i xs.length with
  | some j => match xs[j]? with
    | some x => .ok (j, x)
    | none => .bad
  | none => .bad else .bad
theorem wp_popR {xs : List α} {i : Int} {f : Nat × α → R ρ} (h : R.wp ((popR xs i).bind f) q e) : ∃ j x, ((-(2 ^ 63) ≤ i ∧ i < 2 ^ 63) ∧ seqIndex? i xs.length = some j ∧ xs[j]? = some x) ∧ R.wp (f (j, x)) q e := by
  unfold popR at h
  by_cases c : -(2 ^ 63) ≤ i ∧ i < 2 ^ 63
  · rw [if_pos c] at h
    cases d : seqIndex? i xs.length with
    | some j =>
      rw [d] at h
      dsimp only at h
      cases g : xs[j]? with
      | some x => rw [g] at h; exact ⟨j, x, ⟨c, rfl, g⟩, h⟩
      | none => rw [g] at h; exact h.elim
    | none => rw [d] at h; exact h.elim
  · rw [if_neg c] at h; exact h.elim
theorem imL.erase [Im G α] : ∀ {vs : List V} {xs : List α} (n : Nat), imL (G := G) H vs xs → imL (G := G) H (vs.eraseIdx n) (xs.eraseIdx n)
  | [], [], n, _ => by simp [imL]
  | v :: vs, x :: xs, 0, h => h.2
  | v :: vs, x :: xs, n + 1, h => ⟨h.1, imL.erase n h.2⟩
  | [], _ :: _, _, h => h.elim
  | _ :: _, [], _, h => h.elim
theorem k_popF [Fv G α] {n : Nat} {a : Addr} {xs : List α} {i : Int} {j : Nat} {x : α} (hS : Sep H L) (e : L[n]? = some (lstA a xs)) (h : (-(2 ^ 63) ≤ i ∧ i < 2 ^ 63) ∧ seqIndex? i xs.length = some j ∧ xs[j]? = some x)
    (e2 : L.set n (lstA a (xs.eraseIdx j)) = L') (k : ∀ H', Sep H' L' → Q (Fv.enc G x) H') : rPopAt (.ref a) [.int i] H Q := by
  obtain ⟨vs, h1, m⟩ := hS.lst e
  obtain ⟨u, hu, hm⟩ := m.get h.2.2
  rw [Fv.im_iff] at hm
  subst hm
  refine ⟨a, vs, i, j, _, rfl, rfl, h1, h.1.1, h.1.2, by rw [m.len]; exact h.2.1, hu, k _ ?_⟩
  subst e2
  exact hS.putL e (m.erase j)
/-! ### instances -/
theorem Sep.newI {C x dx : Addr} (h : Sep H L) (hx : H x = none) (hd : H dx = none) (ne : dx ≠ x) (n : ¬ G.fz C = some 0) : Sep (upd (upd H dx (.own x)) x (.ins C dx [])) (cell x (.ins C dx []) :: L) := by
  have h1 := h.more (same_new (o := HO.own x) hd)
  refine h1.new (o := .ins C dx []) (by rw [upd_ne (Ne.symm ne)]; exact hx) ?_
  show decide (G.fz C = some 0) = false
  exact decide_eq_false n
theorem c_fldG {K : PySem.W.Frag} {f : Str} (h : ta σ H fun x H1 => ∃ a C dx fs v, x = .ref a ∧ H1 a = some (.ins C dx fs) ∧ Cls K C ∧ NoAttr K C f ∧ fs.lookup f = some v ∧ Q v H1) : tFld K ta f σ H Q := h
theorem c_sfld {K : PySem.W.Frag} {f : Str} (h : tb σ H fun y H1 => ta σ H1 fun x H2 => ∃ a C dx fs, x = .ref a ∧ H2 a = some (.ins C dx fs) ∧ Cls K C ∧ NoAttr K C f ∧ fs.length < 1000 ∧ D.nx σ (upd H2 a (.ins C dx (putF f y fs)))) : sFld K ta tb f D σ H := h
theorem k_sfld {K : PySem.W.Frag} {i : Nat} {a C dx : Addr} {fs fs' : List (Str × V)} {f : Str} {y : V} (hS : Sep H L) (e : L[i]? = some (cell a (.ins C dx fs))) (c : Cls K C) (n : NoAttr K C f) (ef : putF f y fs = fs') (hl : fs.length < 1000)
    (np : per G (.ins C dx fs') = false) (eL : L.set i (cell a (.ins C dx fs')) = L') (k : ∀ H', Sep H' L' → D.nx σ H') :
    ∃ a' C' dx' fs'', V.ref a = .ref a' ∧ H a' = some (.ins C' dx' fs'') ∧ Cls K C' ∧ NoAttr K C' f ∧ fs''.length < 1000 ∧ D.nx σ (upd H a' (.ins C' dx' (putF f y fs''))) := by
  refine ⟨a, C, dx, fs, rfl, hS.getCell e, c, n, hl, ?_⟩
  rw [ef]
  refine k _ ?_
  subst eL
  exact hS.put e np rfl
theorem k_sfldP {K : PySem.W.Frag} {i : Nat} {a C dx : Addr} {fs fs' : List (Str × V)} {f : Str} {y : V} (hS : Sep H L) (e : L[i]? = some (cell a (.ins C dx fs))) (c : Cls K C) (n : NoAttr K C f) (ef : putF f y fs = fs') (hl : fs.length < 1000)
    (np : per G (.ins C dx fs') = true) (eL : L.eraseIdx i = L') (k : ∀ H', H' a = some (.ins C dx fs') → Stab G H H' → Sep H' L' → D.nx σ H') :
    ∃ a' C' dx' fs'', V.ref a = .ref a' ∧ H a' = some (.ins C' dx' fs'') ∧ Cls K C' ∧ NoAttr K C' f ∧ fs''.length < 1000 ∧ D.nx σ (upd H a' (.ins C' dx' (putF f y fs''))) := by
  refine ⟨a, C, dx, fs, rfl, hS.getCell e, c, n, hl, ?_⟩
  rw [ef]
  have h1 := hS.perm (pull_perm e)
  obtain ⟨fp, ⟨f1, f2, e0, ⟨e1, ho⟩, _⟩, _, h3⟩ := id h1
  subst e1
  obtain ⟨u, hu, nu⟩ := h3 a (by rw [e0]; simp)
  have eu : u = .ins C dx fs := by rw [ho] at hu; cases hu; rfl
  refine k _ upd_same (stab_put hu nu (by rw [eu]; rfl)) ?_
  subst eL
  exact h1.drop1 rfl
/-! ### calls, steps -/
theorem c_callSD {sp : Sp} {dvs : List V} {E : St → XK} {t : TA} (h : t σ H fun vs H1 => sp (vs ++ dvs) H1 Q (E σ)) : tCallSD sp dvs E t σ H Q := h
theorem c_meth {C : Addr} {m : Str} {sp : Sp} {dvs : List V} {E : XK} {t : TA} (h : ta σ H fun x H1 => ∃ a dx fs, x = .ref a ∧ H1 a = some (.ins C dx fs) ∧ fs.lookup m = none ∧ t σ H1 fun vs H2 => sp (x :: (vs ++ dvs)) H2 Q E) : tMeth C m sp dvs E ta t σ H Q := h
theorem c_methSD {C : Addr} {m : Str} {sp : Sp} {dvs : List V} {E : St → XK} {t : TA} (h : ta σ H fun x H1 => ∃ a dx fs, x = .ref a ∧ H1 a = some (.ins C dx fs) ∧ fs.lookup m = none ∧ t σ H1 fun vs H2 => sp (x :: (vs ++ dvs)) H2 Q (E σ)) : tMethSD C m sp dvs E ta t σ H Q := h
theorem c_make {C : Addr} {sp : Sp} {dvs : List V} {E : XK} {t : TA} (h : t σ H fun vs H1 => ∀ x dx, H1 x = none → H1 dx = none → dx ≠ x → sp (.ref x :: (vs ++ dvs)) (upd (upd H1 dx (.own x)) x (.ins C dx [])) (fun v H2 => v = .non ∧ Q (.ref x) H2) E) : tMake C sp dvs E t σ H Q := h
theorem c_makeSD {C : Addr} {sp : Sp} {dvs : List V} {E : St → XK} {t : TA} (h : t σ H fun vs H1 => ∀ x dx, H1 x = none → H1 dx = none → dx ≠ x → sp (.ref x :: (vs ++ dvs)) (upd (upd H1 dx (.own x)) x (.ins C dx [])) (fun v H2 => v = .non ∧ Q (.ref x) H2) (E σ)) : tMakeSD C sp dvs E t σ H Q := h
theorem c_retN (h : D.rt .non H) : tRetN D σ H := h
/-! ### except clauses -/
theorem w_only {K : PySem.W.Frag} {c : Value} {ts : Addr → Value → Option Addr → TS} {Wout : WX} {all subs : List Nat} {x : Exc} {β : Type} {A B : R β} {q : β → Prop} {e : Exc → Prop}
    (ex : all.contains x.cls = true → PySem.W.exmOne K (.ref (G.cl x.cls)) c = some (subs.contains x.cls)) (hm : R.wp (catchR all subs x A B) q e)
    (h1 : R.wp A q e → ∀ a, H a = none → ts a (.ref (G.cl x.cls)) none D σ H) (h2 : R.wp B q e → Wout (.ref (G.cl x.cls)) none σ H) : Eok G x (WE (wOnly K c ts Wout D) σ) H := by
  unfold catchR at hm
  by_cases c1 : all.contains x.cls = true
  · rw [if_pos c1] at hm
    refine ⟨_, ex c1, fun z => ?_, fun z => ?_⟩
    · rw [if_pos z] at hm; exact h1 hm
    · rw [z, if_neg Bool.false_ne_true] at hm; exact h2 hm
  · rw [if_neg c1] at hm; exact hm.elim
theorem w_as {K : PySem.W.Frag} {c : Value} {i : Nat} {ts : Addr → Value → Option Addr → TS} {Wout : WX} {all subs : List Nat} {x : Exc} {β : Type} {A B : R β} {q : β → Prop} {e : Exc → Prop}
    (ex : all.contains x.cls = true → PySem.W.exmOne K (.ref (G.cl x.cls)) c = some (subs.contains x.cls)) (hm : R.wp (catchR all subs x A B) q e)
    (h1 : R.wp A q e → ∀ a, H a = none → ts a (.ref (G.cl x.cls)) none { nx := fun σ' H' => D.nx (σ'.set i none) H', rt := D.rt, bk := fun σ' H' => D.bk (σ'.set i none) H', ct := fun σ' H' => D.ct (σ'.set i none) H' } (σ.set i (some (.ref a))) H)
    (h2 : R.wp B q e → Wout (.ref (G.cl x.cls)) none σ H) : Eok G x (WE (wAs K c i ts Wout D) σ) H := by
  unfold catchR at hm
  by_cases c1 : all.contains x.cls = true
  · rw [if_pos c1] at hm
    refine ⟨_, ex c1, fun z => ?_, fun z => ?_⟩
    · rw [if_pos z] at hm; exact h1 hm
    · rw [z, if_neg Bool.false_ne_true] at hm; exact h2 hm
  · rw [if_neg c1] at hm; exact hm.elim
theorem w_end {i : Nat} (e : σ.set i none = σ') (h : D.nx σ' H) : D.nx (σ.set i none) H := by rw [e]; exact h
/-! ### loops that are left -/
theorem k_forF {J : It} {g : TG} {tb : TS} {im : Hp → V → α → Prop} {xs : List α} {f : τ → α → R (Fl τ ρ)} {β : Type} {rest : τ → R β} {o : ρ → R β} {q : β → Prop} {e : Exc → Prop} {s : τ} (I : τ → L2.St → Hp → Prop)
    (w : ∀ s, Wk J (I s) im xs) (h0 : I s σ H) (hm : R.wp ((forF f xs s).bind (contF rest o)) q e)
    (turn : ∀ (s : τ) (x : α) (v : V) (σ : L2.St) (H : Hp) (q' : Fl τ ρ → Prop) (N B : L2.St → Hp → Prop), I s σ H → im H v x → R.wp (f s x) q' e → (∀ s' σ' H', q' (.go s') → I s' σ' H' → N σ' H') → (∀ s' σ' H', q' (.brk s') → I s' σ' H' → B σ' H') → (∀ r, q' (.out r) → R.wp (o r) q e) →
      g v σ H fun σ2 H2 => tb (loopD D N B) σ2 H2)
    (done : ∀ s σ H, R.wp (rest s) q e → I s σ H → D.nx σ H) : forK g tb D σ J H :=
  for_walkF (D := D) (I := I) (k := fun r => R.wp (contF rest o r) q e) w h0 (R.wp_bind hm) (fun s x v σ H q' N B hI hv hw h1 h2 h3 => turn s x v σ H q' N B hI hv hw h1 h2 h3) (fun s σ H h hI => done s σ H h hI)
theorem k_gT {K : PySem.W.Frag} {n : Nat} {t : TGs} {a : Addr} {us : List V} {P : St → Hp → Prop} (h : H a = some (.tup us)) (hl : us.length = n := by rfl) (k : t us σ H P) : gTup K n t (.ref a) σ H P := ⟨a, us, rfl, SqT.of h, hl, k⟩
theorem k_gC {i : Nat} {u : TGs} {us : List V} {P : St → Hp → Prop} (e : σ.set i (some v) = σ') (k : u us σ' H P) : gCons (gName i) u (v :: us) σ H P := ⟨v, us, rfl, by show u us (σ.set i (some v)) H P; rw [e]; exact k⟩
theorem k_gE {P : St → Hp → Prop} (k : P σ H) : gNil [] σ H P := ⟨rfl, k⟩
end
section
variable {X : Cx} (K : PySem.W.Frag) (hK : X.K = K := by rfl)
include hK
theorem catTK : OpR X (binaryOp .Add) (rCatT K) := by subst hK; exact op_catT
theorem sl_tupK : SlR X (rSlT K) := by subst hK; exact sl_tup
theorem lenAnyK : CallR X (.builtin "len") (rLenAny K) := by subst hK; exact call_lenAny
theorem pg_tupK {es : List Expr} {k : Nat} {pos : Pos} {t : TGs} {n : Nat} (hc : X.calm = true) (h : PGs X es t) (hn : (assignEach es X.env).length = n := by rfl) (hst : (assignEach es X.env).findIdx? (·.1) = none := by rfl) : PG X (.Tuple es k pos) (gTup K n t) := by
  subst hK; exact pg_tup hc h hn hst
end
end Ml

/-! ### an exception that is held, handed to a def that raises nothing -/
namespace L2
open PySem PySem.Spec PyProof.Rows
/-- what a def promises that gets the pinned exception -/
structure FnE (P : Program) (w : World) (K : PySem.W.Frag) (mg : Str → Option Value) (base : Heap) (k : Nat) (f : Addr) (fd : FuncData) (ps : List Str) (sp : Addr × Obj → Sp) : Prop where
  len : ∀ p vs H Q E, sp p vs H Q E → vs.length = ps.length
  run : ∀ (A : Around) (outer : List Env) (s : Shared) (H : Hp) (args : Args) (us : List Value) (vs : List V) (Q : VK) (E : XK) (p : Addr × Obj), L2H.RoomH k A → L2H.PinOk outer H s p → Env0 P w K mg base A outer s H → BindsTo s fd args (ps.zip us) → Vals vs us → sp p vs H Q E →
    codeAny (model P w) A (.call (.ref f) args) (CR CX0 outer P w H s Q E) s
theorem Fun.okE {P : Program} {w : World} {K : PySem.W.Frag} {mg : Str → Option Value} {base : Heap} {x qual : Str} {st : Stmt} {f : Addr} {fd : FuncData} {N ps : List Str} {k : Nat} {sp : Addr × Obj → Sp} (F : Fun K x qual st f fd) (S : FnScope N ps (defScope st)) (len : ∀ p vs H Q E, sp p vs H Q E → vs.length = ps.length)
    (hbody : ∀ (cdv : Value) (A : Around) (outer : List Env) (s : Shared) (H : Hp) (vs : List V) (Q : VK) (E : XK) (p : Addr × Obj), L2H.RoomH k (A.deeper (envOfC qual (defScope st) s.heap.objs.size f cdv)) → sp p vs H Q E →
      ∃ t, PSs (L2H.cxH CX0 P w K mg base N qual (defScope st) f cdv A outer s H E p).nox (defBody st) t ∧ t { nx := fun _ H' => Q .non H', rt := Q } (start N vs) H) : FnE P w K mg base (k + 1) f fd ps sp := by
  obtain ⟨oc, od, kV, doc, pm, an, cdv, ct, osl, rfl, lk, hcd⟩ := F.ex
  refine ⟨len, fun A outer s H args us vs Q E p hr hpin e0 hb r hsp => ?_⟩
  have hl := len _ _ _ _ _ hsp
  have KX : K.In s.heap := e0.mod.kin.keeps fun b o e => (e0.bs b o e).1
  have lim : s.heap.NoLimit := e0.mod.nolimit.keeps fun b o e => (e0.bs b o e).1
  have hkind : ∀ y ∈ ps.zip us, (defScope st).names.lookup y.1 = some .local ∨ ((defScope st).names.lookup y.1 = some .cell ∧ ((cellsFrom (s.heap.objs.size + 1) (defScope st).names []).lookup y.1).isSome = true) := fun ⟨n, v⟩ hy => by
    rcases S.par n (List.of_mem_zip hy).1 with q | q
    · exact .inl q
    · exact .inr ⟨q, PySem.W.cellsFrom_some _ _ _ (.inl q)⟩
  refine codeAny_call_function hr.depth (KX _ _ lk) rfl S.co S.gen rfl (PySem.W.codeRec_of KX hcd) (hb _ _ _ _ ?_)
  refine wpAny_newFunctionEnv_cells S.kind hkind fun env he s1 x => ?_
  subst he
  refine ⟨lim.keeps x.toInCall.keep, codeAny_func ?_⟩
  obtain ⟨t, ht, hq⟩ := hbody cdv A outer s H vs Q E p (hr.deeper _) hsp
  have I : Inv (L2H.cxH CX0 P w K mg base N qual (defScope st) f cdv A outer s H E p) [] (L2.start N vs) H s1 := L2H.inv_startH S hpin e0 hl r x
  refine wpAny_mono (ht.nox.run [] s1 (L2.start N vs) H _ I hq) (fun fl s' hs => ?_) fun e s' hs => hs
  have fin : ∀ {σ' : St} {H' : Hp} {v : V} {u : Value}, Inv (L2H.cxH CX0 P w K mg base N qual (defScope st) f cdv A outer s H E p) [] σ' H' s' → RelV v u → Q v H' → CE outer P w H s Q u s' :=
    fun {σ' H' v u} J rv q => ⟨v, H', J.os, J.bare, J.base, J.hok, rv, q⟩
  cases fl with
  | ret u =>
    obtain ⟨v, σ', H', J, rv, q⟩ := hs
    exact fin J rv q
  | next =>
    obtain ⟨σ', H', J, q⟩ := hs
    exact fin (v := V.non) (u := Value.none) J rfl q
  | brk =>
    obtain ⟨_, _, _, q⟩ := hs
    exact False.elim q
  | cont =>
    obtain ⟨_, _, _, q⟩ := hs
    exact False.elim q
section
variable {X : Cx} {k : Nat} {f : Addr} {fd : FuncData} {ps : List Str} {sp : Addr × Obj → Sp} {x : Str} {q pos : Pos} {e : Expr} {es : List Expr} {t : TA} {p : Addr × Obj}
/-- f(e), e the exception that the suite holds at a -/
def tCallE (a : Addr) (cls : Value) (d : Option Addr) (sp : Addr × Obj → Sp) (t : TA) : TE := fun σ H Q => t σ H fun vs H1 => ∀ oe, Zc cls d oe → (∃ vs, oe.data = .fields vs) → sp (a, oe) vs H1 Q E0
theorem c_callE {a : Addr} {cls : Value} {d : Option Addr} {σ : St} {H : Hp} {Q : VK} (h : t σ H fun vs H1 => ∀ oe, Zc cls d oe → (∃ vs, oe.data = .fields vs) → sp (a, oe) vs H1 Q E0) : tCallE a cls d sp t σ H Q := h
theorem pe_callE {a : Addr} {cls : Value} {d : Option Addr} {oe : Obj} (hp : (a, oe) ∈ X.pn) (hz : Zc cls d oe) (hf : ∃ vs, oe.data = .fields vs) (F : FnE X.prog X.w X.K X.mg X.base k f fd ps sp) (hr : L2H.RoomH k X.A) (hg : Gl X x) (hm : X.mg x = some (.ref f)) (hk : PySem.W.keepIn X.K (.ref f) = true) (hb : Binds X.K fd ps [])
    (ha : PA X (e :: es) t) (hdb : (x == ("__debug__" : Str)) = false := by decide) (he : starEach (e :: es) X.env = (false, eval e X.env) :: starEach es X.env := by rfl) (hpl : (backTo pos (starEach es X.env)).any (·.1) = false := by rfl) :
    PE X (.Call (.Name x q) (e :: es) [] pos) (tCallE a cls d sp t) := by
  refine ⟨fun pins s σ H Q I h => ?_⟩
  refine wpAny_Call_Name_kw (ld_glob I hg hm ?_ hdb)
  refine PySem.W.callWith_K (h₀ := X.base) I.ok.mod.kin hk (thn (ha.run pos pins s σ H _ I h) fun us s1 ⟨vs, H1, I1, r, q⟩ => ⟨I1.kIn, ?_⟩) he hpl
  have q : sp (a, oe) vs H1 Q E0 := q oe hz hf
  have hl : us.length = ps.length := by rw [← r.length]; exact F.len _ _ _ _ _ q
  have b := hb s1 us I1.kIn (by rw [List.append_nil]; exact hl)
  rw [List.append_nil] at b
  have P1 := I1.pin (a, oe) (List.mem_append_left _ hp)
  have hpin : L2H.PinOk X.stack H1 s1 (a, oe) := ⟨P1.1, P1.2.1, fun hm => (List.mem_cons.mp (I1.stkSub a hm)).elim P1.2.2.1 P1.2.2.2.1, P1.2.2.2.2⟩
  refine wpAny_call (codeAny_mono (F.run X.A X.stack s1 H1 ⟨us, []⟩ us vs Q E0 (a, oe) hr hpin I1.env0 b r q) fun r s' hq => ?_)
  cases r with
  | error e => exact hq.elim
  | ok fl =>
    cases fl with
    | ret u => exact I1.after hq
    | next => exact False.elim hq
    | brk => exact False.elim hq
    | cont => exact False.elim hq
end
/-- isinstance(e, c), e a pinned exception -/
def rIsEB (K : PySem.W.Frag) (D a : Addr) : List V → Hp → VK → Prop := fun xs H Q => ∃ (c : V) (cv : Value) (b : Bool), xs = [.ref a, c] ∧ ClsV c cv ∧ PySem.W.kitOne K (.ref D) cv = some b ∧ Q (.bl b) H
theorem call_isP {X : Cx} (K : PySem.W.Frag) {D : Addr} {p : Addr × Obj} (hp : p ∈ X.pn) (C : ExcC K D) (hz : Zc (.ref D) none p.2) (hf : ∃ vs, p.2.data = .fields vs) (hK : X.K = K := by rfl) : CallR X (.builtin "isinstance") (rIsEB K D p.1) := by
  subst hK
  intro pins s σ H xs us Q I r h
  obtain ⟨c, cv, b, rfl, hcv, e, q⟩ := h
  cases r with
  | cons rx rr =>
    cases rr with
    | cons rt rr =>
      cases rr
      cases rx
      have ec := hcv.eq rt
      subst ec
      have hget := (I.pin p (List.mem_append_left _ hp)).1
      obtain ⟨vs, hv⟩ := hf
      have J : PySem.W.InstAt s.heap p.1 p.2 D none := by
        obtain ⟨pa, ⟨oc, od, oda, osl⟩⟩ := p
        obtain ⟨h1, h2⟩ := hz
        dsimp only at h1 h2 hv hget
        subst h1 h2 hv
        exact ⟨hget, rfl, rfl, trivial⟩
      exact PySem.W.kia_one (PySem.W.handS_kitx_exc C.hg C.hk C.hs C.hd C.ha C.hn C.ht C.hm) I.kIn J e (fun z => nomatch z) fun tk => ⟨.bl b, H, I.kept (t' := tk) fun _ _ z => z, rfl, q⟩
/-- xs.count(x), over data -/
def rCountD (K : PySem.W.Frag) : V → List V → Hp → VK → Prop := fun x xs H Q => ∃ (a : Addr) (y : V) (d : PyData) (ds : List PyData), x = V.ref a ∧ xs = [y] ∧ Dp K H (V.ref a) (.list ds) ∧ Dp K H y d ∧
  SeqAt.shaped (.list ds) = true ∧ SeqAt.shaped d = true ∧ Q (.int ((ds.countP fun y => PyData.eqv y d : Nat) : Int)) H
theorem mt_countD {X : Cx} (hu : X.A.units + 65 < cLine) : MtR X "list.count" (rCountD X.K) := by
  intro pins s σ H x xs v us Q I rx rxs h
  obtain ⟨a, y, d, ds, rfl, rfl, hl, hy, sl, sd, q⟩ := h
  cases rx
  cases rxs with
  | cons ry rt =>
    rename_i uy ut
    cases rt
    obtain ⟨bs, r1⟩ := Dp.reads I d y uy hy ry
    have hxs : PyData.canLayAll0 ds = true := SeqAt.canLay_of_shaped sl
    have hroom : X.A.units + 1 + min (PyData.depthAll ds) d.depth < cLine := room_in_shaped sd hu
    cases hl with
    | lst hs ha =>
      obtain ⟨its, rv, hL⟩ := I.list hs
      obtain ⟨as, h4⟩ := Dp.readsAll I ds _ its ha rv
      exact PySem.SeqAt.count_list_data hL.1.isList h4 r1 (PyData.plainAll_of_canLay0 _ hxs) (PyData.plain_of_canLay0 _ (SeqAt.canLay_of_shaped sd)) hroom ⟨.int ((ds.countP fun y => PyData.eqv y d : Nat) : Int), H, I.tok _, ⟨_, rfl⟩, q⟩
end L2

namespace Ml
open PySem PySem.Spec PyProof.Rows L2
variable {G : Gx}
/-- an exception that is pinned -/
def ExB (G : Gx) (all : List Nat) (p : Addr × Obj) (x : Exc) : Prop := Zc (.ref (G.cl x.cls)) none p.2 ∧ (∃ vs, p.2.data = .fields vs) ∧ all.contains x.cls = true
theorem ev_isX {a : Addr} {σ : L2.St} {H : Hp} {D : Addr} {ta tb : TE} {c : V} {cv : Value} {b : Bool} (ha : Ev ta σ H (.ref a)) (hb : Ev tb σ H c) (hc : ClsV c cv) (e : PySem.W.kitOne G.K (.ref D) cv = some b) :
    Ev (tCB (rIsEB G.K D a) (tCons ta (tCons tb tNil))) σ H (.bl b) := ev_cb (ea_cons ha (ea_cons hb ea_nil)) fun _ q => ⟨c, cv, b, rfl, hc, e, q⟩
theorem mt_countK {X : Cx} (K : PySem.W.Frag) (hu : X.A.units + 65 < cLine) (hK : X.K = K := by rfl) : MtR X "list.count" (rCountD K) := by subst hK; exact mt_countD hu
theorem huH {k : Nat} {A : Around} (r : L2H.RoomH k A) : A.units + 65 < cLine := by have := r.un; omega
theorem hu0 {k : Nat} {A : Around} (r : Room k A) : A.units + 65 < cLine := by have := r.un; omega
theorem hotRoom {j k : Nat} {A : Around} {v : Option Value} (r : Room k A) (h : j ≤ k) : L2H.RoomH j (A.mark v) := ⟨(r.mono h).dp, (r.mono h).un⟩
section
variable {H : Hp} {σ σ' : L2.St} {D : Ends}
theorem w_asE {K : PySem.W.Frag} {c : Value} {i : Nat} {ts : Addr → Value → Option Addr → TS} {Wout : WX} {all subs : List Nat} {x : Exc} {β : Type} {A B : R β} {q : β → Prop} {e : Exc → Prop}
    (ex : all.contains x.cls = true → PySem.W.exmOne K (.ref (G.cl x.cls)) c = some (subs.contains x.cls)) (hm : R.wp (catchR all subs x A B) q e)
    (h1 : all.contains x.cls = true → R.wp A q e → ∀ a, H a = none → ts a (.ref (G.cl x.cls)) none { nx := fun σ' H' => D.nx (σ'.set i none) H', rt := D.rt, bk := fun σ' H' => D.bk (σ'.set i none) H', ct := fun σ' H' => D.ct (σ'.set i none) H' } (σ.set i (some (.ref a))) H)
    (h2 : R.wp B q e → Wout (.ref (G.cl x.cls)) none σ H) : Eok G x (WE (wAs K c i ts Wout D) σ) H := by
  unfold catchR at hm
  by_cases c1 : all.contains x.cls = true
  · rw [if_pos c1] at hm
    refine ⟨_, ex c1, fun z => ?_, fun z => ?_⟩
    · rw [if_pos z] at hm; exact h1 c1 hm
    · rw [z, if_neg Bool.false_ne_true] at hm; exact h2 hm
  · rw [if_neg c1] at hm; exact hm.elim
end
section
variable {α : Type} [Im G α] [DecidableEq α] [Lay α] [Pd G α] {H : Hp} {σ : L2.St} {Q : VK} {v w : V} {x y : α}
theorem countP_pd {xs : List α} {x : α} : (xs.map (Pd.pd G)).countP (fun y => PyData.eqv y (Pd.pd G x)) = xs.countP (fun y => decide (y = x)) := by
  rw [List.countP_map]
  congr 1
  funext y
  show PyData.eqv (Pd.pd G y) (Pd.pd G x) = _
  rw [Pd.eqv]
theorem k_count {a : Addr} {xs : List α} {x : α} (d1 : Dp G.K H (.ref a) (Pd.pd G xs)) (d2 : Dp G.K H w (Pd.pd G x)) (l1 : Lay.lay xs = true) (l2 : Lay.lay x = true) (d : Pd.dep G (List α) ≤ 64) (d0 : Pd.dep G α ≤ 64)
    (q : Q (.int ((xs.countP fun y => decide (y = x) : Nat) : Int)) H) : rCountD G.K (.ref a) [w] H Q :=
  ⟨a, w, _, _, rfl, rfl, d1, d2, shapedP (x := xs) l1 d, shapedP l2 d0, by rw [countP_pd]; exact q⟩
end
end Ml


namespace Ml
open PySem L2
/-! ### plain lemmas: loops, items, texts -/
section
variable {α β σ ρ : Type}
theorem forR_ok {f : σ → α → R σ} (I : List α → σ → Prop) : ∀ {xs : List α} {s : σ} (pre : List α), I pre s → (∀ p x q s, pre ++ xs = p ++ x :: q → I p s → ∃ s', f s x = .ok s' ∧ I (p ++ [x]) s') → ∃ s', forR f xs s = .ok s' ∧ I (pre ++ xs) s'
  | [], s, pre, h0, _ => ⟨s, rfl, by rw [List.append_nil]; exact h0⟩
  | x :: xs, s, pre, h0, hs => by
    obtain ⟨s1, e1, h1⟩ := hs pre x xs s rfl h0
    obtain ⟨s2, e2, h2⟩ := forR_ok I (xs := xs) (s := s1) (pre ++ [x]) h1 fun p y q s e => hs p y q s (by rw [← e]; simp)
    refine ⟨s2, ?_, by rw [List.append_assoc] at h2; exact h2⟩
    show (f s x).bind _ = _
    rw [e1, R.bind_ok]; exact e2
theorem forR_inv {f : σ → α → R σ} {xs : List α} {s : σ} (I : List α → σ → Prop) (h0 : I [] s) (hs : ∀ p x q s, xs = p ++ x :: q → I p s → ∃ s', f s x = .ok s' ∧ I (p ++ [x]) s') : ∃ s', forR f xs s = .ok s' ∧ I xs s' := by
  obtain ⟨s', h1, h2⟩ := forR_ok I (xs := xs) (s := s) [] h0 fun p x q s e => hs p x q s (by simpa using e)
  exact ⟨s', h1, by simpa using h2⟩
/-- an invariant that does not look at the place -/
theorem forR_keep {f : σ → α → R σ} {xs : List α} {s : σ} (I : σ → Prop) (h0 : I s) (hs : ∀ x s, x ∈ xs → I s → ∃ s', f s x = .ok s' ∧ I s') : ∃ s', forR f xs s = .ok s' ∧ I s' :=
  forR_inv (fun _ s => I s) h0 fun p x q s e h => hs x s (by rw [e]; simp) h
theorem forR_foldl {f : σ → α → R σ} {g : σ → α → σ} {xs : List α} {s : σ} (h : ∀ s x, x ∈ xs → f s x = .ok (g s x)) : forR f xs s = .ok (xs.foldl g s) := by
  induction xs generalizing s with
  | nil => rfl
  | cons x xs ih =>
    show (f s x).bind _ = _
    rw [h s x (by simp), R.bind_ok]
    exact ih fun s y hy => h s y (by simp [hy])
theorem forF_inv {f : σ → α → R (Fl σ ρ)} (I : List α → σ → Prop) : ∀ {xs : List α} {s : σ} (pre : List α), I pre s → (∀ p x q s, pre ++ xs = p ++ x :: q → I p s → ∃ s', f s x = .ok (.go s') ∧ I (p ++ [x]) s') → ∃ s', forF f xs s = .ok (.go s') ∧ I (pre ++ xs) s'
  | [], s, pre, h0, _ => ⟨s, rfl, by rw [List.append_nil]; exact h0⟩
  | x :: xs, s, pre, h0, hs => by
    obtain ⟨s1, e1, h1⟩ := hs pre x xs s rfl h0
    obtain ⟨s2, e2, h2⟩ := forF_inv I (xs := xs) (s := s1) (pre ++ [x]) h1 fun p y q s e => hs p y q s (by rw [← e]; simp)
    refine ⟨s2, ?_, by rw [List.append_assoc] at h2; exact h2⟩
    show (f s x).bind _ = _
    rw [e1, R.bind_ok]; exact e2
/-- the loop goes on to its end -/
theorem forF_keep {f : σ → α → R (Fl σ ρ)} {xs : List α} {s : σ} (I : σ → Prop) (h0 : I s) (hs : ∀ x s, x ∈ xs → I s → ∃ s', f s x = .ok (.go s') ∧ I s') : ∃ s', forF f xs s = .ok (.go s') ∧ I s' := by
  obtain ⟨s', h1, h2⟩ := forF_inv (fun _ s => I s) (xs := xs) (s := s) [] h0 fun p x q s e h => hs x s (by rw [List.nil_append] at e; rw [e]; simp) h
  exact ⟨s', h1, h2⟩
theorem compR_map {f : Unit → α → R (Unit × Option β)} {g : α → β} {xs : List α} (h : ∀ x, x ∈ xs → f () x = .ok ((), some (g x))) : compR f xs () = .ok ((), xs.map g) := by
  induction xs with
  | nil => rfl
  | cons x xs ih =>
    show (f () x).bind _ = _
    rw [h x (by simp), R.bind_ok, ih fun y hy => h y (by simp [hy])]
    rfl
theorem compR_filterMap {f : Unit → α → R (Unit × Option β)} {g : α → Option β} {xs : List α} (h : ∀ x, x ∈ xs → f () x = .ok ((), g x)) : compR f xs () = .ok ((), xs.filterMap g) := by
  induction xs with
  | nil => rfl
  | cons x xs ih =>
    show (f () x).bind _ = _
    rw [h x (by simp), R.bind_ok, ih fun y hy => h y (by simp [hy])]
    cases e : g x with
    | none => simp [e]
    | some y => simp [e]
theorem compR_all {f : Unit → α → R (Unit × Option β)} {xs : List α} (P : β → Prop) (h : ∀ x, x ∈ xs → ∃ y, f () x = .ok ((), some y) ∧ P y) : ∃ ys, compR f xs () = .ok ((), ys) ∧ ys.length = xs.length ∧ ∀ y, y ∈ ys → P y := by
  induction xs with
  | nil => exact ⟨[], rfl, rfl, by simp⟩
  | cons x xs ih =>
    obtain ⟨y, e, p⟩ := h x (by simp)
    obtain ⟨ys, e2, l, q⟩ := ih fun z hz => h z (by simp [hz])
    refine ⟨y :: ys, ?_, by simp [l], fun z hz => ?_⟩
    · show (f () x).bind _ = _
      rw [e, R.bind_ok, e2]; rfl
    · rcases List.mem_cons.mp hz with rfl | hz
      · exact p
      · exact q z hz
/-- a comprehension that carries a state -/
theorem compR_keep {f : σ → α → R (σ × Option β)} {xs : List α} {s : σ} (I : σ → Prop) (P : β → Prop) (h0 : I s) (h : ∀ s x, x ∈ xs → I s → ∃ s' y, f s x = .ok (s', some y) ∧ I s' ∧ P y) : ∃ s' ys, compR f xs s = .ok (s', ys) ∧ I s' ∧ ys.length = xs.length ∧ ∀ y, y ∈ ys → P y := by
  induction xs generalizing s with
  | nil => exact ⟨s, [], rfl, h0, rfl, by simp⟩
  | cons x xs ih =>
    obtain ⟨s1, y, e, h1, p⟩ := h s x (by simp) h0
    obtain ⟨s2, ys, e2, h2, l, q⟩ := ih h1 fun s z hz => h s z (by simp [hz])
    refine ⟨s2, y :: ys, ?_, h2, by simp [l], fun z hz => ?_⟩
    · show (f s x).bind _ = _
      rw [e, R.bind_ok, e2]; rfl
    · rcases List.mem_cons.mp hz with rfl | hz
      · exact p
      · exact q z hz
theorem idxR_mem {xs : List α} {i : Int} (h0 : 0 ≤ i) (h1 : i < xs.length) : ∃ x, idxR xs i = .ok x ∧ x ∈ xs ∧ xs[i.toNat]? = some x := by
  obtain ⟨x, h, _⟩ := atI_ok h0 h1
  exact ⟨x, idxR_ok h0 h, List.mem_of_getElem? h, h⟩
theorem ixR_ok {xs : List α} {i : Int} (h0 : 0 ≤ i) (h1 : i < xs.length) : ixR xs i = .ok i.toNat := by
  unfold ixR ixN
  rw [if_pos h0, if_pos h1]
theorem mem_set {xs : List α} {j : Nat} {v x : α} (h : x ∈ xs.set j v) : x ∈ xs ∨ x = v := by
  rcases List.mem_or_eq_of_mem_set h with h | h
  · exact .inl h
  · exact .inr h
theorem cutL_sub {xs : List α} {lo hi : Option Int} : (cutL xs lo hi).Sublist xs := (List.take_sublist _ _).trans (List.drop_sublist _ _)
theorem cutL_mem {xs : List α} {lo hi : Option Int} {x : α} (h : x ∈ cutL xs lo hi) : x ∈ xs := cutL_sub.subset h
theorem cutL_len {xs : List α} {lo hi : Option Int} : (cutL xs lo hi).length ≤ xs.length := cutL_sub.length_le
theorem sIx_nn {n d : Nat} {i : Int} (h : 0 ≤ i) : HT.sIx n d (some i) = min i.toNat n := by
  show (if i < 0 then (i + (n : Int)).toNat else min i.toNat n) = _
  rw [if_neg (by omega)]
theorem cutL_to {xs : List α} {i : Int} (h : 0 ≤ i) : cutL xs none (some i) = xs.take i.toNat := by
  unfold cutL
  rw [sIx_nn h, HT.sIx_none, List.drop_zero, Nat.sub_zero]
  by_cases c : i.toNat ≤ xs.length
  · rw [Nat.min_eq_left c]
  · rw [Nat.min_eq_right (by omega), List.take_of_length_le (Nat.le_refl _), List.take_of_length_le (by omega)]
theorem cutL_from {xs : List α} {i : Int} (h : 0 ≤ i) : cutL xs (some i) none = xs.drop i.toNat := by
  unfold cutL
  rw [sIx_nn h, HT.sIx_none]
  by_cases c : i.toNat ≤ xs.length
  · rw [Nat.min_eq_left c, List.take_of_length_le (by rw [List.length_drop]; exact Nat.le_refl _)]
  · rw [Nat.min_eq_right (by omega), List.drop_length, List.drop_of_length_le (by omega), List.take_nil]
theorem cutL_but1 {xs : List α} : cutL xs none (some (-1)) = xs.dropLast := by
  unfold cutL
  have e : HT.sIx xs.length xs.length (some (-1)) = (-1 + (xs.length : Int)).toNat := by
    show (if (-1 : Int) < 0 then (-1 + (xs.length : Int)).toNat else min (-1 : Int).toNat xs.length) = _
    rw [if_pos (by decide)]
  rw [HT.sIx_none, e, List.drop_zero, Nat.sub_zero, List.dropLast_eq_take]
  congr 1; omega
theorem rngL_mem {lo x : Int} {n : Nat} (h : x ∈ rngL lo n) : lo ≤ x ∧ x < lo + n := by
  unfold rngL at h
  obtain ⟨i, hi, rfl⟩ := List.mem_map.mp h
  have := List.mem_range.mp hi
  omega
end
/-! texts -/
theorem len_app (a b : Str) : (a ++ b).length = a.length + b.length := by
  show (a.cps ++ b.cps).size = a.cps.size + b.cps.size
  rw [Array.size_append]
theorem tl_app (a b : Str) : (a ++ b).cps.toList = a.cps.toList ++ b.cps.toList := by
  show (a.cps ++ b.cps).toList = _
  rw [Array.toList_append]
theorem len_tl (x : Str) : x.length = x.cps.toList.length := by simp [Str.length]
theorem str_ext {x y : Str} (h : x.cps.toList = y.cps.toList) : x = y := Str.ext' (Array.toList_inj.mp h)
/-- all signs below 128 -/
def Asc (x : Str) : Prop := ∀ c, c ∈ x.cps.toList → c < 128
theorem Asc.app {a b : Str} (ha : Asc a) (hb : Asc b) : Asc (a ++ b) := fun c hc => by
  rw [tl_app] at hc
  rcases List.mem_append.mp hc with h | h
  · exact ha c h
  · exact hb c h
theorem Asc.sg {c : Nat} (h : c < 128) : Asc (sg c) := fun d hd => by
  have : d = c := by simpa [Ml.sg] using hd
  omega
theorem Asc.lit {x : Str} (h : x.cps.toList.all (· < 128) = true) : Asc x := fun c hc => by
  have := List.all_eq_true.mp h c hc
  simpa using this
theorem Asc.lay {x : Str} (h : Asc x) : (Lay.lay x : Bool) = true := by
  show PyData.strOk x = true
  unfold PyData.strOk
  rw [← Array.all_toList]
  exact List.all_eq_true.mpr fun c hc => decide_eq_true (Nat.lt_trans (h c hc) (by decide))
theorem lay_all {xs : List Str} (h : ∀ x, x ∈ xs → Asc x) : layAllB xs = true := List.all_eq_true.mpr fun x hx => (h x hx).lay
theorem joinL_nil : ∀ ls : List (List Nat), TL.joinL [] ls = ls.flatten
  | [] => rfl
  | [l] => by simp [TL.joinL]
  | l :: m :: r => by
    rw [TL.joinL, joinL_nil (m :: r)]; simp
theorem join_nil (ys : List Str) : (Txt.join ("" : Str) ys).cps.toList = (ys.map fun y => y.cps.toList).flatten := by
  rw [TL.join_eq]
  have ej := TL.tl_join ("" : Str) ys
  have e0 : TL.tl ("" : Str) = [] := by decide
  rw [e0, joinL_nil] at ej
  exact ej
theorem len_join_nil (ys : List Str) : (Txt.join ("" : Str) ys).length = (ys.map (·.length)).sum := by
  rw [len_tl, join_nil, List.length_flatten, List.map_map]
  exact congrArg List.sum (List.map_congr_left fun y _ => (len_tl y).symm)
theorem sum_le {xs : List Str} {k : Nat} (h : ∀ x, x ∈ xs → x.length ≤ k) : (xs.map (·.length)).sum ≤ xs.length * k := by
  induction xs with
  | nil => simp
  | cons x xs ih =>
    have h1 := h x (by simp)
    have h2 := ih fun y hy => h y (by simp [hy])
    rw [List.map_cons, List.sum_cons, List.length_cons, Nat.succ_mul]
    omega
theorem Asc.join {ys : List Str} (h : ∀ y, y ∈ ys → Asc y) : Asc (Txt.join ("" : Str) ys) := fun c hc => by
  rw [join_nil] at hc
  obtain ⟨l, hl, hc⟩ := List.mem_flatten.mp hc
  obtain ⟨y, hy, rfl⟩ := List.mem_map.mp hl
  exact h y hy c hc
theorem upper_tl {x : Str} (h : Asc x) : (Txt.upper x).cps.toList = x.cps.toList.map PyProof.Rows.up1 := by
  rw [PyProof.Rows.upper_ascii h]; simp
theorem lower_tl {x : Str} (h : Asc x) : (Txt.lower x).cps.toList = x.cps.toList.map PyProof.Rows.lo1 := by
  rw [PyProof.Rows.lower_ascii h]; simp
theorem up1_lt {c : Nat} (h : c < 128) : PyProof.Rows.up1 c < 128 := by unfold PyProof.Rows.up1; split <;> omega
theorem lo1_lt {c : Nat} (h : c < 128) : PyProof.Rows.lo1 c < 128 := by unfold PyProof.Rows.lo1; split <;> omega
theorem Asc.upper {x : Str} (h : Asc x) : Asc (Txt.upper x) := fun c hc => by
  rw [upper_tl h] at hc
  obtain ⟨d, hd, rfl⟩ := List.mem_map.mp hc
  exact up1_lt (h d hd)
theorem Asc.lower {x : Str} (h : Asc x) : Asc (Txt.lower x) := fun c hc => by
  rw [lower_tl h] at hc
  obtain ⟨d, hd, rfl⟩ := List.mem_map.mp hc
  exact lo1_lt (h d hd)
theorem len_upper {x : Str} (h : Asc x) : (Txt.upper x).length = x.length := by rw [len_tl, upper_tl h, List.length_map, len_tl]
theorem len_lower {x : Str} (h : Asc x) : (Txt.lower x).length = x.length := by rw [len_tl, lower_tl h, List.length_map, len_tl]
theorem len_sg (c : Nat) : (sg c).length = 1 := rfl
theorem cutS_tl (z : Str) (lo hi : Option Int) : (cutS z lo hi).cps.toList = cutL z.cps.toList lo hi := by
  show ((cutS z lo hi).cps).toList = _
  unfold cutS cutL
  rw [← len_tl]
theorem cutS_asc {x : Str} {a b : Option Int} (h : Asc x) : Asc (cutS x a b) := fun c hc => h c (by
  rw [cutS_tl] at hc
  exact cutL_mem hc)
theorem cutS_len2 {x : Str} {n : Int} (h : 0 ≤ n) : (cutS x none (some n)).length + (cutS x (some n) none).length ≤ x.length := by
  rw [len_tl, len_tl, len_tl, cutS_tl, cutS_tl, cutL_to h, cutL_from h, List.length_take, List.length_drop]; omega
/-! str of a small number -/
theorem log2_small {i : Int} (h0 : -1000000000000 < i) (h1 : i < 1000000000000) : i.natAbs.log2 < 1920 := by
  have h : i.natAbs < 2 ^ 40 := by omega
  by_cases z : i.natAbs = 0
  · rw [z]; decide
  · exact Nat.lt_trans ((Nat.log2_lt z).mpr h) (by decide)
theorem tl_num (n : Nat) : (Str.ofString (toString ((n : Nat) : Int))).cps.toList = TL.numL n := TL.tl_num n
end Ml
namespace Ml
open PySem L2
/-! ### total programs: it comes to an answer with P -/
def Ok {α : Type} (m : R α) (P : α → Prop) : Prop := ∃ a, m = .ok a ∧ P a
namespace Ok
variable {α β σ ρ : Type} {P : ρ → Prop}
theorem ret {a : ρ} (h : P a) : Ok (.ok a) P := ⟨a, rfl, h⟩
theorem bind {m : R α} {f : α → R ρ} {Q : α → Prop} (h : Ok m Q) (k : ∀ a, Q a → Ok (f a) P) : Ok (m.bind f) P := by
  obtain ⟨a, e, q⟩ := h
  rw [e, R.bind_ok]; exact k a q
theorem bindE {m : R α} {f : α → R ρ} {a : α} (h : m = .ok a) (k : Ok (f a) P) : Ok (m.bind f) P := by
  rw [h, R.bind_ok]; exact k
theorem lets {a : α} {f : α → R ρ} (k : Ok (f a) P) : Ok ((R.ok a).bind f) P := k
theorem name {a : α} {f : α → R ρ} (k : ∀ y, y = a → Ok (f y) P) : Ok ((R.ok a).bind f) P := k a rfl
theorem need {p : Prop} [Decidable p] {m : R ρ} (h : p) (k : Ok m P) : Ok (R.need p m) P := by rw [R.need_pos h]; exact k
theorem ite {c : Prop} [Decidable c] {a b : R ρ} (h1 : c → Ok a P) (h2 : ¬ c → Ok b P) : Ok (if c then a else b) P := by
  by_cases h : c
  · rw [if_pos h]; exact h1 h
  · rw [if_neg h]; exact h2 h
theorem ifT {c : Prop} [Decidable c] {a b : R ρ} (h : c) (k : Ok a P) : Ok (if c then a else b) P := by rw [if_pos h]; exact k
theorem ifF {c : Prop} [Decidable c] {a b : R ρ} (h : ¬ c) (k : Ok b P) : Ok (if c then a else b) P := by rw [if_neg h]; exact k
theorem mono {Q : ρ → Prop} {m : R ρ} (h : Ok m Q) (k : ∀ a, Q a → P a) : Ok m P := by
  obtain ⟨a, e, q⟩ := h
  exact ⟨a, e, k a q⟩
theorem eq {m : R ρ} {v : ρ} (h : Ok m (· = v)) : m = .ok v := by
  obtain ⟨a, e, q⟩ := h
  rw [e, q]
theorem idx {xs : List α} {i : Int} {f : α → R ρ} (h0 : 0 ≤ i) (h1 : i < xs.length) (k : ∀ x, x ∈ xs → xs[i.toNat]? = some x → Ok (f x) P) : Ok ((idxR xs i).bind f) P := by
  obtain ⟨x, e, m, g⟩ := idxR_mem h0 h1
  rw [e, R.bind_ok]; exact k x m g
theorem ix {xs : List α} {i : Int} {f : Nat → R ρ} (h0 : 0 ≤ i) (h1 : i < xs.length) (k : Ok (f i.toNat) P) : Ok ((ixR xs i).bind f) P := by
  rw [ixR_ok h0 h1, R.bind_ok]; exact k
theorem forI {f : σ → α → R σ} {xs : List α} {s : σ} {rest : σ → R ρ} (I : List α → σ → Prop) (h0 : I [] s) (hs : ∀ p x q s, xs = p ++ x :: q → I p s → Ok (f s x) (I (p ++ [x]))) (k : ∀ s, I xs s → Ok (rest s) P) : Ok ((forR f xs s).bind rest) P :=
  bind (forR_inv I h0 hs) k
theorem forK {f : σ → α → R σ} {xs : List α} {s : σ} {rest : σ → R ρ} (I : σ → Prop) (h0 : I s) (hs : ∀ x s, x ∈ xs → I s → Ok (f s x) I) (k : ∀ s, I s → Ok (rest s) P) : Ok ((forR f xs s).bind rest) P :=
  bind (forR_keep I h0 hs) k
theorem forL {f : σ → α → R σ} (g : σ → α → σ) {xs : List α} {s : σ} {rest : σ → R ρ} (hs : ∀ x s, x ∈ xs → f s x = .ok (g s x)) (k : Ok (rest (xs.foldl g s)) P) : Ok ((forR f xs s).bind rest) P :=
  bindE (forR_foldl fun s x h => hs x s h) k
theorem forFK {τ : Type} {f : σ → α → R (Fl σ τ)} {xs : List α} {s : σ} {rest : Fl σ τ → R ρ} (I : σ → Prop) (h0 : I s) (hs : ∀ x s, x ∈ xs → I s → Ok (f s x) (fun r => ∃ s', r = .go s' ∧ I s')) (k : ∀ s, I s → Ok (rest (.go s)) P) : Ok ((forF f xs s).bind rest) P := by
  obtain ⟨s', e, h⟩ := forF_keep (f := f) (xs := xs) I h0 fun x s hx hI => by
    obtain ⟨r, e, s', rfl, h⟩ := hs x s hx hI
    exact ⟨s', e, h⟩
  exact bindE e (k s' h)
theorem forFI {τ : Type} {f : σ → α → R (Fl σ τ)} {xs : List α} {s : σ} {rest : Fl σ τ → R ρ} (I : List α → σ → Prop) (h0 : I [] s) (hs : ∀ p x q s, xs = p ++ x :: q → I p s → Ok (f s x) (fun r => ∃ s', r = .go s' ∧ I (p ++ [x]) s')) (k : ∀ s, I xs s → Ok (rest (.go s)) P) : Ok ((forF f xs s).bind rest) P := by
  obtain ⟨s', e, h⟩ := forF_inv (f := f) (xs := xs) I [] h0 fun p x q s hx hI => by
    obtain ⟨r, e, s', rfl, h⟩ := hs p x q s (by simpa using hx) hI
    exact ⟨s', e, h⟩
  exact bindE e (k s' (by simpa using h))
/-- a comprehension whose items all have Q -/
theorem comp {f : Unit → α → R (Unit × Option β)} {xs : List α} {rest : Unit × List β → R ρ} (Q : β → Prop) (h : ∀ x, x ∈ xs → Ok (f () x) (fun r => ∃ y, r.2 = some y ∧ Q y)) (k : ∀ ys, ys.length = xs.length → (∀ y, y ∈ ys → Q y) → Ok (rest ((), ys)) P) : Ok ((compR f xs ()).bind rest) P := by
  obtain ⟨ys, e, l, q⟩ := compR_all (f := f) (xs := xs) Q fun x hx => by
    obtain ⟨r, e, y, e2, hy⟩ := h x hx
    exact ⟨y, by rw [e, ← e2], hy⟩
  exact bindE e (k ys l q)
/-- .. whose items are told -/
theorem compM {f : Unit → α → R (Unit × Option β)} {xs : List α} {rest : Unit × List β → R ρ} (g : α → β) (h : ∀ x, x ∈ xs → Ok (f () x) (fun r => r.2 = some (g x))) (k : Ok (rest ((), xs.map g)) P) : Ok ((compR f xs ()).bind rest) P := by
  refine bindE (compR_map (g := g) fun x hx => ?_) k
  obtain ⟨r, e, e2⟩ := h x hx
  rw [e, ← e2]
theorem compF {f : Unit → α → R (Unit × Option β)} {xs : List α} {rest : Unit × List β → R ρ} (g : α → Option β) (h : ∀ x, x ∈ xs → Ok (f () x) (fun r => r.2 = g x)) (k : Ok (rest ((), xs.filterMap g)) P) : Ok ((compR f xs ()).bind rest) P := by
  refine bindE (compR_filterMap (g := g) fun x hx => ?_) k
  obtain ⟨r, e, e2⟩ := h x hx
  rw [e, ← e2]
/-- .. that carries a state -/
theorem compS {f : σ → α → R (σ × Option β)} {xs : List α} {s : σ} {rest : σ × List β → R ρ} (I : σ → Prop) (Q : β → Prop) (h0 : I s) (h : ∀ s x, x ∈ xs → I s → Ok (f s x) (fun r => I r.1 ∧ ∃ y, r.2 = some y ∧ Q y)) (k : ∀ s ys, I s → ys.length = xs.length → (∀ y, y ∈ ys → Q y) → Ok (rest (s, ys)) P) : Ok ((compR f xs s).bind rest) P := by
  obtain ⟨s', ys, e, hI, l, q⟩ := compR_keep (f := f) (xs := xs) I Q h0 fun s x hx hI => by
    obtain ⟨r, e, h1, y, e2, hy⟩ := h s x hx hI
    exact ⟨r.1, y, by rw [e, ← e2], h1, hy⟩
  exact bindE e (k s' ys hI l q)
end Ok
theorem pre_lt {α : Type} {xs p q : List α} {x : α} (e : xs = p ++ x :: q) : p.length < xs.length := by
  rw [e, List.length_append, List.length_cons]; omega
theorem lt_line {n m : Nat} (h : n ≤ m) (hm : m < 16777216) : n < sizeLine := Nat.lt_of_le_of_lt h hm
theorem le_line {n : Nat} (h : n ≤ 16777216) : n ≤ sizeLine := h
end Ml

namespace Ml
open PySem PySem.Spec PyProof.Rows L2
variable {G : Gx}
/-- a text, n times -/
def repS (a : Str) (n : Nat) : Str := ⟨(List.replicate n a.cps).foldl (· ++ ·) #[]⟩
theorem rep_tl (a : Str) (n : Nat) : (repS a n).cps.toList = (List.replicate n a.cps.toList).flatten := by
  have g : ∀ (n : Nat) (z : Array Nat), ((List.replicate n a.cps).foldl (· ++ ·) z).toList = z.toList ++ (List.replicate n a.cps.toList).flatten := by
    intro n
    induction n with
    | zero => intro z; simp
    | succ n ih => intro z; simp [List.replicate_succ, ih]
  show ((List.replicate n a.cps).foldl (· ++ ·) #[]).toList = _
  rw [g]; simp
theorem rep_len (a : Str) (n : Nat) : (repS a n).length = a.length * n := by
  rw [len_tl, rep_tl, len_tl]; simp [Nat.mul_comm]
def rRepS : R2 := fun x y H Q => ∃ (a : Str) (n : Int), x = .str a ∧ y = .int n ∧ -(2 ^ 62) ≤ n ∧ a.length * n.toNat ≤ sizeLine ∧ n < 2 ^ 62 ∧ Q (.str (repS a n.toNat)) H
theorem op_repS {X : Cx} : OpR X (binaryOp .Mult) rRepS := by
  intro pins s σ H x y v u Q I rx ry h
  obtain ⟨a, n, rfl, rfl, h1, h2, h3, q⟩ := h
  obtain ⟨t, rfl⟩ := rx
  obtain ⟨t2, rfl⟩ := ry
  refine PySem.P.mul_str (by rw [decide_eq_false (by omega), decide_eq_false (by omega)]; rfl) (fun z1 z2 => ?_) (fun z1 z2 => ?_) ?_
  · have hn : 0 < n := by omega
    intro z
    have h4 : (a.length : Int) * n ≤ 2 ^ 63 - 1 := by
      have e : ((a.length * n.toNat : Nat) : Int) = (a.length : Int) * n := by
        rw [Int.natCast_mul, Int.toNat_of_nonneg (by omega)]
      have := sizeLine_eq
      omega
    have := (Int.le_ediv_iff_mul_le hn).mpr h4
    omega
  · exact decide_eq_false (Nat.not_lt.mpr h2)
  · by_cases z : n < 1
    · rw [if_pos z]
      have e : n.toNat = 0 := by omega
      rw [e] at q
      exact ⟨by decide, ⟨.str Str.empty, H, I.tok _, ⟨_, rfl⟩, q⟩⟩
    · rw [if_neg z]
      by_cases c : (n == 1 || a.length == 0) = true
      · rw [if_pos c]
        have e : repS a n.toNat = a := by
          apply str_ext
          rw [rep_tl]
          rw [Bool.or_eq_true] at c
          rcases c with c | c
          · have : n = 1 := by simpa using c
            subst this; simp
          · have : a.length = 0 := by simpa using c
            have : a.cps.toList = [] := List.eq_nil_of_length_eq_zero (by rw [← len_tl]; exact this)
            rw [this]; simp
        rw [e] at q
        exact ⟨.str a, H, I, ⟨_, rfl⟩, q⟩
      · rw [if_neg c]
        exact ⟨by show (repS a n.toNat).length ≤ sizeLine; rw [rep_len]; exact h2, ⟨.str (repS a n.toNat), H, I.tok _, ⟨_, rfl⟩, q⟩⟩
theorem ev_repS {σ : L2.St} {H : Hp} {ta tb : TE} {a : Str} {n : Int} (ha : Ev ta σ H (.str a)) (hb : Ev tb σ H (.int n)) (h : a.length * n.toNat ≤ sizeLine ∧ -(2 ^ 62) ≤ n ∧ n < 2 ^ 62) : Ev (tOp rRepS ta tb) σ H (.str (repS a n.toNat)) :=
  ev_op ha hb fun Q q => ⟨a, n, rfl, rfl, h.2.1, h.1, h.2.2, q⟩
theorem r_repS {H : Hp} {a : Str} {n : Int} {Q : VK} (h : a.length * n.toNat ≤ sizeLine ∧ -(2 ^ 62) ≤ n ∧ n < 2 ^ 62) (q : Q (.str (repS a n.toNat)) H) : rRepS (.str a) (.int n) H Q := ⟨a, n, rfl, rfl, h.2.1, h.1, h.2.2, q⟩
/-- x is None, of a thing of any sort -/
def Any.isN : Any → Bool
  | .non => true
  | _ => false
theorem isN_of {H : Hp} {v : V} {x : Any} (h : Im.im G H v x) : decide (v = .non) = Any.isN x := by
  have h : imAny H v x := h
  cases x with
  | non => rw [imAny] at h; subst h; rfl
  | str s => rw [imAny] at h; subst h; rfl
  | int s => rw [imAny] at h; subst h; rfl
  | bl s => rw [imAny] at h; subst h; rfl
  | tup s => rw [imAny] at h; obtain ⟨a, vs, rfl, _⟩ := h; rfl
  | lst s => rw [imAny] at h; obtain ⟨a, vs, rfl, _⟩ := h; rfl
  | oth s => rw [imAny] at h; obtain ⟨a, o, rfl, _⟩ := h; rfl
theorem ev_isN {σ : L2.St} {H : Hp} {ta : TE} {v : V} {x : Any} (ha : Ev ta σ H v) (h : Im.im G H v x) : Ev (tIsN ta) σ H (.bl (Any.isN x)) := fun Q q => ha _ (by rw [isN_of h]; exact q)
theorem ev_notN {σ : L2.St} {H : Hp} {ta : TE} {v : V} {x : Any} (ha : Ev ta σ H v) (h : Im.im G H v x) : Ev (tNotN ta) σ H (.bl (!Any.isN x)) := fun Q q => ha _ (by rw [isN_of h]; exact q)
end Ml

namespace PySem.W
open PySem PySem.Spec PySem.Calls PyProof.Rows
theorem kit_own {K : Frag} {i j : Addr} {b : Bool} (hdct : hasDictIn K j = true) (ht : typeIn K (.ref j) = some (.type "type")) (h : subIn K (.ref i) (.ref j) = some b) (hn : b = true ∨ ¬ i = j) : kitOne K (.ref i) (.ref j) = some b := by
  obtain ⟨cd, hc, _⟩ := any_some hdct
  have e2 : ((clsIn K j).isSome && typeIn K (.ref j) == some (.type "type")) = true := by rw [hc, ht] <;> rfl
  have e3 : kitCls K (.ref i) (.ref j) = some b := by
    show (if ((clsIn K j).isSome && typeIn K (.ref j) == some (.type "type")) = true then subIn K (.ref i) (.ref j) else none) = some b
    rw [if_pos e2]; exact h
  unfold kitOne
  split
  · next q =>
    rcases hn with rfl | hn
    · rfl
    · have : Value.ref i = Value.ref j := eq_of_beq q
      exact absurd (by injection this) hn
  · exact e3
theorem kit_val {K : Frag} {i : Addr} {b : Bool} (h : subIn K (.ref i) (.type "ValueError") = some b) : kitOne K (.ref i) (.type "ValueError") = some b := by
  unfold kitOne
  split
  · next q =>
    have : Value.ref i = Value.type "ValueError" := eq_of_beq q
    cases this
  · show (if kitMeta "ValueError" = true then subIn K (.ref i) (.type "ValueError") else none) = some b
    rw [if_pos (by decide +kernel)]; exact h
end PySem.W

/-! ### a state: a list of a number, the script, a number -/
namespace Ml
open PySem PySem.Spec PyProof.Rows L2
variable {G : Gx}
inductive StV where
  | i (n : Int) | s (x : Script)
def stIm (G : Gx) (H : Hp) (v : V) : StV → Prop
  | .i n => v = .int n
  | .s s => Im.im G H v s
theorem stIm_st {H H' : Hp} {v : V} {x : StV} (h : stIm G H v x) (st : Stab G H H') : stIm G H' v x := by
  cases x with
  | i n => exact h
  | s s =>
    have h : Im.im G H v s := h
    exact (Im.st h st : Im.im G H' v s)
instance stvI : Im G StV := ⟨stIm G, fun h s => stIm_st h s⟩
def stL (x : T3 Int Script Int) : List StV := [StV.i x.a, StV.s x.b, StV.i x.c]
@[reducible] def stA (p : Addr) (x : T3 Int Script Int) : Asn G := lstA p (stL x)
theorem st_get {H : Hp} {L : List (Asn G)} {i : Nat} {p : Addr} {x : T3 Int Script Int} (hS : Sep H L) (e : L[i]? = some (stA p x)) : ∃ ad, SqL G.K H p [.int x.a, .ref ad, .int x.c] ∧ Im.im G H (.ref ad) x.b := by
  obtain ⟨vs, h, m⟩ := hS.lst e
  have hl := m.len
  cases vs with
  | nil => cases hl
  | cons v1 vs =>
    cases vs with
    | nil => cases hl
    | cons v2 vs =>
      cases vs with
      | nil => cases hl
      | cons v3 vs =>
        cases vs with
        | cons v4 vs => cases hl
        | nil =>
          obtain ⟨h1, h2, h3, _⟩ := m
          have h1 : v1 = .int x.a := h1
          have h3 : v3 = .int x.c := h3
          have h2 : Im.im G H v2 x.b := h2
          obtain ⟨ad, e2, h4⟩ := im_script h2
          subst h1 h3 e2
          exact ⟨ad, .inl (.inl h), h2⟩
theorem st_im {H : Hp} {v : V} {x : Script} (h : Im.im G H v x) : Im.im G H v (StV.s x) := h
end Ml
namespace L2
open PySem PySem.Spec PyProof.Rows
section
variable {prog : Program} {w : World} {A : Around} {E : Value → Shared → Prop} {s : Shared}
theorem cat_tupE0 {t b : Addr} {ws : List Value} {Q : Value → Shared → Prop} (ht : IsTup s.heap t #[]) (hb : IsTup s.heap b ws.toArray) (h : Q (.ref b) s) : wpAny (model prog w) A (binaryOp .Add (.ref t) (.ref b)) Q E s := by
  obtain ⟨⟨cls, dd, data, sl⟩, ho, hc, n, hd⟩ := id ht
  obtain ⟨⟨cls2, dd2, data2, sl2⟩, ho2, hc2, n2, hd2⟩ := id hb
  simp only at hc hd hc2 hd2
  subst hc hd hc2 hd2
  exact PySem.concat_meets ⟨_, ho, rfl⟩ ⟨_, ho2, rfl⟩ noFill_tuple_add seq_tuple_add PySem.F.slot_tuple_add PySem.F.entry_tuple_add (PySem.F.args_tuple_add_2 _ _)
    (tuple_addW0 t b #[] ws.toArray n n2 dd dd2 sl sl2 rfl) ⟨ho, ho2, h⟩
end
/-- t + u, of any lengths -/
def rCatE (K : PySem.W.Frag) : R2 := fun x y H Q => ∃ a b xs ys, x = .ref a ∧ y = .ref b ∧ SqT K H a xs ∧ SqT K H b ys ∧ xs.length + ys.length ≤ sizeLine ∧
  (xs = [] → Q (.ref b) H) ∧ (xs ≠ [] → ys = [] → Q (.ref a) H) ∧ (xs ≠ [] → ys ≠ [] → ∀ p, H p = none → Q (.ref p) (upd H p (.tup (xs ++ ys))))
theorem op_catE {X : Cx} : OpR X (binaryOp .Add) (rCatE X.K) := by
  intro pins s σ H x y v u Q I rx ry h
  obtain ⟨a, b, xs, ys, rfl, rfl, ha, hb, hz, q0, q1, q2⟩ := h
  by_cases hx : xs = []
  · cases rx
    cases ry
    obtain ⟨its, r1, p1, _⟩ := I.tuple ha
    obtain ⟨its2, r2, p2, _⟩ := I.tuple hb
    have e : its = [] := r1.nil_iff.mpr hx
    subst e
    exact cat_tupE0 p1 p2 ⟨.ref b, H, I, rfl, q0 hx⟩
  · exact op_catT pins s σ H (.ref a) (.ref b) v u Q I rx ry ⟨a, b, xs, ys, rfl, rfl, ha, hb, hx, hz, q1 hx, q2 hx⟩
end L2
namespace Ml
open PySem PySem.Spec PyProof.Rows L2
variable {G : Gx} {H : Hp} {L : List (Asn G)} {Q : VK}
theorem catAK {X : Cx} (K : PySem.W.Frag) (hK : X.K = K := by rfl) : OpR X (binaryOp .Add) (rCatE K) := by subst hK; exact op_catE
theorem imL_nil_iff {vs : List V} {xs : List Any} (m : imL (G := G) H vs xs) : vs = [] ↔ xs = [] := by
  have := m.len
  cases vs <;> cases xs <;> simp_all
theorem k_catA {v w : V} {xs ys : List Any} (hS : Sep H L) (h1 : Im.im G H v (Any.tup xs)) (h2 : Im.im G H w (Any.tup ys)) (hl : xs.length + ys.length ≤ sizeLine)
    (k : ∀ v' H', Sep H' (imA v' (Any.tup (xs ++ ys)) :: L) → Q v' H') : rCatE G.K v w H Q := by
  obtain ⟨a, us, rfl, g1, m1⟩ := any_tup.mp h1
  obtain ⟨b, ws, rfl, g2, m2⟩ := any_tup.mp h2
  refine ⟨a, b, us, ws, rfl, rfl, SqT.of g1, SqT.of g2, by rw [m1.len, m2.len]; exact hl, fun z => k _ _ (hS.addIm ?_), fun _ z => k _ _ (hS.addIm ?_), fun _ _ p hp => k _ _ ?_⟩
  · have := (imL_nil_iff m1).mp z
    rw [this, List.nil_append]; exact h2
  · have := (imL_nil_iff m2).mp z
    rw [this, List.append_nil]; exact h1
  · refine (hS.more (same_new hp)).addIm (any_tup.mpr ⟨p, _, rfl, upd_same, ?_⟩)
    exact (m1.app m2).st (.of_same (same_new hp))
theorem k_slA {v : V} {xs : List Any} {lo hi : Option Int} (hS : Sep H L) (h1 : Im.im G H v (Any.tup xs)) (n : ¬ (HT.sIx xs.length 0 lo = 0 ∧ HT.sIx xs.length xs.length hi = xs.length))
    (k : ∀ v' H', Sep H' (imA v' (Any.tup (cutL xs lo hi)) :: L) → Q v' H') : rSlT G.K v lo hi H Q := by
  obtain ⟨a, us, rfl, g1, m1⟩ := any_tup.mp h1
  refine ⟨a, us, rfl, SqT.of g1, by rw [m1.len]; exact n, fun p hp => k _ _ ((hS.more (same_new hp)).addIm (any_tup.mpr ⟨p, _, rfl, upd_same, ?_⟩))⟩
  exact (cutL_im m1).st (.of_same (same_new hp))
theorem tupE {v : V} {x : Any} {xs : List Any} (h : Im.im G H v x) (e : x = .tup xs) : Im.im G H v (Any.tup xs) := e ▸ h
theorem k_listA {v : V} {xs : List Any} (hS : Sep H L) (h1 : Im.im G H v (Any.tup xs)) (k : ∀ p H', Sep H' (lstA p xs :: L) → Q (.ref p) H') : rListSq G.K [v] H Q := by
  obtain ⟨a, us, rfl, g1, m1⟩ := any_tup.mp h1
  refine ⟨a, us, rfl, .inr (SqT.of g1), fun p hp => k p _ ?_⟩
  exact hS.newL hp m1
theorem imL_str : ∀ {vs : List V} {xs : List Str}, imL (G := G) H vs xs → imL (G := G) H vs (xs.map Any.str)
  | [], [], _ => True.intro
  | v :: vs, x :: xs, h => ⟨any_str.mpr h.1, imL_str h.2⟩
theorem any_lstS {v : V} {xs : List Str} (h : Im.im G H v xs) : Im.im G H v (Any.lst (xs.map Any.str)) := by
  obtain ⟨a, vs, e, g, m⟩ := h
  exact any_lsts.mpr ⟨a, vs, e, g, imL_str m⟩
theorem any_lstA {v : V} {xs : List Any} (h : Im.im G H v xs) : Im.im G H v (Any.lst xs) := by
  obtain ⟨a, vs, e, g, m⟩ := h
  exact any_lsts.mpr ⟨a, vs, e, g, m⟩
def rIsBl : R2 := fun x y H Q => ∃ c d, x = .bl c ∧ y = .bl d ∧ Q (.bl (c == d)) H
def rIsnBl : R2 := fun x y H Q => ∃ c d, x = .bl c ∧ y = .bl d ∧ Q (.bl (c != d)) H
theorem op_isB {X : Cx} : OpR X (compareOp .Is) rIsBl := by
  intro pins s σ H x y v u Q I rx ry h
  obtain ⟨c, d, rfl, rfl, q⟩ := h
  cases rx
  cases ry
  exact is_bool ⟨.bl _, H, I, rfl, q⟩
theorem op_isnB {X : Cx} : OpR X (compareOp .IsNot) rIsnBl := by
  intro pins s σ H x y v u Q I rx ry h
  obtain ⟨c, d, rfl, rfl, q⟩ := h
  cases rx
  cases ry
  exact isnot_bool ⟨.bl _, H, I, rfl, q⟩
theorem ev_isB {σ : L2.St} {ta tb : TE} {c d : Bool} (ha : Ev ta σ H (.bl c)) (hb : Ev tb σ H (.bl d)) : Ev (tOp rIsBl ta tb) σ H (.bl (c == d)) := ev_op ha hb fun _ q => ⟨c, d, rfl, rfl, q⟩
theorem ev_isnB {σ : L2.St} {ta tb : TE} {c d : Bool} (ha : Ev ta σ H (.bl c)) (hb : Ev tb σ H (.bl d)) : Ev (tOp rIsnBl ta tb) σ H (.bl (c != d)) := ev_op ha hb fun _ q => ⟨c, d, rfl, rfl, q⟩
theorem ev_powC {σ : L2.St} {ta tb : TE} {i j : Int} (ha : Ev ta σ H (.int i)) (hb : Ev tb σ H (.int j)) (h : CPow i j) : Ev (tOp (rI CPow fun i j => .int (i ^ j.toNat)) ta tb) σ H (.int (i ^ j.toNat)) := ev_op ha hb fun _ q => ⟨i, j, rfl, rfl, h, q⟩
end Ml

namespace Lw
open PySem L2 Ml
structure Letter where
  sender : Str
  title : Str
  body : Str
  day : Int
  answers : Str
  deriving DecidableEq
def m_is_sign (v_sign : Nat) : R Bool :=
R.ok ((decide (v_sign ∈ (("abcdefghijklmnopqrstuvwxyz" : Str)).cps.toList)) || (decide (v_sign ∈ (("0123456789" : Str)).cps.toList)))
def m_is_word (v_thing : Any) : R Bool :=
(if (!(v_thing.is "str")) = true then R.ok true else (
(lenA v_thing).bind fun n2 =>
R.ok (!(decide (1 ≤ n2) && decide (n2 ≤ 20))))).bind fun b1 =>
if b1 = true then (
R.ok (false)) else (
(Any.asStr v_thing).bind fun s4 =>
R.need (((s4).cps.toList).length ≤ sizeLine) <|
(compR (fun (_ : Unit) (x9 : Nat) =>
(m_is_sign x9).bind fun r12 =>
R.ok ((), some (r12))) ((s4).cps.toList) ()).bind fun (t13 : Unit × List Bool) =>
R.ok (t13.2.all id))
def m_is_text (v_thing : Any) (v_most : Int) : R Bool :=
(if (v_thing.is "str") = true then (
(lenA v_thing).bind fun n2 =>
R.ok (decide (n2 ≤ v_most))) else R.ok false).bind fun b1 =>
R.ok (b1)
def m_is_day (v_thing : Any) : R Bool :=
(if (v_thing.is "int") = true then (
(if (!(v_thing.is "bool")) = true then (
(Any.asInt v_thing).bind fun s3 =>
R.ok (decide (0 ≤ s3) && decide (s3 ≤ 9999))) else R.ok false).bind fun b2 =>
R.ok (b2)) else R.ok false).bind fun b1 =>
R.ok (b1)
def m_Letter___init__ (v_sender : Any) (v_title : Any) (v_body : Any) (v_day : Any) (v_answers : Any) : R Letter :=
(R.noexc (m_is_word v_sender)).bind fun r1 =>
(if (!r1) = true then R.ok true else (
(R.noexc (m_is_text v_title 60)).bind fun r3 =>
(if (!r3) = true then R.ok true else (
(Any.asStr v_title).bind fun s5 =>
R.ok (decide (10 ∈ (s5).cps.toList)))).bind fun b4 =>
R.ok (b4))).bind fun b2 =>
if b2 = true then (
.exc ⟨1, 0⟩) else (
(R.noexc (m_is_text v_body 400)).bind fun r9 =>
(if (!r9) = true then R.ok true else (
(R.noexc (m_is_day v_day)).bind fun r11 =>
R.ok (!r11))).bind fun b10 =>
if b10 = true then (
.exc ⟨1, 0⟩) else (
(eqA v_answers (Any.str ("" : Str))).bind fun b13 =>
(if (!b13) = true then (
(R.noexc (m_is_word v_answers)).bind fun r15 =>
R.ok (!r15)) else R.ok false).bind fun b14 =>
if b14 = true then (
.exc ⟨1, 0⟩) else (
(Any.asStr v_sender).bind fun s17 =>
(Any.asStr v_title).bind fun s20 =>
(Any.asStr v_body).bind fun s23 =>
(Any.asInt v_day).bind fun s26 =>
(Any.asStr v_answers).bind fun s29 =>
R.ok ((⟨s17, s20, s23, s26, s29⟩ : Letter)))))
def m_Letter_parts (v_self : Letter) : R ((T5 Str Str Str Int Str)) :=
R.ok ((⟨v_self.sender, v_self.title, v_self.body, v_self.day, v_self.answers⟩ : T5 _ _ _ _ _))
def m_letter_of (v_thing : Any) : R Letter :=
(if (!(v_thing.is "tuple")) = true then R.ok true else (
(lenA v_thing).bind fun n2 =>
R.ok (!decide (n2 = 5)))).bind fun b1 =>
if b1 = true then (
.exc ⟨1, 0⟩) else (
(Any.asTup v_thing).bind fun xs4 =>
(idxR xs4 (0)).bind fun x6 =>
(Any.asTup v_thing).bind fun xs15 =>
(idxR xs15 (1)).bind fun x17 =>
(Any.asTup v_thing).bind fun xs26 =>
(idxR xs26 (2)).bind fun x28 =>
(Any.asTup v_thing).bind fun xs37 =>
(idxR xs37 (3)).bind fun x39 =>
(Any.asTup v_thing).bind fun xs48 =>
(idxR xs48 (4)).bind fun x50 =>
(m_Letter___init__ x6 x17 x28 x39 x50).bind fun r66 =>
R.ok (r66))
def m_is_count (v_thing : Any) : R Bool :=
(if (v_thing.is "int") = true then (
(if (!(v_thing.is "bool")) = true then (
(Any.asInt v_thing).bind fun s3 =>
R.ok (decide (1 ≤ s3))) else R.ok false).bind fun b2 =>
R.ok (b2)) else R.ok false).bind fun b1 =>
R.ok (b1)
def m_is_hand (v_thing : Any) : R Bool :=
(if (!(v_thing.is "str")) = true then R.ok true else (
(lenA v_thing).bind fun n2 =>
R.ok (!(decide (1 ≤ n2) && decide (n2 ≤ 8))))).bind fun b1 =>
if b1 = true then (
R.ok (false)) else (
(Any.asStr v_thing).bind fun s4 =>
R.need (((s4).cps.toList).length ≤ sizeLine) <|
(compR (fun (_ : Unit) (x9 : Nat) =>
R.ok ((), some (decide (x9 ∈ (("abcdefghijklmnopqrstuvwxyz" : Str)).cps.toList)))) ((s4).cps.toList) ()).bind fun (t12 : Unit × List Bool) =>
R.ok (t12.2.all id))
def m_is_parts (v_thing : Any) : R Bool :=
R.tryC (m_letter_of v_thing) (fun r1 =>
R.ok (true)) (fun x =>
catchR [0, 1] [1] x (
R.ok (false)) (.bad))
def m_is_deed (v_thing : Any) : R Bool :=
(if (!(v_thing.is "tuple")) = true then R.ok true else (
(lenA v_thing).bind fun n2 =>
(if (decide (n2 < 2)) = true then R.ok true else (
(Any.asTup v_thing).bind fun xs4 =>
(idxR xs4 (0)).bind fun x6 =>
(if (!(x6.is "str")) = true then R.ok true else (
(Any.asTup v_thing).bind fun xs16 =>
(idxR xs16 (1)).bind fun x18 =>
(m_is_word x18).bind fun r28 =>
R.ok (!r28))).bind fun b15 =>
R.ok (b15))).bind fun b3 =>
R.ok (b3))).bind fun b1 =>
if b1 = true then (
R.ok (false)) else (
(Any.asTup v_thing).bind fun xs30 =>
(idxR xs30 (0)).bind fun x32 =>
(eqA x32 (Any.str ("drop" : Str))).bind fun b41 =>
if b41 = true then (
(lenA v_thing).bind fun n43 =>
R.ok (decide (n43 = 2))) else (
(Any.asTup v_thing).bind fun xs44 =>
(idxR xs44 (0)).bind fun x46 =>
(eqA x46 (Any.str ("put" : Str))).bind fun b55 =>
if b55 = true then (
(lenA v_thing).bind fun n57 =>
(if (decide (n57 = 3)) = true then (
(Any.asTup v_thing).bind fun xs59 =>
(idxR xs59 (2)).bind fun x61 =>
(m_is_parts x61).bind fun r71 =>
R.ok (r71)) else R.ok false).bind fun b58 =>
R.ok (b58)) else (
(Any.asTup v_thing).bind fun xs72 =>
(idxR xs72 (0)).bind fun x74 =>
(eqA x74 (Any.str ("place" : Str))).bind fun b83 =>
if b83 = true then (
(lenA v_thing).bind fun n85 =>
(if (decide (n85 = 3)) = true then (
(Any.asTup v_thing).bind fun xs87 =>
(idxR xs87 (2)).bind fun x89 =>
(m_is_word x89).bind fun r99 =>
R.ok (r99)) else R.ok false).bind fun b86 =>
R.ok (b86)) else (
(Any.asTup v_thing).bind fun xs100 =>
(idxR xs100 (0)).bind fun x102 =>
(eqA x102 (Any.str ("mark" : Str))).bind fun b111 =>
(if b111 = true then (
(lenA v_thing).bind fun n113 =>
(if (decide (n113 = 4)) = true then (
(Any.asTup v_thing).bind fun xs115 =>
(idxR xs115 (2)).bind fun x117 =>
(m_is_word x117).bind fun r127 =>
(if r127 = true then (
(Any.asTup v_thing).bind fun xs129 =>
(idxR xs129 (3)).bind fun x131 =>
R.ok (x131.is "bool")) else R.ok false).bind fun b128 =>
R.ok (b128)) else R.ok false).bind fun b114 =>
R.ok (b114)) else R.ok false).bind fun b112 =>
R.ok (b112)))))
def m_is_stamped (v_thing : Any) : R Bool :=
(if (!(v_thing.is "tuple")) = true then R.ok true else (
(lenA v_thing).bind fun n2 =>
R.ok (!decide (n2 = 4)))).bind fun b1 =>
if b1 = true then (
R.ok (false)) else (
(Any.asTup v_thing).bind fun xs4 =>
(idxR xs4 (0)).bind fun x6 =>
(m_is_count x6).bind fun r16 =>
(if r16 = true then (
(Any.asTup v_thing).bind fun xs18 =>
(idxR xs18 (1)).bind fun x20 =>
(m_is_hand x20).bind fun r30 =>
(if r30 = true then (
(Any.asTup v_thing).bind fun xs32 =>
(idxR xs32 (2)).bind fun x34 =>
(m_is_count x34).bind fun r44 =>
(if r44 = true then (
(Any.asTup v_thing).bind fun xs46 =>
(idxR xs46 (3)).bind fun x48 =>
(m_is_deed x48).bind fun r58 =>
R.ok (r58)) else R.ok false).bind fun b45 =>
R.ok (b45)) else R.ok false).bind fun b31 =>
R.ok (b31)) else R.ok false).bind fun b17 =>
R.ok (b17))
def m_stamp_of (v_stamped : (T4 Int Str Int Any)) : R ((Int × Str)) :=
R.ok ((v_stamped.a, v_stamped.b))
def m_law_begin (v_law_script : Script) : R ((T3 Int Script Int)) :=
R.ok ((⟨(v_law_script.ns.length : Int) + 7, v_law_script, 0⟩ : T3 Int Script Int))
def m_law_next (v_law_state : (T3 Int Script Int)) : R (Int × (T3 Int Script Int)) :=
(if (decide (0 < (v_law_state.b.ns.length : Int))) = true then (
R.need (0 < (v_law_state.b.ns.length : Int)) <|
(idxR v_law_state.b.ns (v_law_state.c % (v_law_state.b.ns.length : Int))).bind fun x15 =>
R.ok (x15)) else (
R.ok (0))).bind fun (s4 : Int) =>
(R.ok (⟨v_law_state.a, v_law_state.b, v_law_state.c + 1⟩ : (T3 Int Script Int))).bind fun y19 =>
(R.ok (⟨(((y19.a * 48271) + s4) + y19.c) % 2147483647, y19.b, y19.c⟩ : (T3 Int Script Int))).bind fun y26 =>
R.ok ((y26.a / 64, y26))
def m_law_word (v_law_state : (T3 Int Script Int)) (v_law_signs : Str) (v_law_most : Int) : R (Str × (T3 Int Script Int)) :=
(m_law_next v_law_state).bind fun r1 =>
R.need (0 < v_law_most) <|
(m_law_next r1.2).bind fun r4 =>
(idxR ([1, 2, v_law_most, 1 + (r1.1 % v_law_most)]) (r4.1 % 4)).bind fun x5 =>
(if (decide (v_law_most < x5)) = true then (
R.ok (v_law_most)) else (
R.ok (x5))).bind fun (s6 : Int) =>
R.need (-(2 ^ 62) ≤ s6 ∧ s6 < 2 ^ 62) <|
R.need ((rngL 0 (s6).toNat).length ≤ sizeLine) <|
(compR (fun (s13 : (T3 Int Script Int)) (x10 : Int) =>
(m_law_next s13).bind fun r14 =>
R.need ((v_law_signs).length ≤ sizeLine) <|
R.need (0 < ((v_law_signs).length : Int)) <|
R.need ((v_law_signs).length ≤ sizeLine) <|
(idxR (v_law_signs).cps.toList (r14.1 % ((v_law_signs).length : Int))).bind fun c18 =>
R.ok (r14.2, some (sg (c18)))) (rngL 0 (s6).toNat) r4.2).bind fun (t19 : (T3 Int Script Int) × List Str) =>
R.need ((t19.2.map (·.length)).sum + t19.2.length * (("" : Str)).length ≤ 16777216) <|
R.ok ((Txt.join ("" : Str) t19.2, t19.1))
def m_law_any_word (v_law_state : (T3 Int Script Int)) : R (Str × (T3 Int Script Int)) :=
(m_law_word v_law_state ("abcdefghijklmnopqrstuvwxyz0123456789" : Str) 20).bind fun r1 =>
R.ok ((r1.1, r1.2))
def m_law_hands (v_law_state : (T3 Int Script Int)) (v_law_many : Int) : R ((List Str) × (T3 Int Script Int)) :=
(m_law_word v_law_state ("abcdefghijklmnopqrstuvwxyz" : Str) 7).bind fun r1 =>
(m_law_next r1.2).bind fun r2 =>
R.need ((r1.1).length ≤ sizeLine) <|
R.need (0 < (((r1.1).length : Int) + 1)) <|
(R.ok (r2.1 % (((r1.1).length : Int) + 1) : Int)).bind fun y5 =>
(m_law_next r2.2).bind fun r6 =>
(R.ok (r6.1 % 26 : Int)).bind fun y7 =>
R.need (-(2 ^ 62) ≤ v_law_many ∧ v_law_many < 2 ^ 62) <|
(forR (fun (s10 : (List Str)) (x11 : Int) =>
R.need ((r1.1).length ≤ sizeLine) <|
(idxR (("abcdefghijklmnopqrstuvwxyz" : Str)).cps.toList ((y7 + (7 * x11)) % 26)).bind fun c15 =>
R.need ((cutS r1.1 none (some (y5))).length + (sg (c15)).length ≤ sizeLine) <|
R.need ((r1.1).length ≤ sizeLine) <|
R.need (((cutS r1.1 none (some (y5))) ++ (sg (c15))).length + (cutS r1.1 (some (y5)) none).length ≤ sizeLine) <|
R.need (s10.length < sizeLine) <|
R.ok (s10 ++ [((cutS r1.1 none (some (y5))) ++ (sg (c15))) ++ (cutS r1.1 (some (y5)) none)])) (rngL 0 (v_law_many).toNat) (([] : (List Str)))).bind fun (s10 : (List Str)) =>
(m_law_next r6.2).bind fun r20 =>
(if (decide ((r20.1 % 2) = 1)) = true then (
(idxR s10 (0)).bind fun x22 =>
R.need ((x22).length ≤ sizeLine) <|
(ixR s10 (0)).bind fun j24 =>
R.ok (s10.set j24 (cutS x22 none (some (y5 + 1))))) else (
R.ok (s10))).bind fun (s21 : (List Str)) =>
R.ok ((s21, r20.2))
def m_law_parts (v_law_state : (T3 Int Script Int)) : R ((T5 Str Str Str Int Str) × (T3 Int Script Int)) :=
(m_law_word v_law_state (" abcXYZ019!-.,;:'~" : Str) 60).bind fun r1 =>
R.need (((" abcXYZ019!-.,;:'~" : Str)).length + (("\n" : Str)).length ≤ sizeLine) <|
(m_law_word r1.2 ((" abcXYZ019!-.,;:'~" : Str) ++ ("\n" : Str)) 60).bind fun r3 =>
(m_law_any_word r3.2).bind fun r4 =>
(m_law_next r4.2).bind fun r6 =>
(idxR ([("" : Str), r4.1]) (r6.1 % 2)).bind fun x7 =>
(m_law_next r6.2).bind fun r8 =>
(m_law_next r8.2).bind fun r10 =>
(idxR ([r8.1 % 10000, 0, 9999]) (r10.1 % 3)).bind fun x11 =>
(m_law_any_word r10.2).bind fun r12 =>
R.ok (((⟨r12.1, r1.1, r3.1, x11, x7⟩ : T5 _ _ _ _ _), r12.2))
def m_law_deed (v_law_state : (T3 Int Script Int)) (v_law_names : (List Str)) (v_law_hand : Str) (v_law_puts : Int) : R (Any × (T3 Int Script Int)) :=
(m_law_next v_law_state).bind fun r1 =>
(R.ok (r1.1 % 8 : Int)).bind fun y2 =>
if (decide (y2 < 3)) = true then (
R.need ((v_law_puts + 1 : Int).natAbs.log2 < 1920) <|
R.need ((v_law_hand).length + (Str.ofString (toString (v_law_puts + 1 : Int))).length ≤ sizeLine) <|
(m_law_parts r1.2).bind fun r6 =>
R.ok (((Any.tup [(Any.str ("put" : Str)), (Any.str (v_law_hand ++ (Str.ofString (toString (v_law_puts + 1 : Int))))), (Any.tup [(Any.str r6.1.a), (Any.str r6.1.b), (Any.str r6.1.c), (Any.int r6.1.d), (Any.str r6.1.e)])]), r6.2))) else (
(m_law_any_word r1.2).bind fun r22 =>
R.need ((v_law_hand).length + (("1" : Str)).length ≤ sizeLine) <|
R.need (v_law_names.length + ([v_law_hand ++ ("1" : Str)]).length ≤ sizeLine) <|
(m_law_next r22.2).bind fun r27 =>
R.need (0 < ((v_law_names.length : Int) + 1)) <|
(idxR (v_law_names ++ ([v_law_hand ++ ("1" : Str)])) (r27.1 % ((v_law_names.length : Int) + 1))).bind fun x29 =>
(m_law_next r27.2).bind fun r31 =>
(idxR ([r22.1, x29]) (r31.1 % 2)).bind fun x32 =>
if (decide (y2 < 5)) = true then (
(m_law_any_word r31.2).bind fun r34 =>
R.ok (((Any.tup [(Any.str ("place" : Str)), (Any.str x32), (Any.str r34.1)]), r34.2))) else (
if (decide (y2 < 7)) = true then (
(m_law_any_word r31.2).bind fun r38 =>
(m_law_next r38.2).bind fun r39 =>
R.ok (((Any.tup [(Any.str ("mark" : Str)), (Any.str x32), (Any.str r38.1), (Any.bl (decide ((r39.1 % 2) = 1)))]), r39.2))) else (
R.ok (((Any.tup [(Any.str ("drop" : Str)), (Any.str x32)]), r31.2)))))
def m_law_no_word (v_law_state : (T3 Int Script Int)) : R (Any × (T3 Int Script Int)) :=
(m_law_any_word v_law_state).bind fun r1 =>
(m_law_next r1.2).bind fun r2 =>
R.need ((r1.1).length ≤ sizeLine) <|
R.need (0 < (((r1.1).length : Int) + 1)) <|
(R.ok (r2.1 % (((r1.1).length : Int) + 1) : Int)).bind fun y5 =>
R.need ((r1.1).length ≤ sizeLine) <|
R.need ((cutS r1.1 none (some (y5))).length + (("A" : Str)).length ≤ sizeLine) <|
R.need ((r1.1).length ≤ sizeLine) <|
R.need (((cutS r1.1 none (some (y5))) ++ ("A" : Str)).length + (cutS r1.1 (some (y5)) (some (19))).length ≤ sizeLine) <|
R.need ((r1.1).length ≤ sizeLine) <|
R.need ((cutS r1.1 none (some (y5))).length + (("-" : Str)).length ≤ sizeLine) <|
R.need ((r1.1).length ≤ sizeLine) <|
R.need (((cutS r1.1 none (some (y5))) ++ ("-" : Str)).length + (cutS r1.1 (some (y5)) (some (19))).length ≤ sizeLine) <|
R.need ((r1.1).length * (21 : Int).toNat ≤ sizeLine ∧ -(2 ^ 62) ≤ (21 : Int) ∧ (21 : Int) < 2 ^ 62) <|
(R.ok ([(Any.str ("" : Str)), (Any.str (((cutS r1.1 none (some (y5))) ++ ("A" : Str)) ++ (cutS r1.1 (some (y5)) (some (19))))), (Any.str (((cutS r1.1 none (some (y5))) ++ ("-" : Str)) ++ (cutS r1.1 (some (y5)) (some (19))))), (Any.str (repS r1.1 (21 : Int).toNat)), Any.non, (Any.int 7), (Any.lst (([r1.1]).map Any.str))] : (List Any))).bind fun y18 =>
(m_law_next r2.2).bind fun r19 =>
(idxR y18 (r19.1 % 7)).bind fun x20 =>
R.ok ((x20, r19.2))
def m_law_no_parts (v_law_state : (T3 Int Script Int)) (v_law_parts_here : Any) : R (Any × (T3 Int Script Int)) :=
(m_law_next v_law_state).bind fun r1 =>
(R.ok (r1.1 % 5 : Int)).bind fun y2 =>
(m_law_no_word r1.2).bind fun r3 =>
R.need ((("t" : Str)).length * (61 : Int).toNat ≤ sizeLine ∧ -(2 ^ 62) ≤ (61 : Int) ∧ (61 : Int) < 2 ^ 62) <|
R.need ((("b" : Str)).length * (401 : Int).toNat ≤ sizeLine ∧ -(2 ^ 62) ≤ (401 : Int) ∧ (401 : Int) < 2 ^ 62) <|
(m_law_no_word r3.2).bind fun r8 =>
(idxR ([r3.1, (Any.str (repS ("t" : Str) (61 : Int).toNat)), (Any.str (repS ("b" : Str) (401 : Int).toNat)), (Any.int 10000), r8.1]) (y2)).bind fun x12 =>
(eqA x12 (Any.str ("" : Str))).bind fun b20 =>
(if b20 = true then (
R.ok ((Any.str ("-" : Str)))) else (
R.ok (x12))).bind fun (s21 : Any) =>
(Any.asTup v_law_parts_here).bind fun xs26 =>
R.need (¬ (HT.sIx (xs26).length 0 none = 0 ∧ HT.sIx (xs26).length (xs26).length (some (y2)) = (xs26).length)) <|
(Any.asTup (Any.tup (cutL xs26 none (some (y2))))).bind fun xs33 =>
R.need ((xs33).length + ([(⟨s21⟩ : T1 _).a]).length ≤ sizeLine) <|
(Any.asTup v_law_parts_here).bind fun xs41 =>
R.need (¬ (HT.sIx (xs41).length 0 (some (y2 + 1)) = 0 ∧ HT.sIx (xs41).length (xs41).length none = (xs41).length)) <|
(Any.asTup (Any.tup (xs33 ++ [(⟨s21⟩ : T1 _).a]))).bind fun xs46 =>
(Any.asTup (Any.tup (cutL xs41 (some (y2 + 1)) none))).bind fun xs48 =>
R.need ((xs46).length + (xs48).length ≤ sizeLine) <|
(Any.asTup v_law_parts_here).bind fun xs54 =>
(Any.asTup v_law_parts_here).bind fun xs58 =>
R.need ((xs58).length + ([(Any.str ((⟨("" : Str)⟩ : T1 _).a))]).length ≤ sizeLine) <|
(Any.asTup v_law_parts_here).bind fun xs66 =>
R.need (¬ (HT.sIx (xs66).length 0 none = 0 ∧ HT.sIx (xs66).length (xs66).length (some (4)) = (xs66).length)) <|
(R.ok ([(Any.tup (xs46 ++ xs48)), (Any.oth 0), (Any.tup (xs58 ++ [(Any.str ((⟨("" : Str)⟩ : T1 _).a))])), (Any.tup (cutL xs66 none (some (4)))), Any.non, (Any.tup [(Any.str ("" : Str)), (Any.str ("" : Str)), (Any.str ("" : Str)), (Any.int 0), (Any.str ("" : Str))])] : (List Any))).bind fun y74 =>
(m_law_next r8.2).bind fun r75 =>
(idxR y74 (r75.1 % 6)).bind fun x76 =>
R.ok ((x76, r75.2))
def m_law_no_deed (v_law_state : (T3 Int Script Int)) (v_law_deed_here : Any) : R (Any × (T3 Int Script Int)) :=
(m_law_next v_law_state).bind fun r1 =>
(lenA v_law_deed_here).bind fun n2 =>
R.need (0 < n2) <|
(R.ok (r1.1 % n2 : Int)).bind fun y4 =>
if (decide (y4 = 0)) = true then (
(Any.asTup v_law_deed_here).bind fun xs6 =>
(idxR xs6 (0)).bind fun x8 =>
(m_law_next r1.2).bind fun r24 =>
(idxR ([(Any.str ("puts" : Str)), (Any.str ("Place" : Str)), (Any.str ("" : Str)), (Any.str ("marked" : Str)), Any.non, (Any.int 3), (Any.lst ([x8])), (Any.oth 1), (Any.tup [])]) (r24.1 % 9)).bind fun x25 =>
(Any.asTup v_law_deed_here).bind fun xs35 =>
R.need (¬ (HT.sIx (xs35).length 0 (some (1)) = 0 ∧ HT.sIx (xs35).length (xs35).length none = (xs35).length)) <|
(Any.asTup (Any.tup (cutL xs35 (some (1)) none))).bind fun xs43 =>
R.need (([(⟨x25⟩ : T1 _).a]).length + (xs43).length ≤ sizeLine) <|
R.ok (((Any.tup ([(⟨x25⟩ : T1 _).a] ++ xs43)), r24.2))) else (
if (decide (y4 = 1)) = true then (
(Any.asTup v_law_deed_here).bind fun xs49 =>
(idxR xs49 (0)).bind fun x51 =>
(m_law_no_word r1.2).bind fun r61 =>
(Any.asTup v_law_deed_here).bind fun xs66 =>
R.need (¬ (HT.sIx (xs66).length 0 (some (2)) = 0 ∧ HT.sIx (xs66).length (xs66).length none = (xs66).length)) <|
(Any.asTup (Any.tup (cutL xs66 (some (2)) none))).bind fun xs76 =>
R.need (([(x51, r61.1).1, (x51, r61.1).2]).length + (xs76).length ≤ sizeLine) <|
R.ok (((Any.tup ([(x51, r61.1).1, (x51, r61.1).2] ++ xs76)), r61.2))) else (
if (decide (y4 = 3)) = true then (
(Any.asTup v_law_deed_here).bind fun xs82 =>
R.need (¬ (HT.sIx (xs82).length 0 none = 0 ∧ HT.sIx (xs82).length (xs82).length (some (3)) = (xs82).length)) <|
(m_law_next r1.2).bind fun r88 =>
(idxR ([(Any.int 1), (Any.int 0), Any.non, (Any.str ("True" : Str))]) (r88.1 % 4)).bind fun x89 =>
(Any.asTup (Any.tup (cutL xs82 none (some (3))))).bind fun xs99 =>
R.need ((xs99).length + ([(⟨x89⟩ : T1 _).a]).length ≤ sizeLine) <|
R.ok (((Any.tup (xs99 ++ [(⟨x89⟩ : T1 _).a])), r88.2))) else (
(Any.asTup v_law_deed_here).bind fun xs107 =>
(idxR xs107 (0)).bind fun x109 =>
(eqA x109 (Any.str ("put" : Str))).bind fun b118 =>
if b118 = true then (
(Any.asTup v_law_deed_here).bind fun xs120 =>
R.need (¬ (HT.sIx (xs120).length 0 none = 0 ∧ HT.sIx (xs120).length (xs120).length (some (2)) = (xs120).length)) <|
(Any.asTup v_law_deed_here).bind fun xs125 =>
(idxR xs125 (2)).bind fun x127 =>
(m_law_no_parts r1.2 x127).bind fun r137 =>
(Any.asTup (Any.tup (cutL xs120 none (some (2))))).bind fun xs142 =>
R.need ((xs142).length + ([(⟨r137.1⟩ : T1 _).a]).length ≤ sizeLine) <|
R.ok (((Any.tup (xs142 ++ [(⟨r137.1⟩ : T1 _).a])), r137.2))) else (
(Any.asTup v_law_deed_here).bind fun xs150 =>
R.need (¬ (HT.sIx (xs150).length 0 none = 0 ∧ HT.sIx (xs150).length (xs150).length (some (2)) = (xs150).length)) <|
(m_law_no_word r1.2).bind fun r155 =>
(Any.asTup (Any.tup (cutL xs150 none (some (2))))).bind fun xs160 =>
R.need ((xs160).length + ([(⟨r155.1⟩ : T1 _).a]).length ≤ sizeLine) <|
(Any.asTup v_law_deed_here).bind fun xs168 =>
R.need (¬ (HT.sIx (xs168).length 0 (some (3)) = 0 ∧ HT.sIx (xs168).length (xs168).length none = (xs168).length)) <|
(Any.asTup (Any.tup (xs160 ++ [(⟨r155.1⟩ : T1 _).a]))).bind fun xs173 =>
(Any.asTup (Any.tup (cutL xs168 (some (3)) none))).bind fun xs175 =>
R.need ((xs173).length + (xs175).length ≤ sizeLine) <|
R.ok (((Any.tup (xs173 ++ xs175)), r155.2))))))
def m_law_no_stamped (v_law_state : (T3 Int Script Int)) (v_law_stamped : (T4 Int Str Int Any)) : R (Any × (T3 Int Script Int)) :=
(m_law_next v_law_state).bind fun r1 =>
(R.ok (r1.1 % 3 : Int)).bind fun y2 =>
if (decide (y2 = 1)) = true then (
R.need ((v_law_stamped.b).length + (("1" : Str)).length ≤ sizeLine) <|
R.need ((v_law_stamped.b).length ≤ sizeLine) <|
R.need ((("A" : Str)).length + (cutS v_law_stamped.b (some (1)) none).length ≤ sizeLine) <|
R.need ((v_law_stamped.b).length * (9 : Int).toNat ≤ sizeLine ∧ -(2 ^ 62) ≤ (9 : Int) ∧ (9 : Int) < 2 ^ 62) <|
(m_law_next r1.2).bind fun r20 =>
(idxR ([(Any.str ("" : Str)), (Any.str (v_law_stamped.b ++ ("1" : Str))), (Any.str (("A" : Str) ++ (cutS v_law_stamped.b (some (1)) none))), (Any.str (repS v_law_stamped.b (9 : Int).toNat)), Any.non, (Any.int 4), (Any.lst (([v_law_stamped.b]).map Any.str))]) (r20.1 % 7)).bind fun x21 =>
R.ok (((Any.tup [(Any.int v_law_stamped.a), x21, (Any.int v_law_stamped.c), v_law_stamped.d]), r20.2))) else (
(m_law_next r1.2).bind fun r59 =>
(m_law_next r59.2).bind fun r61 =>
(idxR ([(Any.int 0), (Any.int ((-1) - r59.1)), (Any.bl true), (Any.str ("1" : Str)), Any.non]) (r61.1 % 5)).bind fun x62 =>
R.need (¬ (HT.sIx ([(Any.int v_law_stamped.a), (Any.str v_law_stamped.b), (Any.int v_law_stamped.c), v_law_stamped.d]).length 0 none = 0 ∧ HT.sIx ([(Any.int v_law_stamped.a), (Any.str v_law_stamped.b), (Any.int v_law_stamped.c), v_law_stamped.d]).length ([(Any.int v_law_stamped.a), (Any.str v_law_stamped.b), (Any.int v_law_stamped.c), v_law_stamped.d]).length (some (y2)) = ([(Any.int v_law_stamped.a), (Any.str v_law_stamped.b), (Any.int v_law_stamped.c), v_law_stamped.d]).length)) <|
(Any.asTup (Any.tup (cutL ([(Any.int v_law_stamped.a), (Any.str v_law_stamped.b), (Any.int v_law_stamped.c), v_law_stamped.d]) none (some (y2))))).bind fun xs84 =>
R.need ((xs84).length + ([(⟨x62⟩ : T1 _).a]).length ≤ sizeLine) <|
R.need (¬ (HT.sIx ([(Any.int v_law_stamped.a), (Any.str v_law_stamped.b), (Any.int v_law_stamped.c), v_law_stamped.d]).length 0 (some (y2 + 1)) = 0 ∧ HT.sIx ([(Any.int v_law_stamped.a), (Any.str v_law_stamped.b), (Any.int v_law_stamped.c), v_law_stamped.d]).length ([(Any.int v_law_stamped.a), (Any.str v_law_stamped.b), (Any.int v_law_stamped.c), v_law_stamped.d]).length none = ([(Any.int v_law_stamped.a), (Any.str v_law_stamped.b), (Any.int v_law_stamped.c), v_law_stamped.d]).length)) <|
(Any.asTup (Any.tup (xs84 ++ [(⟨x62⟩ : T1 _).a]))).bind fun xs104 =>
(Any.asTup (Any.tup (cutL ([(Any.int v_law_stamped.a), (Any.str v_law_stamped.b), (Any.int v_law_stamped.c), v_law_stamped.d]) (some (y2 + 1)) none))).bind fun xs106 =>
R.need ((xs104).length + (xs106).length ≤ sizeLine) <|
R.ok (((Any.tup (xs104 ++ xs106)), r61.2)))
def m_law (v_law_script : Script) : R Bool :=
(m_law_begin v_law_script).bind fun r1 =>
(m_law_hands r1 1).bind fun r3 =>
(idxR r3.1 (0)).bind fun x5 =>
(m_law_any_word r3.2).bind fun r6 =>
(R.ok ([r6.1] : (List Str))).bind fun y8 =>
(m_law_next r6.2).bind fun r9 =>
(m_law_deed r9.2 y8 x5 (r9.1 % 200)).bind fun r10 =>
(m_law_next r10.2).bind fun r13 =>
(m_law_next r13.2).bind fun r15 =>
(idxR ([5, 10 ^ (6 : Int).toNat]) (r15.1 % 2)).bind fun x16 =>
R.need (0 < x16) <|
(R.ok (1 + (r13.1 % x16) : Int)).bind fun y18 =>
(m_law_next r15.2).bind fun r19 =>
(m_is_deed r10.1).bind fun r22 =>
(if (r22 != true) = true then R.ok true else (
(m_is_stamped (Any.tup [(Any.int ((⟨y18, x5, 1 + (r19.1 % 2000), r10.1⟩ : T4 _ _ _ _).a)), (Any.str ((⟨y18, x5, 1 + (r19.1 % 2000), r10.1⟩ : T4 _ _ _ _).b)), (Any.int ((⟨y18, x5, 1 + (r19.1 % 2000), r10.1⟩ : T4 _ _ _ _).c)), (⟨y18, x5, 1 + (r19.1 % 2000), r10.1⟩ : T4 _ _ _ _).d])).bind fun r33 =>
(if (r33 != true) = true then R.ok true else (
(m_is_hand (Any.str x5)).bind fun r35 =>
R.ok ((r35 != true)))).bind fun b34 =>
R.ok (b34))).bind fun b23 =>
if b23 = true then (
R.ok (false)) else (
(m_is_deed (Any.tup [])).bind fun r39 =>
(if (r39 != false) = true then R.ok true else (
(m_is_stamped (Any.tup [])).bind fun r43 =>
(if (r43 != false) = true then R.ok true else (
(m_is_hand (Any.lst (([x5]).map Any.str))).bind fun r47 =>
R.ok ((r47 != false)))).bind fun b44 =>
R.ok (b44))).bind fun b40 =>
if b40 = true then (
R.ok (false)) else (
(m_stamp_of (⟨y18, x5, 1 + (r19.1 % 2000), r10.1⟩ : T4 _ _ _ _)).bind fun r49 =>
R.need (Lay.lay (r49 : (Int × Str)) = true) <|
R.need (Lay.lay ((y18, x5) : (Int × Str)) = true) <|
(if (!decide ((r49 : (Int × Str)) = (y18, x5))) = true then R.ok true else (
(Any.asTup r10.1).bind fun xs58 =>
(m_is_deed (Any.oth 0)).bind fun r60 =>
(if (r60 != false) = true then R.ok true else (
(Any.asTup r10.1).bind fun xs64 =>
R.need ((xs64).length + ([(Any.str ((⟨("a" : Str)⟩ : T1 _).a))]).length ≤ sizeLine) <|
(m_is_deed (Any.tup (xs64 ++ [(Any.str ((⟨("a" : Str)⟩ : T1 _).a))]))).bind fun r72 =>
R.ok ((r72 != false)))).bind fun b61 =>
R.ok (b61))).bind fun b56 =>
if b56 = true then (
R.ok (false)) else (
(Any.asTup r10.1).bind fun xs74 =>
R.need (¬ (HT.sIx (xs74).length 0 none = 0 ∧ HT.sIx (xs74).length (xs74).length (some (-1)) = (xs74).length)) <|
(m_is_deed (Any.tup (cutL xs74 none (some (-1))))).bind fun r79 =>
(if (r79 != false) = true then R.ok true else (
(m_is_stamped (Any.oth 0)).bind fun r91 =>
(if (r91 != false) = true then R.ok true else (
(m_is_stamped r10.1).bind fun r93 =>
R.ok ((r93 != false)))).bind fun b92 =>
R.ok (b92))).bind fun b80 =>
if b80 = true then (
R.ok (false)) else (
(m_law_no_deed r19.2 r10.1).bind fun r95 =>
(m_is_deed r95.1).bind fun r98 =>
(if (r98 != false) = true then R.ok true else (
(m_is_stamped (Any.tup [(Any.int ((⟨(⟨(⟨y18, x5, 1 + (r19.1 % 2000), r10.1⟩ : T4 _ _ _ _).a, (⟨y18, x5, 1 + (r19.1 % 2000), r10.1⟩ : T4 _ _ _ _).b, (⟨y18, x5, 1 + (r19.1 % 2000), r10.1⟩ : T4 _ _ _ _).c⟩ : T3 _ _ _).a, (⟨(⟨y18, x5, 1 + (r19.1 % 2000), r10.1⟩ : T4 _ _ _ _).a, (⟨y18, x5, 1 + (r19.1 % 2000), r10.1⟩ : T4 _ _ _ _).b, (⟨y18, x5, 1 + (r19.1 % 2000), r10.1⟩ : T4 _ _ _ _).c⟩ : T3 _ _ _).b, (⟨(⟨y18, x5, 1 + (r19.1 % 2000), r10.1⟩ : T4 _ _ _ _).a, (⟨y18, x5, 1 + (r19.1 % 2000), r10.1⟩ : T4 _ _ _ _).b, (⟨y18, x5, 1 + (r19.1 % 2000), r10.1⟩ : T4 _ _ _ _).c⟩ : T3 _ _ _).c, (⟨r95.1⟩ : T1 _).a⟩ : T4 _ _ _ _).a)), (Any.str ((⟨(⟨(⟨y18, x5, 1 + (r19.1 % 2000), r10.1⟩ : T4 _ _ _ _).a, (⟨y18, x5, 1 + (r19.1 % 2000), r10.1⟩ : T4 _ _ _ _).b, (⟨y18, x5, 1 + (r19.1 % 2000), r10.1⟩ : T4 _ _ _ _).c⟩ : T3 _ _ _).a, (⟨(⟨y18, x5, 1 + (r19.1 % 2000), r10.1⟩ : T4 _ _ _ _).a, (⟨y18, x5, 1 + (r19.1 % 2000), r10.1⟩ : T4 _ _ _ _).b, (⟨y18, x5, 1 + (r19.1 % 2000), r10.1⟩ : T4 _ _ _ _).c⟩ : T3 _ _ _).b, (⟨(⟨y18, x5, 1 + (r19.1 % 2000), r10.1⟩ : T4 _ _ _ _).a, (⟨y18, x5, 1 + (r19.1 % 2000), r10.1⟩ : T4 _ _ _ _).b, (⟨y18, x5, 1 + (r19.1 % 2000), r10.1⟩ : T4 _ _ _ _).c⟩ : T3 _ _ _).c, (⟨r95.1⟩ : T1 _).a⟩ : T4 _ _ _ _).b)), (Any.int ((⟨(⟨(⟨y18, x5, 1 + (r19.1 % 2000), r10.1⟩ : T4 _ _ _ _).a, (⟨y18, x5, 1 + (r19.1 % 2000), r10.1⟩ : T4 _ _ _ _).b, (⟨y18, x5, 1 + (r19.1 % 2000), r10.1⟩ : T4 _ _ _ _).c⟩ : T3 _ _ _).a, (⟨(⟨y18, x5, 1 + (r19.1 % 2000), r10.1⟩ : T4 _ _ _ _).a, (⟨y18, x5, 1 + (r19.1 % 2000), r10.1⟩ : T4 _ _ _ _).b, (⟨y18, x5, 1 + (r19.1 % 2000), r10.1⟩ : T4 _ _ _ _).c⟩ : T3 _ _ _).b, (⟨(⟨y18, x5, 1 + (r19.1 % 2000), r10.1⟩ : T4 _ _ _ _).a, (⟨y18, x5, 1 + (r19.1 % 2000), r10.1⟩ : T4 _ _ _ _).b, (⟨y18, x5, 1 + (r19.1 % 2000), r10.1⟩ : T4 _ _ _ _).c⟩ : T3 _ _ _).c, (⟨r95.1⟩ : T1 _).a⟩ : T4 _ _ _ _).c)), (⟨(⟨(⟨y18, x5, 1 + (r19.1 % 2000), r10.1⟩ : T4 _ _ _ _).a, (⟨y18, x5, 1 + (r19.1 % 2000), r10.1⟩ : T4 _ _ _ _).b, (⟨y18, x5, 1 + (r19.1 % 2000), r10.1⟩ : T4 _ _ _ _).c⟩ : T3 _ _ _).a, (⟨(⟨y18, x5, 1 + (r19.1 % 2000), r10.1⟩ : T4 _ _ _ _).a, (⟨y18, x5, 1 + (r19.1 % 2000), r10.1⟩ : T4 _ _ _ _).b, (⟨y18, x5, 1 + (r19.1 % 2000), r10.1⟩ : T4 _ _ _ _).c⟩ : T3 _ _ _).b, (⟨(⟨y18, x5, 1 + (r19.1 % 2000), r10.1⟩ : T4 _ _ _ _).a, (⟨y18, x5, 1 + (r19.1 % 2000), r10.1⟩ : T4 _ _ _ _).b, (⟨y18, x5, 1 + (r19.1 % 2000), r10.1⟩ : T4 _ _ _ _).c⟩ : T3 _ _ _).c, (⟨r95.1⟩ : T1 _).a⟩ : T4 _ _ _ _).d])).bind fun r134 =>
R.ok ((r134 != false)))).bind fun b99 =>
if b99 = true then (
R.ok (false)) else (
(m_law_no_stamped r95.2 (⟨y18, x5, 1 + (r19.1 % 2000), r10.1⟩ : T4 _ _ _ _)).bind fun r136 =>
(m_is_stamped r136.1).bind fun r139 =>
(if (r139 != false) = true then R.ok true else (
(m_is_stamped (Any.tup [(Any.int ((⟨(⟨y18, x5, 1 + (r19.1 % 2000), r10.1⟩ : T4 _ _ _ _).a, (⟨y18, x5, 1 + (r19.1 % 2000), r10.1⟩ : T4 _ _ _ _).b, (⟨y18, x5, 1 + (r19.1 % 2000), r10.1⟩ : T4 _ _ _ _).c, (⟨y18, x5, 1 + (r19.1 % 2000), r10.1⟩ : T4 _ _ _ _).d, (⟨1⟩ : T1 _).a⟩ : T5 _ _ _ _ _).a)), (Any.str ((⟨(⟨y18, x5, 1 + (r19.1 % 2000), r10.1⟩ : T4 _ _ _ _).a, (⟨y18, x5, 1 + (r19.1 % 2000), r10.1⟩ : T4 _ _ _ _).b, (⟨y18, x5, 1 + (r19.1 % 2000), r10.1⟩ : T4 _ _ _ _).c, (⟨y18, x5, 1 + (r19.1 % 2000), r10.1⟩ : T4 _ _ _ _).d, (⟨1⟩ : T1 _).a⟩ : T5 _ _ _ _ _).b)), (Any.int ((⟨(⟨y18, x5, 1 + (r19.1 % 2000), r10.1⟩ : T4 _ _ _ _).a, (⟨y18, x5, 1 + (r19.1 % 2000), r10.1⟩ : T4 _ _ _ _).b, (⟨y18, x5, 1 + (r19.1 % 2000), r10.1⟩ : T4 _ _ _ _).c, (⟨y18, x5, 1 + (r19.1 % 2000), r10.1⟩ : T4 _ _ _ _).d, (⟨1⟩ : T1 _).a⟩ : T5 _ _ _ _ _).c)), (⟨(⟨y18, x5, 1 + (r19.1 % 2000), r10.1⟩ : T4 _ _ _ _).a, (⟨y18, x5, 1 + (r19.1 % 2000), r10.1⟩ : T4 _ _ _ _).b, (⟨y18, x5, 1 + (r19.1 % 2000), r10.1⟩ : T4 _ _ _ _).c, (⟨y18, x5, 1 + (r19.1 % 2000), r10.1⟩ : T4 _ _ _ _).d, (⟨1⟩ : T1 _).a⟩ : T5 _ _ _ _ _).d, (Any.int ((⟨(⟨y18, x5, 1 + (r19.1 % 2000), r10.1⟩ : T4 _ _ _ _).a, (⟨y18, x5, 1 + (r19.1 % 2000), r10.1⟩ : T4 _ _ _ _).b, (⟨y18, x5, 1 + (r19.1 % 2000), r10.1⟩ : T4 _ _ _ _).c, (⟨y18, x5, 1 + (r19.1 % 2000), r10.1⟩ : T4 _ _ _ _).d, (⟨1⟩ : T1 _).a⟩ : T5 _ _ _ _ _).e))])).bind fun r168 =>
(if (r168 != false) = true then R.ok true else (
(m_is_stamped (Any.tup [(Any.int ((⟨(⟨y18, x5, 1 + (r19.1 % 2000), r10.1⟩ : T4 _ _ _ _).a, (⟨y18, x5, 1 + (r19.1 % 2000), r10.1⟩ : T4 _ _ _ _).b, (⟨y18, x5, 1 + (r19.1 % 2000), r10.1⟩ : T4 _ _ _ _).c⟩ : T3 _ _ _).a)), (Any.str ((⟨(⟨y18, x5, 1 + (r19.1 % 2000), r10.1⟩ : T4 _ _ _ _).a, (⟨y18, x5, 1 + (r19.1 % 2000), r10.1⟩ : T4 _ _ _ _).b, (⟨y18, x5, 1 + (r19.1 % 2000), r10.1⟩ : T4 _ _ _ _).c⟩ : T3 _ _ _).b)), (Any.int ((⟨(⟨y18, x5, 1 + (r19.1 % 2000), r10.1⟩ : T4 _ _ _ _).a, (⟨y18, x5, 1 + (r19.1 % 2000), r10.1⟩ : T4 _ _ _ _).b, (⟨y18, x5, 1 + (r19.1 % 2000), r10.1⟩ : T4 _ _ _ _).c⟩ : T3 _ _ _).c))])).bind fun r188 =>
R.ok ((r188 != false)))).bind fun b169 =>
R.ok (b169))).bind fun b140 =>
if b140 = true then (
R.ok (false)) else (
R.need ((x5).length * (9 : Int).toNat ≤ sizeLine ∧ -(2 ^ 62) ≤ (9 : Int) ∧ (9 : Int) < 2 ^ 62) <|
R.need ((x5).length + (("1" : Str)).length ≤ sizeLine) <|
R.need ((x5).length ≤ 5592405) <|
(m_law_next r136.2).bind fun r194 =>
(idxR ([(Any.str ("" : Str)), (Any.str (repS x5 (9 : Int).toNat)), (Any.str (x5 ++ ("1" : Str))), (Any.str (Txt.upper x5)), Any.non, (Any.int 5), (Any.str ("a b" : Str))]) (r194.1 % 7)).bind fun x195 =>
(m_is_hand x195).bind fun r203 =>
R.ok ((r203 == false))))))))
end Lw

namespace Lw
open PySem L2 Ml
/-! the signs of words -/
theorem alph_len : ("abcdefghijklmnopqrstuvwxyz0123456789" : Str).cps.toList.length = 36 := by decide +kernel
theorem alph_asc : Asc ("abcdefghijklmnopqrstuvwxyz0123456789" : Str) := Asc.lit (by decide +kernel)
def wsg (c : Nat) : Bool := (97 ≤ c && c ≤ 122) || (48 ≤ c && c ≤ 57)
theorem wsg_lt {c : Nat} (h : wsg c = true) : c < 128 := by
  unfold wsg at h
  simp at h
  omega
theorem alph_wsg : ∀ c, c ∈ ("abcdefghijklmnopqrstuvwxyz0123456789" : Str).cps.toList → wsg c = true := by
  have : ("abcdefghijklmnopqrstuvwxyz0123456789" : Str).cps.toList.all wsg = true := by decide +kernel
  exact fun c hc => List.all_eq_true.mp this c hc
theorem alph_at {ρ : Type} {P : ρ → Prop} {i : Int} {f : Nat → R ρ} (k : ∀ c, wsg c = true → Ok (f c) P) : Ok ((idxR ("abcdefghijklmnopqrstuvwxyz0123456789" : Str).cps.toList (i % 36)).bind f) P :=
  .idx (Int.emod_nonneg _ (by decide)) (by rw [alph_len]; exact Int.emod_lt_of_pos _ (by decide)) fun c m _ => k c (alph_wsg c m)
/-- word signs alone -/
def Wsg (x : Str) : Prop := ∀ c, c ∈ x.cps.toList → wsg c = true
theorem Wsg.asc {x : Str} (h : Wsg x) : Asc x := fun c hc => wsg_lt (h c hc)
theorem Wsg.app {a b : Str} (ha : Wsg a) (hb : Wsg b) : Wsg (a ++ b) := fun c hc => by
  rw [tl_app] at hc
  rcases List.mem_append.mp hc with h | h
  · exact ha c h
  · exact hb c h
theorem Wsg.sg {c : Nat} (h : wsg c = true) : Wsg (sg c) := fun d hd => by
  have : d = c := by simpa [Ml.sg] using hd
  rw [this]; exact h
theorem Wsg.lit {x : Str} (h : x.cps.toList.all wsg = true) : Wsg x := fun c hc => List.all_eq_true.mp h c hc
theorem Wsg.join {ys : List Str} (h : ∀ y, y ∈ ys → Wsg y) : Wsg (Txt.join ("" : Str) ys) := fun c hc => by
  rw [join_nil] at hc
  obtain ⟨l, hl, hc⟩ := List.mem_flatten.mp hc
  obtain ⟨y, hy, rfl⟩ := List.mem_map.mp hl
  exact h y hy c hc
theorem num_wd {i : Int} (h0 : 0 ≤ i) (h1 : i < 1000000) : Wsg (Str.ofString (toString i)) ∧ (Str.ofString (toString i)).length ≤ 6 ∧ 1 ≤ (Str.ofString (toString i)).length := by
  obtain ⟨n, rfl⟩ : ∃ n : Nat, i = (n : Int) := ⟨i.toNat, by omega⟩
  have hd := TL.numL_digits n
  refine ⟨fun c hc => ?_, ?_, ?_⟩
  · rw [tl_num] at hc
    have h2 : 48 ≤ c ∧ c ≤ 57 := hd c hc
    unfold wsg
    simp; omega
  · rw [len_tl, tl_num]
    exact TL.numL_len (n := n) (k := 6) (by decide) (by omega)
  · rw [len_tl, tl_num]
    have := TL.numL_ne n
    cases e : TL.numL n with
    | nil => exact absurd e this
    | cons a l => simp

/-! signs of words -/
theorem is_sign_eq (c : Nat) : m_is_sign c = .ok (wsg c) := by
  unfold m_is_sign
  congr 1
  have h1 : (("abcdefghijklmnopqrstuvwxyz" : Str)).cps.toList = (List.range 26).map (97 + ·) := by decide +kernel
  have h2 : (("0123456789" : Str)).cps.toList = (List.range 10).map (48 + ·) := by decide +kernel
  rw [h1, h2]
  unfold wsg
  rw [Bool.eq_iff_iff]
  simp only [Bool.or_eq_true, decide_eq_true_eq, List.mem_map, List.mem_range, Bool.and_eq_true]
  constructor
  · rintro (⟨a, h, rfl⟩ | ⟨a, h, rfl⟩) <;> omega
  · rintro (h | h)
    · exact .inl ⟨c - 97, by omega, by omega⟩
    · exact .inr ⟨c - 48, by omega, by omega⟩

/-! words and letters, as they are told apart -/
theorem pdA_str (s : Str) : pdA (.str s) = .str s := by rw [pdA]
theorem pdA_int (s : Int) : pdA (.int s) = .int s := by rw [pdA]
theorem plA_str (s : Str) : plA (.str s) = true := by rw [plA] <;> (intro _ h; cases h)
theorem plA_int (s : Int) : plA (.int s) = true := by rw [plA] <;> (intro _ h; cases h)
theorem shaped_str {s : Str} (h : Asc s) : SeqAt.shaped (.str s) = true := by
  have h1 : (PyData.str s).canLay0 = true := h.lay
  unfold SeqAt.shaped
  rw [h1]; rfl
theorem eqA_str {a b : Str} (ha : Asc a) (hb : Asc b) : eqA (.str a) (.str b) = .ok (decide (a = b)) := by
  unfold eqA
  rw [R.need_pos (by rw [plA_str, plA_str, pdA_str, pdA_str]; exact ⟨rfl, rfl, shaped_str ha, shaped_str hb⟩), pdA_str, pdA_str]
  exact congrArg R.ok (str_beq a b)
theorem asc_empty : Asc ("" : Str) := Asc.lit (by decide +kernel)
def isWord (s : Str) : Bool := (decide (1 ≤ s.length) && decide (s.length ≤ 20)) && s.cps.toList.all wsg
theorem isWord_iff {s : Str} : isWord s = true ↔ Wsg s ∧ 1 ≤ s.length ∧ s.length ≤ 20 := by
  unfold isWord
  simp only [Bool.and_eq_true, decide_eq_true_eq, List.all_eq_true]
  exact ⟨fun ⟨⟨a, b⟩, c⟩ => ⟨c, a, b⟩, fun ⟨c, a, b⟩ => ⟨⟨a, b⟩, c⟩⟩
theorem is_word_str {s : Str} (hl : s.length ≤ sizeLine) : m_is_word (.str s) = .ok (isWord s) := by
  unfold m_is_word
  have e1 : (Any.str s).is "str" = true := rfl
  rw [e1]
  have e2 : lenA (.str s) = .ok (s.length : Int) := R.need_pos hl _
  show ((lenA (.str s)).bind _).bind _ = _
  rw [e2, R.bind_ok, R.bind_ok]
  by_cases c : 1 ≤ s.length ∧ s.length ≤ 20
  · have c1 : (decide ((1 : Int) ≤ (s.length : Int)) && decide ((s.length : Int) ≤ 20)) = true := by simp; omega
    rw [c1]
    rw [if_neg (by decide)]
    show (R.need _ _) = _
    rw [R.need_pos (by rw [← len_tl]; exact hl), compR_map (g := wsg) fun x _ => by rw [is_sign_eq]; rfl]
    rw [R.bind_ok]
    congr 1
    unfold isWord
    have c2 : (decide (1 ≤ s.length) && decide (s.length ≤ 20)) = true := by simp; exact c
    rw [c2]
    simp [List.all_map]
  · have c1 : (decide ((1 : Int) ≤ (s.length : Int)) && decide ((s.length : Int) ≤ 20)) = false := by
      rw [Bool.and_eq_false_iff]; simp; omega
    rw [c1]
    have c2 : isWord s = false := by
      unfold isWord
      have : (decide (1 ≤ s.length) && decide (s.length ≤ 20)) = false := by rw [Bool.and_eq_false_iff]; simp; omega
      rw [this]; rfl
    rw [c2]; rfl
theorem is_text_str {s : Str} {n : Int} (hl : s.length ≤ sizeLine) : m_is_text (.str s) n = .ok (decide ((s.length : Int) ≤ n)) := by
  unfold m_is_text
  have e2 : lenA (.str s) = .ok (s.length : Int) := R.need_pos hl _
  have e1 : (Any.str s).is "str" = true := rfl
  rw [e1, if_pos rfl, e2]; rfl
theorem is_day_int {n : Int} : m_is_day (.int n) = .ok (decide (0 ≤ n) && decide (n ≤ 9999)) := by
  unfold m_is_day
  have e1 : (Any.int n).is "int" = true := rfl
  have e2 : (Any.int n).is "bool" = false := rfl
  rw [e1, e2]; rfl
structure GoodL (a b c : Str) (d : Int) (e : Str) : Prop where
  ga : isWord a = true
  gb : b.length ≤ 60
  bn : ¬ 10 ∈ b.cps.toList
  gc : c.length ≤ 400
  d0 : 0 ≤ d
  d1 : d ≤ 9999
  ge : e = ("" : Str) ∨ isWord e = true
theorem e_asc {e : Str} (h : e = ("" : Str) ∨ isWord e = true) : Asc e ∧ e.length ≤ 20 := by
  rcases h with rfl | h
  · exact ⟨asc_empty, by decide⟩
  · exact ⟨(isWord_iff.mp h).1.asc, (isWord_iff.mp h).2.2⟩
theorem Letter_ok {a b c e : Str} {d : Int} (h : GoodL a b c d e) : m_Letter___init__ (.str a) (.str b) (.str c) (.int d) (.str e) = .ok ⟨a, b, c, d, e⟩ := by
  unfold m_Letter___init__
  have ha := isWord_iff.mp h.ga
  have he := e_asc h.ge
  have b60 := h.gb
  have c400 := h.gc
  rw [is_word_str (le_line (by omega)), is_text_str (le_line (by omega)), is_text_str (le_line (by omega)), is_day_int, eqA_str he.1 asc_empty, is_word_str (s := e) (le_line (by omega)), h.ga]
  have e1 : decide ((b.length : Int) ≤ 60) = true := by simp; omega
  have e2 : decide ((c.length : Int) ≤ 400) = true := by simp; omega
  have e3 : (decide (0 ≤ d) && decide (d ≤ 9999)) = true := by simp; exact ⟨h.d0, h.d1⟩
  have e4 : decide (10 ∈ b.cps.toList) = false := by simp only [decide_eq_false_iff_not]; exact h.bn
  rw [e1, e2, e3]
  simp only [R.noexc, R.bind_ok, Any.asStr, Any.asInt, e4]
  simp only [Bool.not_true, Bool.false_eq_true, if_false, R.bind_ok]
  rcases h.ge with rfl | h5
  · simp
  · rw [h5]
    by_cases z : e = ("" : Str) <;> simp [z]

/-! the parts that are drawn -/
/-- signs that may be printed -/
def Prt (x : Str) : Prop := ∀ c, c ∈ x.cps.toList → 32 ≤ c ∧ c < 127
theorem Prt.asc {x : Str} (h : Prt x) : Asc x := fun c hc => by have := h c hc; omega
theorem Prt.app {a b : Str} (ha : Prt a) (hb : Prt b) : Prt (a ++ b) := fun c hc => by
  rw [tl_app] at hc
  rcases List.mem_append.mp hc with h | h
  · exact ha c h
  · exact hb c h
theorem Prt.sg {c : Nat} (h : 32 ≤ c ∧ c < 127) : Prt (sg c) := fun d hd => by
  have : d = c := by simpa [Ml.sg] using hd
  rw [this]; exact h
theorem Prt.lit {x : Str} (h : x.cps.toList.all (fun c => decide (32 ≤ c ∧ c < 127)) = true) : Prt x := fun c hc => by simpa using List.all_eq_true.mp h c hc
theorem cutS_mem {x : Str} {a b : Option Int} {c : Nat} (h : c ∈ (cutS x a b).cps.toList) : c ∈ x.cps.toList := by
  rw [cutS_tl] at h; exact cutL_mem h
theorem Prt.cut {x : Str} {a b : Option Int} (h : Prt x) : Prt (cutS x a b) := fun c hc => h c (cutS_mem hc)
theorem cutS_len {x : Str} {a b : Option Int} : (cutS x a b).length ≤ x.length := by rw [len_tl, cutS_tl, len_tl]; exact cutL_len
theorem cutS_to_len {x : Str} {n : Int} (h : 0 ≤ n) : (cutS x none (some n)).length ≤ n.toNat := by
  rw [len_tl, cutS_tl, cutL_to h, List.length_take]; omega

theorem repS_asc {a : Str} {n : Nat} (h : Asc a) : Asc (repS a n) := fun c hc => by
  rw [rep_tl] at hc
  obtain ⟨l, hl, hcl⟩ := List.mem_flatten.mp hc
  rw [List.eq_of_mem_replicate hl] at hcl
  exact h c hcl

/-! what is drawn -/
theorem nxt {ρ : Type} {P : ρ → Prop} {f : Int × T3 Int Script Int → R ρ} (st : T3 Int Script Int) (k : ∀ x st', 0 ≤ x → Ok (f (x, st')) P) : Ok ((m_law_next st).bind f) P := by
  have h : Ok (m_law_next st) fun r => 0 ≤ r.1 := by
    unfold m_law_next
    refine .bind (Q := fun _ => True) (.ite (fun c => ?_) fun _ => .ret trivial) fun s _ => .lets (.lets (.ret ?_))
    · have c := of_decide_eq_true c
      exact .need c (.idx (Int.emod_nonneg _ (by omega)) (Int.emod_lt_of_pos _ c) fun _ _ _ => .ret trivial)
    · show 0 ≤ _ / 64
      dsimp only
      exact Int.ediv_nonneg (Int.emod_nonneg _ (by decide)) (by decide)
  exact .bind h fun r hr => k r.1 r.2 hr
/-- of these signs alone -/
def Of (S x : Str) : Prop := ∀ c, c ∈ x.cps.toList → c ∈ S.cps.toList
theorem wd {ρ : Type} {P : ρ → Prop} {f : Str × T3 Int Script Int → R ρ} (st : T3 Int Script Int) {S : Str} {n : Int} (h1 : 1 ≤ S.length) (h2 : S.length ≤ 1000) (h3 : 1 ≤ n) (h4 : n ≤ 100)
    (k : ∀ x st', Of S x → 1 ≤ x.length → (x.length : Int) ≤ n → Ok (f (x, st')) P) : Ok ((m_law_word st S n).bind f) P := by
  have h : Ok (m_law_word st S n) fun r => Of S r.1 ∧ 1 ≤ r.1.length ∧ (r.1.length : Int) ≤ n := by
    unfold m_law_word
    refine nxt _ fun x1 s1 hx1 => .need (by omega) (nxt _ fun x2 s2 hx2 => .idx (Int.emod_nonneg _ (by decide)) (Int.emod_lt_of_pos _ (by decide)) fun m hm _ => ?_)
    have em0 := Int.emod_nonneg x1 (show n ≠ 0 by omega)
    have em1 := Int.emod_lt_of_pos x1 (show 0 < n by omega)
    have hm : 1 ≤ m ∧ m ≤ 101 := by
      simp only [List.mem_cons, List.not_mem_nil, or_false] at hm
      rcases hm with rfl | rfl | rfl | rfl
      · omega
      · omega
      · omega
      · omega
    refine .bind (Q := fun m => 1 ≤ m ∧ m ≤ n) (.ite (fun c => .ret ⟨h3, Int.le_refl _⟩) fun c => .ret ⟨hm.1, by simp at c; omega⟩) fun m hm => ?_
    refine .need (by omega) (.need (by rw [rngL_len]; exact le_line (by omega)) ?_)
    obtain ⟨s', ys, e, _, hl, hy⟩ := compR_keep (xs := rngL 0 m.toNat) (s := s2) (f := fun (s9 : T3 Int Script Int) (x10 : Int) =>
      (m_law_next s9).bind fun r13 =>
      R.need ((S).length ≤ sizeLine) <|
      R.need (0 < ((S).length : Int)) <|
      R.need ((S).length ≤ sizeLine) <|
      (idxR (S).cps.toList (r13.1 % ((S).length : Int))).bind fun c17 =>
      R.ok (r13.2, some (sg (c17)))) (fun _ => True) (fun y => ∃ c, c ∈ S.cps.toList ∧ y = sg c) trivial fun s x _ _ => by
        have : Ok ((m_law_next s).bind fun r13 =>
          R.need ((S).length ≤ sizeLine) <|
          R.need (0 < ((S).length : Int)) <|
          R.need ((S).length ≤ sizeLine) <|
          (idxR (S).cps.toList (r13.1 % ((S).length : Int))).bind fun c17 =>
          R.ok (r13.2, some (sg (c17)))) (fun r => ∃ s' c, c ∈ S.cps.toList ∧ r = (s', some (sg c))) := by
          refine nxt _ fun x3 s3 _ => .need (le_line (by omega)) (.need (by omega) (.need (le_line (by omega)) (.idx (Int.emod_nonneg _ (by omega)) (by rw [← len_tl]; exact Int.emod_lt_of_pos _ (by omega)) fun c hc _ => .ret ⟨s3, c, hc, rfl⟩)))
        obtain ⟨r, e, s', c, hc, rfl⟩ := this
        exact ⟨s', sg c, e, trivial, c, hc, rfl⟩
    refine .bindE e ?_
    rw [rngL_len] at hl
    have h1s : (ys.map (·.length)).sum = ys.length := by
      clear hl e
      induction ys with
      | nil => rfl
      | cons x xs ih =>
        obtain ⟨c, _, e⟩ := hy x (by simp)
        rw [List.map_cons, List.sum_cons, ih fun z m => hy z (by simp [m]), e, len_sg, List.length_cons]; omega
    have e0 : ("" : Str).length = 0 := by decide
    dsimp only
    refine .need (by rw [e0, h1s]; omega) (.ret ⟨fun c hc => ?_, ?_, ?_⟩)
    · rw [join_nil] at hc
      obtain ⟨l, hl, hc⟩ := List.mem_flatten.mp hc
      obtain ⟨y, hy2, rfl⟩ := List.mem_map.mp hl
      obtain ⟨d, hd, rfl⟩ := hy y hy2
      have : c = d := by simpa [Ml.sg] using hc
      rw [this]; exact hd
    · rw [len_join_nil, h1s, hl]; omega
    · rw [len_join_nil, h1s, hl]; omega
  exact .bind h fun r hr => k r.1 r.2 hr.1 hr.2.1 hr.2.2
theorem alnum_of {x : Str} (h : Of ("abcdefghijklmnopqrstuvwxyz0123456789" : Str) x) : Wsg x := fun c hc => alph_wsg c (h c hc)
theorem awd {ρ : Type} {P : ρ → Prop} {f : Str × T3 Int Script Int → R ρ} (st : T3 Int Script Int) (k : ∀ x st', isWord x = true → Ok (f (x, st')) P) : Ok ((m_law_any_word st).bind f) P := by
  have h : Ok (m_law_any_word st) fun r => isWord r.1 = true := by
    unfold m_law_any_word
    exact wd st (by decide +kernel) (by decide +kernel) (by decide) (by decide) fun x st' h1 h2 h3 => .ret (isWord_iff.mpr ⟨alnum_of h1, h2, by show x.length ≤ 20; omega⟩)
  exact .bind h fun r hr => k r.1 r.2 hr

/-! things that are no words; comparisons with a text -/
theorem isw_no {x : Any} (h : x.is "str" = false) : m_is_word x = .ok false := by
  unfold m_is_word
  rw [h]; rfl
theorem eqA_texts {x : Any} {s : Str} (hp : plA x = true) (hx : SeqAt.shaped (pdA x) = true) (hs : Asc s) (hn : ∀ t, x ≠ .str t) : eqA x (.str s) = .ok false := by
  unfold eqA
  rw [R.need_pos (by rw [plA_str, pdA_str]; exact ⟨hp, rfl, hx, shaped_str hs⟩), pdA_str]
  congr 1
  cases x with
  | str t => exact absurd rfl (hn t)
  | int t => rw [pdA_int]; rfl
  | bl t => rw [pdA]; rfl
  | non => rw [pdA]; rfl
  | tup t => rw [pdA]; rfl
  | lst t => rw [pdA]; rfl
  | oth t => rw [pdA]; rfl
/-- no word; and whether it is the text without signs is told -/
def NoW (x : Any) : Prop := m_is_word x = .ok false ∧ ∃ b, eqA x (.str ("" : Str)) = .ok b ∧ (b = true → x = .str ("" : Str))
theorem noW_str {s : Str} (ha : Asc s) (hl : s.length ≤ 10000) (h : isWord s = false) : NoW (.str s) :=
  ⟨by rw [is_word_str (le_line (by omega)), h], _, eqA_str ha asc_empty, fun z => by rw [of_decide_eq_true z]⟩
theorem noW_odd {x : Any} (h : x.is "str" = false) (hp : plA x = true) (hx : SeqAt.shaped (pdA x) = true) : NoW x :=
  ⟨isw_no h, _, eqA_texts hp hx asc_empty (fun t e => by subst e; cases h), fun z => absurd z Bool.false_ne_true⟩
theorem isWord_long {s : Str} (h : 20 < s.length) : isWord s = false := by
  rw [Bool.eq_false_iff]
  intro z
  have := (isWord_iff.mp z).2.2
  omega
theorem isWord_sign {s : Str} {c : Nat} (hc : c ∈ s.cps.toList) (h : wsg c = false) : isWord s = false := by
  rw [Bool.eq_false_iff]
  intro z
  have := (isWord_iff.mp z).1 c hc
  rw [h] at this; cases this
theorem list_str_ok {w : Str} (h : Asc w) : plA (Any.lst ([w].map Any.str)) = true ∧ SeqAt.shaped (pdA (Any.lst ([w].map Any.str))) = true := by
  have e1 : [w].map Any.str = [Any.str w] := rfl
  rw [e1]
  refine ⟨by rw [plA, plAL, plAL, plA_str]; rfl, ?_⟩
  rw [pdA, pdAL, pdAL, pdA_str]
  have hl : (PyData.list [.str w]).canLay0 = true := by
    have q1 : (PyData.str w).canLay0 = true := h.lay
    simp only [PyData.canLay0, PyData.canLayAll0] at q1 ⊢
    simp only [q1, Bool.and_self]
  unfold SeqAt.shaped
  rw [hl]; rfl
theorem nowd {ρ : Type} {P : ρ → Prop} {f : Any × T3 Int Script Int → R ρ} (st : T3 Int Script Int) (k : ∀ x st', NoW x → Ok (f (x, st')) P) : Ok ((m_law_no_word st).bind f) P := by
  have h : Ok (m_law_no_word st) fun r => NoW r.1 := by
    unfold m_law_no_word
    refine awd st fun w s1 hw => nxt _ fun x2 s2 hx2 => ?_
    obtain ⟨g1, g2, g3⟩ := isWord_iff.mp hw
    dsimp only
    refine .need (le_line (by omega)) (.need (by omega) (.lets ?_))
    have y0 := Int.emod_nonneg x2 (show ((w.length : Int) + 1) ≠ 0 by omega)
    generalize x2 % ((w.length : Int) + 1) = y at *
    have lA : ("A" : Str).length = 1 := by decide
    have lB : ("-" : Str).length = 1 := by decide
    have c1 : (cutS w none (some y)).length ≤ w.length := cutS_len
    have c2 : (cutS w (some y) (some 19)).length ≤ w.length := cutS_len
    refine .need (le_line (by omega)) (.need (le_line (by omega)) (.need (le_line (by omega)) (.need (le_line (by rw [len_app]; omega)) (.need (le_line (by omega)) (.need (le_line (by omega)) (.need (le_line (by omega)) (.need (le_line (by rw [len_app]; omega)) ?_)))))))
    refine .need ⟨le_line (show w.length * 21 ≤ _ by omega), by decide, by decide⟩ (.lets (nxt _ fun x3 s3 _ => .idx (Int.emod_nonneg _ (by decide)) (Int.emod_lt_of_pos _ (by decide)) fun x hx _ => .ret ?_))
    have wa := g1.asc
    have aA : Asc ("A" : Str) := Asc.lit (by decide +kernel)
    have aB : Asc ("-" : Str) := Asc.lit (by decide +kernel)
    simp only [List.mem_cons, List.not_mem_nil, or_false] at hx
    rcases hx with rfl | rfl | rfl | rfl | rfl | rfl | rfl
    · exact noW_str asc_empty (by decide) (by decide +kernel)
    · exact noW_str (((cutS_asc wa).app aA).app (cutS_asc wa)) (by rw [len_app, len_app]; omega) (isWord_sign (c := 65) (by rw [tl_app, tl_app]; exact List.mem_append_left _ (List.mem_append_right _ (by decide +kernel))) (by decide))
    · exact noW_str (((cutS_asc wa).app aB).app (cutS_asc wa)) (by rw [len_app, len_app]; omega) (isWord_sign (c := 45) (by rw [tl_app, tl_app]; exact List.mem_append_left _ (List.mem_append_right _ (by decide +kernel))) (by decide))
    · have hl : (repS w (21 : Int).toNat).length = w.length * 21 := rep_len w 21
      refine noW_str (fun c hc => ?_) (by omega) (isWord_long (by omega))
      rw [rep_tl] at hc
      obtain ⟨l, hl, hcl⟩ := List.mem_flatten.mp hc
      rw [List.eq_of_mem_replicate hl] at hcl
      exact wa c hcl
    · exact noW_odd rfl (by rw [plA] <;> (intro _ h; cases h)) (by rw [pdA]; rfl)
    · exact noW_odd rfl (plA_int 7) (by rw [pdA_int]; rfl)
    · exact noW_odd rfl (list_str_ok wa).1 (list_str_ok wa).2
  exact .bind h fun r hr => k r.1 r.2 hr

theorem eqA_lit {k s : Str} (hk : Asc k) (hs : Asc s) : eqA (.str k) (.str s) = .ok (decide (k = s)) := eqA_str hk hs
theorem kinds : Asc ("drop" : Str) ∧ Asc ("put" : Str) ∧ Asc ("place" : Str) ∧ Asc ("mark" : Str) := ⟨Asc.lit (by decide +kernel), Asc.lit (by decide +kernel), Asc.lit (by decide +kernel), Asc.lit (by decide +kernel)⟩
theorem deed_first {x : Any} {xs : List Any} (h : x.is "str" = false) : m_is_deed (.tup (x :: xs)) = .ok false := by
  unfold m_is_deed
  have e1 : (Any.tup (x :: xs)).is "tuple" = true := rfl
  have e2 : lenA (.tup (x :: xs)) = .ok ((x :: xs).length : Int) := rfl
  have e3 : Any.asTup (.tup (x :: xs)) = .ok (x :: xs) := rfl
  have i0 : idxR (x :: xs) 0 = .ok x := idxR_ok (by decide) rfl
  rw [e1, e2, e3, R.bind_ok, R.bind_ok, i0, R.bind_ok, h]
  by_cases c : (((x :: xs).length : Nat) : Int) < 2
  · rw [decide_eq_true c]; rfl
  · rw [decide_eq_false c]; rfl
theorem deed_word {k : Str} {n : Any} {rest : List Any} (hn : m_is_word n = .ok false) : m_is_deed (.tup (.str k :: n :: rest)) = .ok false := by
  unfold m_is_deed
  have e1 : (Any.tup (.str k :: n :: rest)).is "tuple" = true := rfl
  have e2 : lenA (.tup (.str k :: n :: rest)) = .ok ((Any.str k :: n :: rest).length : Int) := rfl
  have e3 : Any.asTup (.tup (.str k :: n :: rest)) = .ok (.str k :: n :: rest) := rfl
  have i0 : idxR (Any.str k :: n :: rest) 0 = .ok (.str k) := idxR_ok (by decide) rfl
  have i1 : idxR (Any.str k :: n :: rest) 1 = .ok n := idxR_ok (by decide) rfl
  have c : ¬ (((Any.str k :: n :: rest).length : Nat) : Int) < 2 := by simp only [List.length_cons]; omega
  have e4 : (Any.str k).is "str" = true := rfl
  rw [e1, e2, e3, R.bind_ok, R.bind_ok, i0, R.bind_ok, R.bind_ok, i1, R.bind_ok, hn, decide_eq_false c, e4]
  rfl
theorem deed_eval {k : Str} {n : Any} {rest : List Any} (hk : Asc k) (hn : m_is_word n = .ok true) : m_is_deed (.tup (.str k :: n :: rest)) =
    if k = ("drop" : Str) then .ok (decide (((rest.length + 2 : Nat) : Int) = 2)) else
    if k = ("put" : Str) then (if decide (((rest.length + 2 : Nat) : Int) = 3) = true then (idxR (Any.str k :: n :: rest) 2).bind fun x => m_is_parts x else .ok false) else
    if k = ("place" : Str) then (if decide (((rest.length + 2 : Nat) : Int) = 3) = true then (idxR (Any.str k :: n :: rest) 2).bind fun x => m_is_word x else .ok false) else
    if k = ("mark" : Str) then (if decide (((rest.length + 2 : Nat) : Int) = 4) = true then (idxR (Any.str k :: n :: rest) 2).bind fun x => (m_is_word x).bind fun b => if b = true then (idxR (Any.str k :: n :: rest) 3).bind fun y => .ok (y.is "bool") else .ok false else .ok false) else .ok false := by
  unfold m_is_deed
  have e1 : (Any.tup (.str k :: n :: rest)).is "tuple" = true := rfl
  have e2 : lenA (.tup (.str k :: n :: rest)) = .ok ((rest.length + 2 : Nat) : Int) := rfl
  have e3 : Any.asTup (.tup (.str k :: n :: rest)) = .ok (.str k :: n :: rest) := rfl
  have i0 : idxR (Any.str k :: n :: rest) 0 = .ok (.str k) := idxR_ok (by decide) rfl
  have i1 : idxR (Any.str k :: n :: rest) 1 = .ok n := idxR_ok (by decide) rfl
  have c : ¬ (((rest.length + 2 : Nat) : Int)) < 2 := by omega
  have e4 : (Any.str k).is "str" = true := rfl
  obtain ⟨k1, k2, k3, k4⟩ := kinds
  have rb : ∀ {α : Type} (m : R α), (m.bind fun r => R.ok r) = m := fun m => by cases m <;> rfl
  rw [e1, e2, e3]
  simp only [R.bind_ok, i0, i1, hn, c, e4, eqA_lit hk k1, eqA_lit hk k2, eqA_lit hk k3, eqA_lit hk k4, Bool.not_true, Bool.false_eq_true, if_false, decide_eq_true_eq, rb]

theorem lits4 : (¬ ("put" : Str) = ("drop" : Str)) ∧ (¬ ("place" : Str) = ("drop" : Str)) ∧ (¬ ("place" : Str) = ("put" : Str)) ∧ (¬ ("mark" : Str) = ("drop" : Str)) ∧ (¬ ("mark" : Str) = ("put" : Str)) ∧ (¬ ("mark" : Str) = ("place" : Str)) := by decide +kernel
theorem deed_drop {n : Any} {rest : List Any} (hn : m_is_word n = .ok true) : m_is_deed (.tup (.str ("drop" : Str) :: n :: rest)) = .ok (decide (rest.length = 0)) := by
  rw [deed_eval kinds.1 hn, if_pos rfl]
  congr 1
  rw [decide_eq_decide]; omega
theorem deed_put1 {n p : Any} {b : Bool} (hn : m_is_word n = .ok true) (hp : m_is_parts p = .ok b) : m_is_deed (.tup [.str ("put" : Str), n, p]) = .ok b := by
  rw [deed_eval kinds.2.1 hn, if_neg lits4.1, if_pos rfl]
  show m_is_parts p = _
  exact hp
theorem deed_putN {n : Any} {rest : List Any} (hn : m_is_word n = .ok true) (h : rest.length ≠ 1) : m_is_deed (.tup (.str ("put" : Str) :: n :: rest)) = .ok false := by
  rw [deed_eval kinds.2.1 hn, if_neg lits4.1, if_pos rfl, if_neg (by rw [decide_eq_true_iff]; omega)]
theorem deed_place1 {n p : Any} {b : Bool} (hn : m_is_word n = .ok true) (hp : m_is_word p = .ok b) : m_is_deed (.tup [.str ("place" : Str), n, p]) = .ok b := by
  rw [deed_eval kinds.2.2.1 hn, if_neg lits4.2.1, if_neg lits4.2.2.1, if_pos rfl]
  show m_is_word p = _
  exact hp
theorem deed_placeN {n : Any} {rest : List Any} (hn : m_is_word n = .ok true) (h : rest.length ≠ 1) : m_is_deed (.tup (.str ("place" : Str) :: n :: rest)) = .ok false := by
  rw [deed_eval kinds.2.2.1 hn, if_neg lits4.2.1, if_neg lits4.2.2.1, if_pos rfl, if_neg (by rw [decide_eq_true_iff]; omega)]
theorem deed_mark1 {n p y : Any} {b : Bool} (hn : m_is_word n = .ok true) (hp : m_is_word p = .ok b) : m_is_deed (.tup [.str ("mark" : Str), n, p, y]) = .ok (b && y.is "bool") := by
  rw [deed_eval kinds.2.2.2 hn, if_neg lits4.2.2.2.1, if_neg lits4.2.2.2.2.1, if_neg lits4.2.2.2.2.2, if_pos rfl]
  show R.bind (m_is_word p) _ = _
  rw [hp, R.bind_ok]
  cases b <;> rfl
theorem deed_markN {n : Any} {rest : List Any} (hn : m_is_word n = .ok true) (h : rest.length ≠ 2) : m_is_deed (.tup (.str ("mark" : Str) :: n :: rest)) = .ok false := by
  rw [deed_eval kinds.2.2.2 hn, if_neg lits4.2.2.2.1, if_neg lits4.2.2.2.2.1, if_neg lits4.2.2.2.2.2, if_pos rfl, if_neg (by rw [decide_eq_true_iff]; omega)]
theorem deed_else {k : Str} {n : Any} {rest : List Any} (hk : Asc k) (hn : m_is_word n = .ok true) (h : ¬ k = ("drop" : Str) ∧ ¬ k = ("put" : Str) ∧ ¬ k = ("place" : Str) ∧ ¬ k = ("mark" : Str)) : m_is_deed (.tup (.str k :: n :: rest)) = .ok false := by
  rw [deed_eval hk hn, if_neg h.1, if_neg h.2.1, if_neg h.2.2.1, if_neg h.2.2.2]
theorem word_true {s : Str} (h : isWord s = true) : m_is_word (.str s) = .ok true := by
  have := (isWord_iff.mp h).2.2
  rw [is_word_str (le_line (by omega)), h]
/-- parts of a letter, or not -/
theorem parts_good {a b c e : Str} {d : Int} (G : GoodL a b c d e) : m_is_parts (.tup [.str a, .str b, .str c, .int d, .str e]) = .ok true := by
  unfold m_is_parts
  have : m_letter_of (.tup [.str a, .str b, .str c, .int d, .str e]) = .ok ⟨a, b, c, d, e⟩ := by
    unfold m_letter_of
    show (m_Letter___init__ (.str a) (.str b) (.str c) (.int d) (.str e)).bind _ = _
    rw [Letter_ok G]; rfl
  rw [this]; rfl
theorem parts_exc {x : Any} (h : m_letter_of x = .exc ⟨1, 0⟩) : m_is_parts x = .ok false := by
  unfold m_is_parts
  rw [h]; rfl
theorem parts_no {x : Any} (h : x.is "tuple" = false) : m_is_parts x = .ok false := parts_exc (by unfold m_letter_of; rw [h]; rfl)
theorem parts_len {xs : List Any} (h : xs.length ≠ 5) : m_is_parts (.tup xs) = .ok false := parts_exc (by
  unfold m_letter_of
  have e1 : (Any.tup xs).is "tuple" = true := rfl
  have e2 : lenA (.tup xs) = .ok (xs.length : Int) := rfl
  have e3 : decide ((xs.length : Int) = 5) = false := decide_eq_false (by omega)
  rw [e1, e2]
  show (if (!decide ((xs.length : Int) = 5)) = true then _ else _) = _
  rw [e3]; rfl)
theorem parts_init {x1 x2 x3 x4 x5 : Any} (h : m_Letter___init__ x1 x2 x3 x4 x5 = .exc ⟨1, 0⟩) : m_is_parts (.tup [x1, x2, x3, x4, x5]) = .ok false := parts_exc (by
  unfold m_letter_of
  show (m_Letter___init__ x1 x2 x3 x4 x5).bind _ = _
  rw [h]; rfl)

/-- a letter's parts, one put otherwise, are none -/
theorem init_sender {a b c d e : Any} (h : m_is_word a = .ok false) : m_Letter___init__ a b c d e = .exc ⟨1, 0⟩ := by
  unfold m_Letter___init__
  rw [h]; rfl
theorem init_title {a b : Str} {c d e : Any} (ha : isWord a = true) (hb : 60 < b.length) (hl : b.length ≤ 10000) : m_Letter___init__ (.str a) (.str b) c d e = .exc ⟨1, 0⟩ := by
  unfold m_Letter___init__
  rw [word_true ha, is_text_str (le_line (by omega)), decide_eq_false (show ¬ (b.length : Int) ≤ 60 by omega)]; rfl
theorem init_body {a b c : Str} {d e : Any} (ha : isWord a = true) (hb : b.length ≤ 60) (hn : ¬ 10 ∈ b.cps.toList) (hc : 400 < c.length) (hl : c.length ≤ 10000) : m_Letter___init__ (.str a) (.str b) (.str c) d e = .exc ⟨1, 0⟩ := by
  unfold m_Letter___init__
  rw [word_true ha, is_text_str (le_line (by omega)), is_text_str (le_line (by omega)), decide_eq_true (show (b.length : Int) ≤ 60 by omega), decide_eq_false (show ¬ (c.length : Int) ≤ 400 by omega)]
  simp only [R.noexc, R.bind_ok, Any.asStr, Bool.not_true, Bool.false_eq_true, if_false, decide_eq_false hn, Bool.not_false, if_true]
theorem init_day {a b c : Str} {d : Int} {e : Any} (ha : isWord a = true) (hb : b.length ≤ 60) (hn : ¬ 10 ∈ b.cps.toList) (hc : c.length ≤ 400) (hd : 9999 < d) : m_Letter___init__ (.str a) (.str b) (.str c) (.int d) e = .exc ⟨1, 0⟩ := by
  unfold m_Letter___init__
  have h1 : (decide (0 ≤ d) && decide (d ≤ 9999)) = false := by rw [Bool.and_eq_false_iff]; simp; omega
  rw [word_true ha, is_text_str (le_line (by omega)), is_text_str (le_line (by omega)), is_day_int, h1, decide_eq_true (show (b.length : Int) ≤ 60 by omega), decide_eq_true (show (c.length : Int) ≤ 400 by omega)]
  simp only [R.noexc, R.bind_ok, Any.asStr, Bool.not_true, Bool.false_eq_true, if_false, decide_eq_false hn, Bool.not_false, if_true]
theorem init_answers {a b c : Str} {d : Int} {e : Any} {z : Bool} (ha : isWord a = true) (hb : b.length ≤ 60) (hn : ¬ 10 ∈ b.cps.toList) (hc : c.length ≤ 400) (h0 : 0 ≤ d) (hd : d ≤ 9999) (he : eqA e (.str ("" : Str)) = .ok false) (hw : m_is_word e = .ok false) : m_Letter___init__ (.str a) (.str b) (.str c) (.int d) e = .exc ⟨1, 0⟩ := by
  unfold m_Letter___init__
  have h1 : (decide (0 ≤ d) && decide (d ≤ 9999)) = true := by simp; omega
  rw [word_true ha, is_text_str (le_line (by omega)), is_text_str (le_line (by omega)), is_day_int, h1, he, hw, decide_eq_true (show (b.length : Int) ≤ 60 by omega), decide_eq_true (show (c.length : Int) ≤ 400 by omega)]
  simp only [R.noexc, R.bind_ok, Any.asStr, Bool.not_true, Bool.false_eq_true, if_false, decide_eq_false hn, Bool.not_false, if_true]
/-- no word, nor the text without signs -/
def NoE (x : Any) : Prop := m_is_word x = .ok false ∧ eqA x (.str ("" : Str)) = .ok false
theorem noE_bar : NoE (.str ("-" : Str)) := ⟨by rw [is_word_str (by decide)]; decide +kernel, by rw [eqA_str (Asc.lit (by decide +kernel)) asc_empty]; decide +kernel⟩
theorem noparts {ρ : Type} {P : ρ → Prop} {f : Any × T3 Int Script Int → R ρ} (st : T3 Int Script Int) {a b c e : Str} {d : Int} (G : GoodL a b c d e) (k : ∀ x st', m_is_parts x = .ok false → Ok (f (x, st')) P) :
    Ok ((m_law_no_parts st (.tup [.str a, .str b, .str c, .int d, .str e])).bind f) P := by
  have h : Ok (m_law_no_parts st (.tup [.str a, .str b, .str c, .int d, .str e])) fun r => m_is_parts r.1 = .ok false := by
    unfold m_law_no_parts
    refine nxt _ fun x1 s1 hx1 => .lets (nowd _ fun o1 s2 ho1 => .need ⟨by decide +kernel, by decide, by decide⟩ (.need ⟨by decide +kernel, by decide, by decide⟩ (nowd _ fun o2 s3 ho2 => ?_)))
    have y0 := Int.emod_nonneg x1 (show (5 : Int) ≠ 0 by decide)
    have y1 := Int.emod_lt_of_pos x1 (show (0 : Int) < 5 by decide)
    dsimp only
    generalize x1 % 5 = y at *
    have lt : (repS ("t" : Str) (61 : Int).toNat).length = 61 := by rw [rep_len]; decide +kernel
    have lb : (repS ("b" : Str) (401 : Int).toNat).length = 401 := by rw [rep_len]; decide +kernel
    have at_ : Asc (repS ("t" : Str) (61 : Int).toNat) := repS_asc (Asc.lit (by decide +kernel))
    have ab_ : Asc (repS ("b" : Str) (401 : Int).toNat) := repS_asc (Asc.lit (by decide +kernel))
    refine .idx y0 (by show y < 5; omega) fun x hm hg => ?_
    have hy : y = 0 ∨ y = 1 ∨ y = 2 ∨ y = 3 ∨ y = 4 := by omega
    have hx : ∃ bb, eqA x (.str ("" : Str)) = .ok bb ∧ (bb = true → x = .str ("" : Str)) ∧ (y = 0 → m_is_word x = .ok false) ∧ (y = 1 → x = .str (repS ("t" : Str) (61 : Int).toNat)) ∧ (y = 2 → x = .str (repS ("b" : Str) (401 : Int).toNat)) ∧ (y = 3 → x = .int 10000) ∧ (y = 4 → m_is_word x = .ok false) := by
      rcases hy with rfl | rfl | rfl | rfl | rfl
      · have e : o1 = x := by injection hg
        subst e
        obtain ⟨bb, h1, h2⟩ := ho1.2
        exact ⟨bb, h1, h2, fun _ => ho1.1, fun z => by omega, fun z => by omega, fun z => by omega, fun z => by omega⟩
      · have e : Any.str (repS ("t" : Str) (61 : Int).toNat) = x := by injection hg
        subst e
        exact ⟨_, eqA_str at_ asc_empty, fun z => by rw [of_decide_eq_true z], fun z => by omega, fun _ => rfl, fun z => by omega, fun z => by omega, fun z => by omega⟩
      · have e : Any.str (repS ("b" : Str) (401 : Int).toNat) = x := by injection hg
        subst e
        exact ⟨_, eqA_str ab_ asc_empty, fun z => by rw [of_decide_eq_true z], fun z => by omega, fun z => by omega, fun _ => rfl, fun z => by omega, fun z => by omega⟩
      · have e : Any.int 10000 = x := by injection hg
        subst e
        exact ⟨false, eqA_texts (plA_int _) (by rw [pdA_int]; rfl) asc_empty (fun t z => by cases z), fun z => absurd z Bool.false_ne_true, fun z => by omega, fun z => by omega, fun z => by omega, fun _ => rfl, fun z => by omega⟩
      · have e : o2 = x := by injection hg
        subst e
        obtain ⟨bb, h1, h2⟩ := ho2.2
        exact ⟨bb, h1, h2, fun z => by omega, fun z => by omega, fun z => by omega, fun z => by omega, fun _ => ho2.1⟩
    obtain ⟨bb, e1, e2, f0, f1, f2, f3, f4⟩ := hx
    have l0 : ("" : Str).length = 0 := by decide
    refine .bindE e1 (.bind (Q := fun s => (y = 0 → m_is_word s = .ok false) ∧ (y = 1 → s = .str (repS ("t" : Str) (61 : Int).toNat)) ∧ (y = 2 → s = .str (repS ("b" : Str) (401 : Int).toNat)) ∧ (y = 3 → s = .int 10000) ∧ (y = 4 → NoE s)) (.ite (fun z => .ret ?_) fun z => .ret ?_) fun s hs => ?_)
    · have ex := e2 z
      refine ⟨fun _ => noE_bar.1, fun q => ?_, fun q => ?_, fun q => ?_, fun _ => noE_bar⟩
      · have := f1 q
        rw [ex] at this
        injection this with this
        rw [← this] at lt; omega
      · have := f2 q
        rw [ex] at this
        injection this with this
        rw [← this] at lb; omega
      · have := f3 q
        rw [ex] at this; cases this
    · have : bb = false := by simpa using z
      exact ⟨f0, f1, f2, f3, fun q => ⟨f4 q, by rw [e1, this]⟩⟩
    obtain ⟨g0, g1, g2, g3, g4⟩ := hs
    have cl : ∀ (u v : Option Int), (cutL ([.str a, .str b, .str c, .int d, .str e] : List Any) u v).length ≤ 5 := fun u v => cutL_len
    refine .bindE rfl (.need (fun z => ?_) (.bindE rfl (.need (le_line (by have := cl none (some y); simp only [List.length_cons, List.length_nil]; omega)) (.bindE rfl (.need (fun z => ?_) (.bindE rfl (.bindE rfl (.need (le_line (by have := cl none (some y); have := cl (some (y + 1)) none; simp only [List.length_append, List.length_cons, List.length_nil]; omega)) (.bindE rfl (.bindE rfl (.need (le_line (by show 5 + 1 ≤ _; decide)) (.bindE rfl (.need (by show ¬ (HT.sIx 5 0 none = 0 ∧ HT.sIx 5 5 (some 4) = 5); decide) (.lets (nxt _ fun x2 s4 hx2 => ?_)))))))))))))))
    · have z2 := z.2
      rw [sIx_nn y0] at z2
      simp only [List.length_cons, List.length_nil] at z2
      omega
    · have z1 := z.1
      rw [sIx_nn (by omega)] at z1
      simp only [List.length_cons, List.length_nil] at z1
      omega
    refine .idx (Int.emod_nonneg _ (by decide)) (Int.emod_lt_of_pos _ (by decide)) fun x hm2 _ => .ret ?_
    simp only [List.mem_cons, List.not_mem_nil, or_false] at hm2
    rcases hm2 with rfl | rfl | rfl | rfl | rfl | rfl
    · rcases hy with rfl | rfl | rfl | rfl | rfl
      · exact parts_init (init_sender (g0 rfl))
      · rw [g1 rfl]
        exact parts_init (init_title G.ga (by rw [lt]; decide) (by rw [lt]; decide))
      · rw [g2 rfl]
        exact parts_init (init_body G.ga G.gb G.bn (by rw [lb]; decide) (by rw [lb]; decide))
      · rw [g3 rfl]
        exact parts_init (init_day G.ga G.gb G.bn G.gc (by decide))
      · exact parts_init (init_answers (z := true) G.ga G.gb G.bn G.gc G.d0 G.d1 (g4 rfl).2 (g4 rfl).1)
    · exact parts_no rfl
    · exact parts_len (by show 6 ≠ 5; decide)
    · exact parts_len (by show 4 ≠ 5; decide)
    · exact parts_no rfl
    · exact parts_init (init_sender (by rw [is_word_str (by decide)]; decide +kernel))
  exact .bind h fun r hr => k r.1 r.2 hr

/-! deeds that are drawn -/
inductive Good : Any → Prop
  | put (n : Str) {a b c e : Str} {d : Int} : isWord n = true → GoodL a b c d e → Asc b → Asc c → Good (.tup [.str ("put" : Str), .str n, .tup [.str a, .str b, .str c, .int d, .str e]])
  | place (n w : Str) : isWord n = true → isWord w = true → Good (.tup [.str ("place" : Str), .str n, .str w])
  | mark (n w : Str) (z : Bool) : isWord n = true → isWord w = true → Good (.tup [.str ("mark" : Str), .str n, .str w, .bl z])
  | drop (n : Str) : isWord n = true → Good (.tup [.str ("drop" : Str), .str n])
theorem Good.deed {x : Any} (h : Good x) : m_is_deed x = .ok true := by
  cases h with
  | put n hn G _ _ => exact deed_put1 (word_true hn) (parts_good G)
  | place n w hn hw => exact deed_place1 (word_true hn) (word_true hw)
  | mark n w z hn hw => rw [deed_mark1 (word_true hn) (word_true hw)]; rfl
  | drop n hn => rw [deed_drop (word_true hn)]; rfl
theorem signsT : ∀ c, c ∈ (" abcXYZ019!-.,;:'~" : Str).cps.toList → c < 128 ∧ c ≠ 10 := by
  have : ((" abcXYZ019!-.,;:'~" : Str).cps.toList.all fun c => decide (c < 128 ∧ c ≠ 10)) = true := by decide +kernel
  exact fun c hc => of_decide_eq_true (List.all_eq_true.mp this c hc)
theorem signsB : ∀ c, c ∈ ((" abcXYZ019!-.,;:'~" : Str) ++ ("\n" : Str)).cps.toList → c < 128 := by
  have : (((" abcXYZ019!-.,;:'~" : Str) ++ ("\n" : Str)).cps.toList.all fun c => decide (c < 128)) = true := by decide +kernel
  exact fun c hc => of_decide_eq_true (List.all_eq_true.mp this c hc)
theorem prts {ρ : Type} {P : ρ → Prop} {f : T5 Str Str Str Int Str × T3 Int Script Int → R ρ} (st : T3 Int Script Int) (k : ∀ p st', GoodL p.a p.b p.c p.d p.e → Asc p.b → Asc p.c → Ok (f (p, st')) P) : Ok ((m_law_parts st).bind f) P := by
  have h : Ok (m_law_parts st) fun r => GoodL r.1.a r.1.b r.1.c r.1.d r.1.e ∧ Asc r.1.b ∧ Asc r.1.c := by
    unfold m_law_parts
    refine wd st (by decide +kernel) (by decide +kernel) (by decide) (by decide) fun t s1 h1 h2 h3 => .need (by decide +kernel) (wd _ (by decide +kernel) (by decide +kernel) (by decide) (by decide) fun b s2 g1 g2 g3 => awd _ fun w s3 hw => nxt _ fun x1 s4 hx1 => ?_)
    dsimp only
    refine .idx (Int.emod_nonneg _ (by decide)) (Int.emod_lt_of_pos _ (by decide)) fun e he _ => nxt _ fun x2 s5 hx2 => nxt _ fun x3 s6 hx3 => .idx (Int.emod_nonneg _ (by decide)) (Int.emod_lt_of_pos _ (by decide)) fun d hd _ => awd _ fun v s7 hv => .ret ⟨⟨hv, ?_, ?_, ?_, ?_, ?_, ?_⟩, ?_, ?_⟩
    · show t.length ≤ 60; omega
    · exact fun m => (signsT 10 (h1 10 m)).2 rfl
    · show b.length ≤ 400; omega
    · simp at hd; show 0 ≤ d; omega
    · simp at hd; show d ≤ 9999; omega
    · simp only [List.mem_cons, List.not_mem_nil, or_false] at he
      rcases he with rfl | rfl
      · exact .inl rfl
      · exact .inr hw
    · exact fun c hc => (signsT c (h1 c hc)).1
    · exact fun c hc => signsB c (g1 c hc)
  exact .bind h fun r hr => k r.1 r.2 hr.1 hr.2.1 hr.2.2
/-- a hand -/
def HandT (x : Str) : Prop := Of ("abcdefghijklmnopqrstuvwxyz" : Str) x ∧ 1 ≤ x.length ∧ x.length ≤ 8
theorem small_wsg : ∀ c, c ∈ ("abcdefghijklmnopqrstuvwxyz" : Str).cps.toList → wsg c = true := by
  have : ("abcdefghijklmnopqrstuvwxyz" : Str).cps.toList.all wsg = true := by decide +kernel
  exact fun c hc => List.all_eq_true.mp this c hc
theorem HandT.wsg {x : Str} (h : HandT x) : Wsg x := fun c hc => small_wsg c (h.1 c hc)
theorem deeds {ρ : Type} {P : ρ → Prop} {f : Any × T3 Int Script Int → R ρ} (st : T3 Int Script Int) {names : List Str} {hand : Str} {puts : Int} (hn : ∀ n, n ∈ names → isWord n = true) (hl : names.length ≤ 100) (hh : HandT hand) (h0 : 0 ≤ puts) (h1 : puts ≤ 900)
    (k : ∀ x st', Good x → Ok (f (x, st')) P) : Ok ((m_law_deed st names hand puts).bind f) P := by
  have h : Ok (m_law_deed st names hand puts) fun r => Good r.1 := by
    unfold m_law_deed
    have lh := hh.2
    have e1 : ("1" : Str).length = 1 := by decide
    obtain ⟨n1, n2, n3⟩ := num_wd (i := puts + 1) (by omega) (by omega)
    have hand1 : isWord (hand ++ ("1" : Str)) = true := isWord_iff.mpr ⟨hh.wsg.app (Wsg.lit (by decide +kernel)), by rw [len_app]; omega, by rw [len_app]; omega⟩
    refine nxt _ fun x1 s1 hx1 => .lets (.ite (fun _ => ?_) fun _ => ?_)
    · exact .need (log2_small (by omega) (by omega)) (.need (le_line (by omega)) (prts _ fun p s2 G hb hc => .ret (.put _ (isWord_iff.mpr ⟨hh.wsg.app n1, by rw [len_app]; omega, by rw [len_app]; omega⟩) G hb hc)))
    · refine awd _ fun w s2 hw => .need (le_line (by rw [e1]; omega)) (.need (le_line (by simp only [List.length_cons, List.length_nil]; omega)) (nxt _ fun x2 s3 hx2 => .need (by omega) ?_))
      refine .idx (Int.emod_nonneg _ (by omega)) (by rw [List.length_append]; simp only [List.length_cons, List.length_nil]; exact Int.emod_lt_of_pos _ (by omega)) fun n hn1 _ => nxt _ fun x3 s4 hx3 => .idx (Int.emod_nonneg _ (by decide)) (Int.emod_lt_of_pos _ (by decide)) fun m hm _ => ?_
      have hnw : isWord n = true := by
        rcases List.mem_append.mp hn1 with h | h
        · exact hn n h
        · rw [List.mem_singleton.mp h]; exact hand1
      have hmw : isWord m = true := by
        simp only [List.mem_cons, List.not_mem_nil, or_false] at hm
        rcases hm with rfl | rfl
        · exact hw
        · exact hnw
      refine .ite (fun _ => awd _ fun v s5 hv => .ret (.place _ _ hmw hv)) fun _ => .ite (fun _ => awd _ fun v s5 hv => nxt _ fun x4 s6 _ => .ret (.mark _ _ _ hmw hv)) fun _ => .ret (.drop _ hmw)
  exact .bind h fun r hr => k r.1 r.2 hr

theorem nodeeds {ρ : Type} {P : ρ → Prop} {f : Any × T3 Int Script Int → R ρ} (st : T3 Int Script Int) {x : Any} (hx : Good x) (k : ∀ x st', m_is_deed x = .ok false → Ok (f (x, st')) P) : Ok ((m_law_no_deed st x).bind f) P := by
  have h : Ok (m_law_no_deed st x) fun r => m_is_deed r.1 = .ok false := by
    have core : ∀ (kk n : Str) (rest : List Any), Asc kk → isWord n = true → rest.length ≤ 2 →
        (rest.length = 2 → ∀ z, z ∈ [(Any.int 1), (Any.int 0), Any.non, (Any.str ("True" : Str))] → m_is_deed (.tup (cutL (.str kk :: .str n :: rest) none (some 3) ++ [z])) = .ok false) →
        (1 ≤ rest.length → kk = ("put" : Str) → ∃ a b c e d, GoodL a b c d e ∧ rest = [.tup [.str a, .str b, .str c, .int d, .str e]]) →
        (1 ≤ rest.length → ¬ kk = ("put" : Str) → ∀ z, NoW z → m_is_deed (.tup ((cutL (.str kk :: .str n :: rest) none (some 2) ++ [z]) ++ cutL (.str kk :: .str n :: rest) (some 3) none)) = .ok false) →
        Ok (m_law_no_deed st (.tup (.str kk :: .str n :: rest))) fun r => m_is_deed r.1 = .ok false := by
      intro kk n rest hk hn hl h3 hp hq
      unfold m_law_no_deed
      have eL : lenA (.tup (.str kk :: .str n :: rest)) = .ok ((rest.length + 2 : Nat) : Int) := rfl
      have eT : Any.asTup (.tup (.str kk :: .str n :: rest)) = .ok (.str kk :: .str n :: rest) := rfl
      have ll : (Any.str kk :: Any.str n :: rest).length = rest.length + 2 := rfl
      have cl : ∀ (u v : Option Int), (cutL (Any.str kk :: Any.str n :: rest) u v).length ≤ 4 := fun u v => Nat.le_trans cutL_len (by rw [ll]; omega)
      refine nxt _ fun x1 s1 hx1 => .bindE eL (.need (by omega) (.lets ?_))
      have y0 := Int.emod_nonneg x1 (show ((rest.length + 2 : Nat) : Int) ≠ 0 by omega)
      have y1 := Int.emod_lt_of_pos x1 (show (0 : Int) < ((rest.length + 2 : Nat) : Int) by omega)
      dsimp only
      generalize x1 % ((rest.length + 2 : Nat) : Int) = y at *
      refine .ite (fun c0 => ?_) fun c0 => .ite (fun c1 => ?_) fun c1 => .ite (fun c3 => ?_) fun c3 => ?_
      · refine .bindE eT (.bindE (idxR_ok (x := Any.str kk) (by decide) rfl) (nxt _ fun x2 s2 hx2 => .idx (Int.emod_nonneg _ (by decide)) (Int.emod_lt_of_pos _ (by decide)) fun z hz _ => .bindE eT (.need (fun q => ?_) (.bindE rfl (.need (le_line (by have := cl (some 1) none; simp only [List.length_cons, List.length_nil]; omega)) (.ret ?_))))))
        · have := q.1
          rw [sIx_nn (by decide), ll] at this
          have h1 : (1 : Int).toNat = 1 := rfl
          omega
        · have e : cutL (Any.str kk :: Any.str n :: rest) (some 1) none = .str n :: rest := by rw [cutL_from (by decide)]; rfl
          dsimp only
          rw [e]
          simp only [List.mem_cons, List.not_mem_nil, or_false] at hz
          rcases hz with rfl | rfl | rfl | rfl | rfl | rfl | rfl | rfl | rfl
          · exact deed_else (Asc.lit (by decide +kernel)) (word_true hn) (by decide +kernel)
          · exact deed_else (Asc.lit (by decide +kernel)) (word_true hn) (by decide +kernel)
          · exact deed_else (Asc.lit (by decide +kernel)) (word_true hn) (by decide +kernel)
          · exact deed_else (Asc.lit (by decide +kernel)) (word_true hn) (by decide +kernel)
          · exact deed_first rfl
          · exact deed_first rfl
          · exact deed_first rfl
          · exact deed_first rfl
          · exact deed_first rfl
      · refine .bindE eT (.bindE (idxR_ok (x := Any.str kk) (by decide) rfl) (nowd _ fun z s2 hz => .bindE eT (.need (fun q => ?_) (.bindE rfl (.need (le_line (by have := cl (some 2) none; simp only [List.length_cons, List.length_nil]; omega)) (.ret (deed_word hz.1)))))))
        have := q.1
        rw [sIx_nn (by decide), ll] at this
        have h1 : (2 : Int).toNat = 2 := rfl
        omega
      · have c3 := of_decide_eq_true c3
        have r2 : rest.length = 2 := by omega
        refine .bindE eT (.need (fun q => ?_) (nxt _ fun x2 s2 hx2 => .idx (Int.emod_nonneg _ (by decide)) (Int.emod_lt_of_pos _ (by decide)) fun z hz _ => .bindE rfl (.need (le_line (by have := cl none (some 3); simp only [List.length_cons, List.length_nil]; omega)) (.ret (h3 r2 z hz)))))
        have := q.2
        rw [sIx_nn (by decide), ll] at this
        have h1 : (3 : Int).toNat = 3 := rfl
        omega
      · have c0 : ¬ y = 0 := fun z => c0 (decide_eq_true z)
        have c1 : ¬ y = 1 := fun z => c1 (decide_eq_true z)
        have r1 : 1 ≤ rest.length := by omega
        refine .bindE eT (.bindE (idxR_ok (x := Any.str kk) (by decide) rfl) (.bindE (eqA_lit hk kinds.2.1) ?_))
        have nw : ¬ (HT.sIx (Any.str kk :: Any.str n :: rest).length 0 none = 0 ∧ HT.sIx (Any.str kk :: Any.str n :: rest).length (Any.str kk :: Any.str n :: rest).length (some 2) = (Any.str kk :: Any.str n :: rest).length) := fun q => by
          have := q.2
          rw [sIx_nn (by decide), ll] at this
          have h1 : (2 : Int).toNat = 2 := rfl
          omega
        refine .ite (fun z => ?_) fun z => ?_
        · obtain ⟨a, b, c, e, d, G, rfl⟩ := hp r1 (of_decide_eq_true z)
          have ek := of_decide_eq_true z
          subst ek
          refine .bindE eT (.need nw (.bindE eT (.bindE (idxR_ok (x := Any.tup [.str a, .str b, .str c, .int d, .str e]) (by decide) rfl) (noparts _ G fun p s2 hp => .bindE rfl (.need (le_line (by have := cl none (some 2); simp only [List.length_cons, List.length_nil]; omega)) (.ret (deed_put1 (word_true hn) hp)))))))
        · refine .bindE eT (.need nw (nowd _ fun p s2 hp => .bindE rfl (.need (le_line (by have := cl none (some 2); simp only [List.length_cons, List.length_nil]; omega)) (.bindE eT (.need (fun q => ?_) (.bindE rfl (.bindE rfl (.need (le_line (by have := cl none (some 2); have := cl (some 3) none; simp only [List.length_append, List.length_cons, List.length_nil]; omega)) (.ret (hq r1 (fun e => z (decide_eq_true e)) p hp))))))))))
          have := q.1
          rw [sIx_nn (by decide), ll] at this
          have h1 : (3 : Int).toNat = 3 := rfl
          omega
    cases hx with
    | put n hn G hb hc => exact core _ _ _ kinds.2.1 hn (by show 1 ≤ 2; decide) (fun q => by cases q) (fun _ _ => ⟨_, _, _, _, _, G, rfl⟩) (fun _ q => absurd rfl q)
    | place n w hn hw => exact core _ _ _ kinds.2.2.1 hn (by show 1 ≤ 2; decide) (fun q => by cases q) (fun _ q => absurd q lits4.2.2.1) (fun _ _ z hz => deed_place1 (word_true hn) hz.1)
    | mark n w b hn hw =>
      refine core _ _ _ kinds.2.2.2 hn (by show 2 ≤ 2; decide) (fun _ z hz => ?_) (fun _ q => absurd q lits4.2.2.2.2.1) (fun _ _ z hz => deed_mark1 (b := false) (word_true hn) hz.1)
      simp only [List.mem_cons, List.not_mem_nil, or_false] at hz
      rcases hz with rfl | rfl | rfl | rfl
      · exact deed_mark1 (b := true) (word_true hn) (word_true hw)
      · exact deed_mark1 (b := true) (word_true hn) (word_true hw)
      · exact deed_mark1 (b := true) (word_true hn) (word_true hw)
      · exact deed_mark1 (b := true) (word_true hn) (word_true hw)
    | drop n hn => exact core _ _ _ kinds.1 hn (by show 0 ≤ 2; decide) (fun q => by cases q) (fun q => by cases q) (fun q => by cases q)
  exact .bind h fun r hr => k r.1 r.2 hr
/-! stamped -/
theorem stamped_eval {a b c d : Any} {x y z w : Bool} (h1 : m_is_count a = .ok x) (h2 : m_is_hand b = .ok y) (h3 : m_is_count c = .ok z) (h4 : m_is_deed d = .ok w) : m_is_stamped (.tup [a, b, c, d]) = .ok (x && (y && (z && w))) := by
  unfold m_is_stamped
  show (m_is_count a).bind _ = _
  rw [h1, R.bind_ok]
  cases x with
  | false => rfl
  | true =>
    show (R.bind (R.bind (m_is_hand b) _) _) = _
    rw [h2, R.bind_ok]
    cases y with
    | false => rfl
    | true =>
      show (R.bind (R.bind (R.bind (m_is_count c) _) _) _) = _
      rw [h3, R.bind_ok]
      cases z with
      | false => rfl
      | true =>
        show (R.bind (R.bind (R.bind (R.bind (m_is_deed d) _) _) _) _) = _
        rw [h4]; rfl
theorem stamped_len {xs : List Any} (h : xs.length ≠ 4) : m_is_stamped (.tup xs) = .ok false := by
  unfold m_is_stamped
  have e1 : (Any.tup xs).is "tuple" = true := rfl
  have e2 : lenA (.tup xs) = .ok (xs.length : Int) := rfl
  have e3 : decide ((xs.length : Int) = 4) = false := decide_eq_false (by omega)
  rw [e1, e2]
  show (R.bind (R.ok (!decide ((xs.length : Int) = 4))) _) = _
  rw [e3]; rfl
theorem count_int {i : Int} : m_is_count (.int i) = .ok (decide (1 ≤ i)) := rfl

theorem cutS_mem' {x : Str} {a b : Option Int} {c : Nat} (h : c ∈ (cutS x a b).cps.toList) : c ∈ x.cps.toList := by
  rw [cutS_tl] at h; exact cutL_mem h
def small (c : Nat) : Bool := decide (c ∈ ("abcdefghijklmnopqrstuvwxyz" : Str).cps.toList)
def isHand (s : Str) : Bool := (decide (1 ≤ s.length) && decide (s.length ≤ 8)) && s.cps.toList.all small
theorem is_hand_str {s : Str} (hl : s.length ≤ 10000) : m_is_hand (.str s) = .ok (isHand s) := by
  unfold m_is_hand
  have e1 : (Any.str s).is "str" = true := rfl
  rw [e1]
  have e2 : lenA (.str s) = .ok (s.length : Int) := R.need_pos (le_line (by omega)) _
  show ((lenA (.str s)).bind _).bind _ = _
  rw [e2, R.bind_ok, R.bind_ok]
  by_cases c : 1 ≤ s.length ∧ s.length ≤ 8
  · have c1 : (decide ((1 : Int) ≤ (s.length : Int)) && decide ((s.length : Int) ≤ 8)) = true := by simp; omega
    rw [c1]
    rw [if_neg (by decide)]
    show (R.need _ _) = _
    rw [R.need_pos (by rw [← len_tl]; exact le_line (by omega)), compR_map (g := small) fun x _ => rfl]
    rw [R.bind_ok]
    congr 1
    unfold isHand
    have c2 : (decide (1 ≤ s.length) && decide (s.length ≤ 8)) = true := by simp; exact c
    rw [c2]
    simp [List.all_map]
  · have c1 : (decide ((1 : Int) ≤ (s.length : Int)) && decide ((s.length : Int) ≤ 8)) = false := by
      rw [Bool.and_eq_false_iff]; simp; omega
    rw [c1]
    have c2 : isHand s = false := by
      unfold isHand
      have : (decide (1 ≤ s.length) && decide (s.length ≤ 8)) = false := by rw [Bool.and_eq_false_iff]; simp; omega
      rw [this]; rfl
    rw [c2]; rfl
theorem hand_yes {s : Str} (h : HandT s) : m_is_hand (.str s) = .ok true := by
  have := h.2
  rw [is_hand_str (by omega)]
  congr 1
  unfold isHand
  rw [decide_eq_true h.2.1, decide_eq_true h.2.2]
  exact List.all_eq_true.mpr fun c hc => decide_eq_true (h.1 c hc)
theorem hand_len {s : Str} (hl : s.length ≤ 10000) (h : 8 < s.length) : m_is_hand (.str s) = .ok false := by
  rw [is_hand_str hl]
  congr 1
  unfold isHand
  rw [decide_eq_false (show ¬ s.length ≤ 8 by omega)]
  simp
theorem hand_sign {s : Str} {c : Nat} (hl : s.length ≤ 10000) (hc : c ∈ s.cps.toList) (h : small c = false) : m_is_hand (.str s) = .ok false := by
  rw [is_hand_str hl]
  congr 1
  unfold isHand
  have : s.cps.toList.all small = false := by
    rw [Bool.eq_false_iff]
    intro z
    rw [List.all_eq_true.mp z c hc] at h; cases h
  rw [this, Bool.and_false]
theorem hand_no {x : Any} (h : x.is "str" = false) : m_is_hand x = .ok false := by
  unfold m_is_hand
  rw [h]; rfl
theorem hand_empty : m_is_hand (.str ("" : Str)) = .ok false := by rw [is_hand_str (by decide)]; decide +kernel
theorem stamped_c {a b c d : Any} (h : m_is_count a = .ok false) : m_is_stamped (.tup [a, b, c, d]) = .ok false := by
  unfold m_is_stamped
  show (m_is_count a).bind _ = _
  rw [h]; rfl
theorem stamped_h {a b c d : Any} (h1 : m_is_count a = .ok true) (h : m_is_hand b = .ok false) : m_is_stamped (.tup [a, b, c, d]) = .ok false := by
  unfold m_is_stamped
  show (m_is_count a).bind _ = _
  rw [h1, R.bind_ok]
  show (R.bind (R.bind (m_is_hand b) _) _) = _
  rw [h]; rfl
theorem stamped_3 {a b c d : Any} (h1 : m_is_count a = .ok true) (h2 : m_is_hand b = .ok true) (h : m_is_count c = .ok false) : m_is_stamped (.tup [a, b, c, d]) = .ok false := by
  unfold m_is_stamped
  show (m_is_count a).bind _ = _
  rw [h1, R.bind_ok]
  show (R.bind (R.bind (m_is_hand b) _) _) = _
  rw [h2, R.bind_ok]
  show (R.bind (R.bind (R.bind (m_is_count c) _) _) _) = _
  rw [h]; rfl
theorem hands {ρ : Type} {P : ρ → Prop} {f : List Str × T3 Int Script Int → R ρ} (st : T3 Int Script Int) (k : ∀ xs st', xs.length = 1 → (∀ h, h ∈ xs → HandT h) → Ok (f (xs, st')) P) : Ok ((m_law_hands st 1).bind f) P := by
  have h : Ok (m_law_hands st 1) fun r => r.1.length = 1 ∧ ∀ h, h ∈ r.1 → HandT h := by
    unfold m_law_hands
    refine wd st (by decide +kernel) (by decide +kernel) (by decide) (by decide) fun b s1 h1 h2 h3 => nxt _ fun x1 s2 hx1 => ?_
    dsimp only
    refine .need (le_line (by omega)) (.need (by omega) (.lets (nxt _ fun x2 s3 hx2 => .lets (.need (by decide) ?_))))
    have y0 := Int.emod_nonneg x1 (show ((b.length : Int) + 1) ≠ 0 by omega)
    dsimp only
    generalize x1 % ((b.length : Int) + 1) = y at *
    have l26 : ("abcdefghijklmnopqrstuvwxyz" : Str).cps.toList.length = 26 := by decide +kernel
    have c1 : (cutS b none (some y)).length + (cutS b (some y) none).length ≤ b.length := cutS_len2 y0
    refine .forI (fun p (s : List Str) => s.length = p.length ∧ ∀ h, h ∈ s → HandT h) ⟨rfl, fun h m => absurd m (by simp)⟩ ?_ ?_
    · rintro p x q s ep ⟨hs, hh⟩
      have hp := pre_lt ep
      rw [rngL_len] at hp
      have hp1 : p.length < 1 := hp
      refine .need (le_line (by omega)) (.idx (Int.emod_nonneg _ (by decide)) (by rw [l26]; exact Int.emod_lt_of_pos _ (by decide)) fun c hc _ => .need (le_line (by rw [len_sg]; omega)) (.need (le_line (by omega)) (.need (le_line (by rw [len_app, len_sg]; omega)) (.need (lt_line (m := 10) (by omega) (by decide)) (.ret ⟨by simp [hs], fun h m => ?_⟩)))))
      rcases List.mem_append.mp m with m | m
      · exact hh h m
      · rw [List.mem_singleton.mp m]
        refine ⟨fun d hd => ?_, by rw [len_app, len_app, len_sg]; omega, by rw [len_app, len_app, len_sg]; omega⟩
        rw [tl_app, tl_app] at hd
        rcases List.mem_append.mp hd with hd | hd
        · rcases List.mem_append.mp hd with hd | hd
          · exact h1 d (cutS_mem' hd)
          · have : d = c := by simpa [Ml.sg] using hd
            rw [this]; exact hc
        · exact h1 d (cutS_mem' hd)
    · rintro s ⟨hs, hh⟩
      rw [rngL_len] at hs
      have hs : s.length = 1 := hs
      refine nxt _ fun x3 s4 hx3 => .bind (Q := fun xs => xs.length = 1 ∧ ∀ h, h ∈ xs → HandT h) (.ite (fun _ => .idx (by decide) (by omega) fun g hg _ => ?_) fun _ => .ret ⟨hs, hh⟩) fun xs hx => .ret hx
      have hG := hh g hg
      have lg := hG.2
      refine .need (le_line (by omega)) (.ix (by decide) (by omega) (.ret ⟨by rw [List.length_set]; exact hs, fun h m => ?_⟩))
      rcases List.mem_or_eq_of_mem_set m with m | m
      · exact hh h m
      · rw [m]
        have e : (cutS g none (some (y + 1))).length = min (y + 1).toNat g.length := by rw [len_tl, cutS_tl, cutL_to (by omega), List.length_take, ← len_tl]
        exact ⟨fun d hd => hG.1 d (cutS_mem' hd), by omega, by omega⟩
  exact .bind h fun r hr => k r.1 r.2 hr.1 hr.2

theorem sIx_neg1 (n : Nat) (hn : 1 ≤ n) : ¬ (HT.sIx n 0 none = 0 ∧ HT.sIx n n (some (-1)) = n) := fun q => by
  have h := q.2
  have e : HT.sIx n n (some (-1)) = ((-1 : Int) + (n : Int)).toNat := by
    show (if (-1 : Int) < 0 then ((-1 : Int) + (n : Int)).toNat else min (-1 : Int).toNat n) = _
    rw [if_pos (by decide)]
  rw [e] at h
  omega
theorem Good.facts {x : Any} (h : Good x) : ∃ xs, x = .tup xs ∧ 2 ≤ xs.length ∧ xs.length ≤ 4 ∧ m_is_deed (.tup (xs ++ [.str ("a" : Str)])) = .ok false ∧ m_is_deed (.tup (cutL xs none (some (-1)))) = .ok false ∧ m_is_stamped (.tup xs) = .ok false := by
  cases h with
  | put n hn G _ _ => exact ⟨_, rfl, by show 2 ≤ 3; decide, by show 3 ≤ 4; decide, deed_putN (word_true hn) (by show 2 ≠ 1; decide), deed_putN (rest := []) (word_true hn) (by decide), stamped_len (by show 3 ≠ 4; decide)⟩
  | place n w hn hw => exact ⟨_, rfl, by show 2 ≤ 3; decide, by show 3 ≤ 4; decide, deed_placeN (word_true hn) (by show 2 ≠ 1; decide), deed_placeN (rest := []) (word_true hn) (by decide), stamped_len (by show 3 ≠ 4; decide)⟩
  | mark n w z hn hw => exact ⟨_, rfl, by show 2 ≤ 4; decide, by show 4 ≤ 4; decide, deed_markN (word_true hn) (by show 3 ≠ 2; decide), deed_markN (rest := [.str w]) (word_true hn) (by show 1 ≠ 2; decide), stamped_c rfl⟩
  | drop n hn =>
    refine ⟨_, rfl, by show 2 ≤ 2; decide, by show 2 ≤ 4; decide, ?_, ?_, stamped_len (by show 2 ≠ 4; decide)⟩
    · exact deed_drop (rest := [.str ("a" : Str)]) (word_true hn)
    · show m_is_deed (.tup [.str ("drop" : Str)]) = _
      rfl
theorem nostamped {ρ : Type} {P : ρ → Prop} {f : Any × T3 Int Script Int → R ρ} (st : T3 Int Script Int) {a c : Int} {b : Str} {d : Any} (ha : m_is_count (.int a) = .ok true) (hb : HandT b) (k : ∀ x st', m_is_stamped x = .ok false → Ok (f (x, st')) P) :
    Ok ((m_law_no_stamped st ⟨a, b, c, d⟩).bind f) P := by
  have h : Ok (m_law_no_stamped st ⟨a, b, c, d⟩) fun r => m_is_stamped r.1 = .ok false := by
    unfold m_law_no_stamped
    have lb := hb.2
    have e1 : ("1" : Str).length = 1 := by decide
    have eA : ("A" : Str).length = 1 := by decide
    have ct : (cutS b (some 1) none).length ≤ b.length := cutS_len
    have ba := hb.wsg.asc
    refine nxt _ fun x1 s1 hx1 => .lets ?_
    have y0 := Int.emod_nonneg x1 (show (3 : Int) ≠ 0 by decide)
    have y1 := Int.emod_lt_of_pos x1 (show (0 : Int) < 3 by decide)
    dsimp only
    generalize x1 % 3 = y at *
    refine .ite (fun c1 => ?_) fun c1 => ?_
    · refine .need (le_line (by omega)) (.need (le_line (by omega)) (.need (le_line (by omega)) (.need ⟨le_line (show b.length * 9 ≤ _ by omega), by decide, by decide⟩ (nxt _ fun x2 s2 hx2 => .idx (Int.emod_nonneg _ (by decide)) (Int.emod_lt_of_pos _ (by decide)) fun z hz _ => .ret (stamped_h ha ?_)))))
      simp only [List.mem_cons, List.not_mem_nil, or_false] at hz
      rcases hz with rfl | rfl | rfl | rfl | rfl | rfl | rfl
      · exact hand_empty
      · exact hand_sign (c := 49) (by rw [len_app]; omega) (by rw [tl_app]; exact List.mem_append_right _ (by decide +kernel)) (by decide +kernel)
      · exact hand_sign (c := 65) (by rw [len_app]; omega) (by rw [tl_app]; exact List.mem_append_left _ (by decide +kernel)) (by decide +kernel)
      · have hl : (repS b (9 : Int).toNat).length = b.length * 9 := rep_len b 9
        exact hand_len (by omega) (by omega)
      · exact hand_no rfl
      · exact hand_no rfl
      · exact hand_no rfl
    · have c1 : ¬ y = 1 := fun z => c1 (decide_eq_true z)
      have hy : y = 0 ∨ y = 2 := by omega
      have cl : ∀ (u v : Option Int), (cutL ([(Any.int a), (Any.str b), (Any.int c), d] : List Any) u v).length ≤ 4 := fun u v => cutL_len
      refine nxt _ fun x2 s2 hx2 => nxt _ fun x3 s3 hx3 => .idx (Int.emod_nonneg _ (by decide)) (Int.emod_lt_of_pos _ (by decide)) fun z hz _ => .need (fun q => ?_) (.bindE rfl (.need (le_line (by have := cl none (some y); simp only [List.length_cons, List.length_nil]; omega)) (.need (fun q => ?_) (.bindE rfl (.bindE rfl (.need (le_line (by have := cl none (some y); have := cl (some (y + 1)) none; simp only [List.length_append, List.length_cons, List.length_nil]; omega)) (.ret ?_)))))))
      · have z2 := q.2
        rw [sIx_nn y0] at z2
        simp only [List.length_cons, List.length_nil] at z2
        omega
      · have z1 := q.1
        rw [sIx_nn (by omega)] at z1
        simp only [List.length_cons, List.length_nil] at z1
        omega
      · have hc : m_is_count z = .ok false := by
          simp only [List.mem_cons, List.not_mem_nil, or_false] at hz
          rcases hz with rfl | rfl | rfl | rfl | rfl
          · rfl
          · rw [count_int, decide_eq_false (show ¬ 1 ≤ -1 - x2 by omega)]
          · rfl
          · rfl
          · rfl
        rcases hy with rfl | rfl
        · exact stamped_c hc
        · exact stamped_3 ha (hand_yes hb) hc
  exact .bind h fun r hr => k r.1 r.2 hr
theorem up_small {x : Str} (h : HandT x) : m_is_hand (.str (Txt.upper x)) = .ok false := by
  have ha := h.wsg.asc
  have hl := h.2
  have hu := upper_tl ha
  cases e : x.cps.toList with
  | nil =>
    have : x.length = 0 := by rw [len_tl, e]; rfl
    omega
  | cons c r =>
    have hc := h.1 c (by rw [e]; simp)
    have hs : small (PyProof.Rows.up1 c) = false := by
      have : (("abcdefghijklmnopqrstuvwxyz" : Str).cps.toList.all fun c => !small (PyProof.Rows.up1 c)) = true := by decide +kernel
      simpa using List.all_eq_true.mp this c hc
    exact hand_sign (c := PyProof.Rows.up1 c) (by rw [len_upper ha]; omega) (by rw [hu, e]; simp) hs
theorem law_ok (s : Script) (_ : s.ns.length ≤ 63) : m_law s = .ok true := by
  unfold m_law
  refine Ok.eq ?_
  refine .bindE (a := ⟨(s.ns.length : Int) + 7, s, 0⟩) rfl (hands _ fun hs s1 hl hh => .idx (by decide) (by dsimp only; omega) fun h hm _ => awd _ fun w s2 hw => .lets (nxt _ fun x1 s3 hx1 => ?_))
  have hH := hh h hm
  have lh := hH.2
  have p0 := Int.emod_nonneg x1 (show (200 : Int) ≠ 0 by decide)
  have p1 := Int.emod_lt_of_pos x1 (show (0 : Int) < 200 by decide)
  dsimp only
  refine deeds _ (fun n hn => by rw [List.mem_singleton.mp hn]; exact hw) (by show 1 ≤ 100; decide) hH p0 (by omega) fun x s4 hx => nxt _ fun x2 s5 hx2 => nxt _ fun x3 s6 hx3 => .idx (Int.emod_nonneg _ (by decide)) (Int.emod_lt_of_pos _ (by decide)) fun m hm2 _ => ?_
  have hmm : 0 < m := by
    simp only [List.mem_cons, List.not_mem_nil, or_false] at hm2
    rcases hm2 with rfl | rfl
    · decide
    · decide
  refine .need hmm (.lets (nxt _ fun x4 s7 hx4 => ?_))
  dsimp only
  have q0 := Int.emod_nonneg x2 (show m ≠ 0 by omega)
  have r0 := Int.emod_nonneg x4 (show (2000 : Int) ≠ 0 by decide)
  have hc1 : m_is_count (.int (1 + x2 % m)) = .ok true := by rw [count_int, decide_eq_true (by omega)]
  have hc2 : m_is_count (.int (1 + x4 % 2000)) = .ok true := by rw [count_int, decide_eq_true (by omega)]
  generalize 1 + x2 % m = ck at *
  generalize 1 + x4 % 2000 = nm at *
  have hhd := hand_yes hH
  have hd := hx.deed
  have hst : m_is_stamped (.tup [.int ck, .str h, .int nm, x]) = .ok true := stamped_eval hc1 hhd hc2 hd
  obtain ⟨xs, rfl, k2, k4, g1, g2, g3⟩ := hx.facts
  refine .bindE hd (.bind (Q := fun z => z = false) (.ifF (by decide) (.bindE hst (.bind (Q := fun z => z = false) (.ifF (by decide) (.bindE hhd (.ret rfl))) fun z hz => .ret hz))) fun z hz => ?_)
  subst hz
  refine .ifF (by decide) (.bindE (a := false) rfl (.bind (Q := fun z => z = false) (.ifF (by decide) (.bindE (stamped_len (by decide)) (.bind (Q := fun z => z = false) (.ifF (by decide) (.bindE (hand_no rfl) (.ret rfl))) fun z hz => .ret hz))) fun z hz => ?_))
  subst hz
  have la : (Lay.lay ((ck, h) : Int × Str) : Bool) = true := by
    show (Lay.lay ck && Lay.lay h) = true
    rw [hH.wsg.asc.lay]; rfl
  refine .ifF (by decide) (.bindE (a := (ck, h)) rfl (.need la (.need la (.bind (Q := fun z => z = false) (.ifF (by simp) (.bindE (a := xs) rfl (.bindE (a := false) rfl (.bind (Q := fun z => z = false) (.ifF (by decide) (.bindE (a := xs) rfl (.need (le_line (by simp only [List.length_cons, List.length_nil]; omega)) (.bindE g1 (.ret rfl))))) fun z hz => .ret hz)))) fun z hz => ?_))))
  subst hz
  refine .ifF (by decide) (.bindE (a := xs) rfl (.need (sIx_neg1 _ (by omega)) (.bindE g2 (.bind (Q := fun z => z = false) (.ifF (by decide) (.bindE (a := false) rfl (.bind (Q := fun z => z = false) (.ifF (by decide) (.bindE g3 (.ret rfl))) fun z hz => .ret hz))) fun z hz => ?_))))
  subst hz
  refine .ifF (by decide) (nodeeds _ hx fun o s8 ho => .bindE ho (.bind (Q := fun z => z = false) (.ifF (by decide) (.bindE (stamped_eval hc1 hhd hc2 ho) (.ret rfl))) fun z hz => ?_))
  subst hz
  refine .ifF (by decide) (nostamped _ hc1 hH fun o s9 ho => .bindE ho (.bind (Q := fun z => z = false) (.ifF (by decide) (.bindE (stamped_len (by show 5 ≠ 4; decide)) (.bind (Q := fun z => z = false) (.ifF (by decide) (.bindE (stamped_len (by show 3 ≠ 4; decide)) (.ret rfl))) fun z hz => .ret hz))) fun z hz => ?_))
  subst hz
  have e1 : ("1" : Str).length = 1 := by decide
  refine .ifF (by decide) (.need ⟨le_line (show h.length * 9 ≤ _ by omega), by decide, by decide⟩ (.need (le_line (by omega)) (.need (by omega) (nxt _ fun x5 s10 hx5 => .idx (Int.emod_nonneg _ (by decide)) (Int.emod_lt_of_pos _ (by decide)) fun z hz _ => ?_))))
  have hf : m_is_hand z = .ok false := by
    simp only [List.mem_cons, List.not_mem_nil, or_false] at hz
    rcases hz with rfl | rfl | rfl | rfl | rfl | rfl | rfl
    · exact hand_empty
    · have hl : (repS h (9 : Int).toNat).length = h.length * 9 := rep_len h 9
      exact hand_len (by omega) (by omega)
    · exact hand_sign (c := 49) (by rw [len_app]; omega) (by rw [tl_app]; exact List.mem_append_right _ (by decide +kernel)) (by decide +kernel)
    · exact up_small hH
    · exact hand_no rfl
    · exact hand_no rfl
    · exact hand_sign (c := 32) (by decide) (by decide +kernel) (by decide +kernel)
  exact .bindE hf (.ret rfl)

end Lw

namespace Lw
open PySem PySem.Spec PyProof.Rows L2 Ml
instance imLetterI {G : Gx} : Im G Letter := ⟨fun H v x => ∃ a dx, v = .ref a ∧ G.fz (G.cl 2) = some 5 ∧ H a = some (.ins (G.cl 2) dx [("sender", (.str (x.sender))), ("title", (.str (x.title))), ("body", (.str (x.body))), ("day", (.int (x.day))), ("answers", (.str (x.answers)))]),
  fun ⟨a, dx, e, z, h⟩ s => ⟨a, dx, e, z, s.1 a _ h (by show decide (G.fz (G.cl 2) = some 5) = true; rw [z]; rfl)⟩⟩
instance {G : Gx} : IsRef G Letter := ⟨fun h => by obtain ⟨a, _, e, _⟩ := h; exact ⟨a, e⟩⟩
theorem im_Letter {G : Gx} {H : Hp} {a : Addr} {x : Letter} (h : Im.im G H (.ref a) x) : ∃ dx, H a = some (.ins (G.cl 2) dx [("sender", (.str (x.sender))), ("title", (.str (x.title))), ("body", (.str (x.body))), ("day", (.int (x.day))), ("answers", (.str (x.answers)))]) := by
  obtain ⟨b, dx, e, _, h⟩ := h; cases e; exact ⟨dx, h⟩
theorem mk_Letter {G : Gx} {H : Hp} {a dx : Addr} {f_sender : Str} {f_title : Str} {f_body : Str} {f_day : Int} {f_answers : Str} (z : G.fz (G.cl 2) = some 5) (h : H a = some (.ins (G.cl 2) dx [("sender", (.str (f_sender))), ("title", (.str (f_title))), ("body", (.str (f_body))), ("day", (.int (f_day))), ("answers", (.str (f_answers)))])) : Im.im G H (.ref a) (⟨f_sender, f_title, f_body, f_day, f_answers⟩ : Letter) := ⟨a, dx, rfl, z, h⟩
def top (i : Nat) : Stmt := PySem.Challenge.pw_mailroom_k41_deeds_told.main.body.getD i (.Pass ⟨0, 0, 0, 0⟩)
abbrev s_is_sign : Stmt := top 8
abbrev s_is_word : Stmt := top 9
abbrev s_is_text : Stmt := top 14
abbrev s_is_day : Stmt := top 15
abbrev s_Letter___init__ : Stmt := inClass (top 16) 0
abbrev s_Letter_parts : Stmt := inClass (top 16) 1
abbrev s_letter_of : Stmt := top 17
abbrev s_is_count : Stmt := top 20
abbrev s_is_hand : Stmt := top 21
abbrev s_is_parts : Stmt := top 22
abbrev s_is_deed : Stmt := top 23
abbrev s_is_stamped : Stmt := top 24
abbrev s_stamp_of : Stmt := top 25
abbrev s_law_begin : Stmt := top 27
abbrev s_law_next : Stmt := top 28
abbrev s_law_word : Stmt := top 29
abbrev s_law_any_word : Stmt := top 30
abbrev s_law_hands : Stmt := top 31
abbrev s_law_parts : Stmt := top 32
abbrev s_law_deed : Stmt := top 33
abbrev s_law_no_word : Stmt := top 34
abbrev s_law_no_parts : Stmt := top 35
abbrev s_law_no_deed : Stmt := top 36
abbrev s_law_no_stamped : Stmt := top 37
abbrev s_law : Stmt := top 38
structure Txt (G : Gx) (mg : Str → Option Value) where
  a_is_sign : Addr
  fd_is_sign : FuncData
  F_is_sign : Fun G.K "is_sign" "is_sign" s_is_sign a_is_sign fd_is_sign
  b_is_sign : Binds G.K fd_is_sign ["sign"] []
  kp_is_sign : PySem.W.keepIn G.K (.ref a_is_sign) = true
  g_is_sign : mg "is_sign" = some (.ref a_is_sign)
  a_is_word : Addr
  fd_is_word : FuncData
  F_is_word : Fun G.K "is_word" "is_word" s_is_word a_is_word fd_is_word
  b_is_word : Binds G.K fd_is_word ["thing"] []
  kp_is_word : PySem.W.keepIn G.K (.ref a_is_word) = true
  g_is_word : mg "is_word" = some (.ref a_is_word)
  a_is_text : Addr
  fd_is_text : FuncData
  F_is_text : Fun G.K "is_text" "is_text" s_is_text a_is_text fd_is_text
  b_is_text : Binds G.K fd_is_text ["thing", "most"] []
  kp_is_text : PySem.W.keepIn G.K (.ref a_is_text) = true
  g_is_text : mg "is_text" = some (.ref a_is_text)
  a_is_day : Addr
  fd_is_day : FuncData
  F_is_day : Fun G.K "is_day" "is_day" s_is_day a_is_day fd_is_day
  b_is_day : Binds G.K fd_is_day ["thing"] []
  kp_is_day : PySem.W.keepIn G.K (.ref a_is_day) = true
  g_is_day : mg "is_day" = some (.ref a_is_day)
  a_Letter___init__ : Addr
  fd_Letter___init__ : FuncData
  F_Letter___init__ : FunD G.K "__init__" "Letter.__init__" (defArgs s_Letter___init__) (defBody s_Letter___init__) (defScope s_Letter___init__) [.str ("" : Str)] [] a_Letter___init__ fd_Letter___init__
  b_Letter___init__ : Binds G.K fd_Letter___init__ ["self", "sender", "title", "body", "day", "answers"] []
  kp_Letter___init__ : PySem.W.keepIn G.K (.ref a_Letter___init__) = true
  k_Letter : Mk G.K (G.cl 2) a_Letter___init__
  a_Letter_parts : Addr
  fd_Letter_parts : FuncData
  F_Letter_parts : Fun G.K "parts" "Letter.parts" s_Letter_parts a_Letter_parts fd_Letter_parts
  b_Letter_parts : Binds G.K fd_Letter_parts ["self"] []
  kp_Letter_parts : PySem.W.keepIn G.K (.ref a_Letter_parts) = true
  m_Letter_parts : Meth G.K (G.cl 2) "parts" a_Letter_parts
  a_letter_of : Addr
  fd_letter_of : FuncData
  F_letter_of : Fun G.K "letter_of" "letter_of" s_letter_of a_letter_of fd_letter_of
  b_letter_of : Binds G.K fd_letter_of ["thing"] []
  kp_letter_of : PySem.W.keepIn G.K (.ref a_letter_of) = true
  g_letter_of : mg "letter_of" = some (.ref a_letter_of)
  a_is_count : Addr
  fd_is_count : FuncData
  F_is_count : Fun G.K "is_count" "is_count" s_is_count a_is_count fd_is_count
  b_is_count : Binds G.K fd_is_count ["thing"] []
  kp_is_count : PySem.W.keepIn G.K (.ref a_is_count) = true
  g_is_count : mg "is_count" = some (.ref a_is_count)
  a_is_hand : Addr
  fd_is_hand : FuncData
  F_is_hand : Fun G.K "is_hand" "is_hand" s_is_hand a_is_hand fd_is_hand
  b_is_hand : Binds G.K fd_is_hand ["thing"] []
  kp_is_hand : PySem.W.keepIn G.K (.ref a_is_hand) = true
  g_is_hand : mg "is_hand" = some (.ref a_is_hand)
  a_is_parts : Addr
  fd_is_parts : FuncData
  F_is_parts : Fun G.K "is_parts" "is_parts" s_is_parts a_is_parts fd_is_parts
  b_is_parts : Binds G.K fd_is_parts ["thing"] []
  kp_is_parts : PySem.W.keepIn G.K (.ref a_is_parts) = true
  g_is_parts : mg "is_parts" = some (.ref a_is_parts)
  a_is_deed : Addr
  fd_is_deed : FuncData
  F_is_deed : Fun G.K "is_deed" "is_deed" s_is_deed a_is_deed fd_is_deed
  b_is_deed : Binds G.K fd_is_deed ["thing"] []
  kp_is_deed : PySem.W.keepIn G.K (.ref a_is_deed) = true
  g_is_deed : mg "is_deed" = some (.ref a_is_deed)
  a_is_stamped : Addr
  fd_is_stamped : FuncData
  F_is_stamped : Fun G.K "is_stamped" "is_stamped" s_is_stamped a_is_stamped fd_is_stamped
  b_is_stamped : Binds G.K fd_is_stamped ["thing"] []
  kp_is_stamped : PySem.W.keepIn G.K (.ref a_is_stamped) = true
  g_is_stamped : mg "is_stamped" = some (.ref a_is_stamped)
  a_stamp_of : Addr
  fd_stamp_of : FuncData
  F_stamp_of : Fun G.K "stamp_of" "stamp_of" s_stamp_of a_stamp_of fd_stamp_of
  b_stamp_of : Binds G.K fd_stamp_of ["stamped"] []
  kp_stamp_of : PySem.W.keepIn G.K (.ref a_stamp_of) = true
  g_stamp_of : mg "stamp_of" = some (.ref a_stamp_of)
  a_law_begin : Addr
  fd_law_begin : FuncData
  F_law_begin : Fun G.K "_law_begin" "_law_begin" s_law_begin a_law_begin fd_law_begin
  b_law_begin : Binds G.K fd_law_begin ["_law_script"] []
  kp_law_begin : PySem.W.keepIn G.K (.ref a_law_begin) = true
  g_law_begin : mg "_law_begin" = some (.ref a_law_begin)
  a_law_next : Addr
  fd_law_next : FuncData
  F_law_next : Fun G.K "_law_next" "_law_next" s_law_next a_law_next fd_law_next
  b_law_next : Binds G.K fd_law_next ["_law_state"] []
  kp_law_next : PySem.W.keepIn G.K (.ref a_law_next) = true
  g_law_next : mg "_law_next" = some (.ref a_law_next)
  a_law_word : Addr
  fd_law_word : FuncData
  F_law_word : Fun G.K "_law_word" "_law_word" s_law_word a_law_word fd_law_word
  b_law_word : Binds G.K fd_law_word ["_law_state", "_law_signs", "_law_most"] []
  kp_law_word : PySem.W.keepIn G.K (.ref a_law_word) = true
  g_law_word : mg "_law_word" = some (.ref a_law_word)
  a_law_any_word : Addr
  fd_law_any_word : FuncData
  F_law_any_word : Fun G.K "_law_any_word" "_law_any_word" s_law_any_word a_law_any_word fd_law_any_word
  b_law_any_word : Binds G.K fd_law_any_word ["_law_state"] []
  kp_law_any_word : PySem.W.keepIn G.K (.ref a_law_any_word) = true
  g_law_any_word : mg "_law_any_word" = some (.ref a_law_any_word)
  a_law_hands : Addr
  fd_law_hands : FuncData
  F_law_hands : Fun G.K "_law_hands" "_law_hands" s_law_hands a_law_hands fd_law_hands
  b_law_hands : Binds G.K fd_law_hands ["_law_state", "_law_many"] []
  kp_law_hands : PySem.W.keepIn G.K (.ref a_law_hands) = true
  g_law_hands : mg "_law_hands" = some (.ref a_law_hands)
  a_law_parts : Addr
  fd_law_parts : FuncData
  F_law_parts : Fun G.K "_law_parts" "_law_parts" s_law_parts a_law_parts fd_law_parts
  b_law_parts : Binds G.K fd_law_parts ["_law_state"] []
  kp_law_parts : PySem.W.keepIn G.K (.ref a_law_parts) = true
  g_law_parts : mg "_law_parts" = some (.ref a_law_parts)
  a_law_deed : Addr
  fd_law_deed : FuncData
  F_law_deed : Fun G.K "_law_deed" "_law_deed" s_law_deed a_law_deed fd_law_deed
  b_law_deed : Binds G.K fd_law_deed ["_law_state", "_law_names", "_law_hand", "_law_puts"] []
  kp_law_deed : PySem.W.keepIn G.K (.ref a_law_deed) = true
  g_law_deed : mg "_law_deed" = some (.ref a_law_deed)
  a_law_no_word : Addr
  fd_law_no_word : FuncData
  F_law_no_word : Fun G.K "_law_no_word" "_law_no_word" s_law_no_word a_law_no_word fd_law_no_word
  b_law_no_word : Binds G.K fd_law_no_word ["_law_state"] []
  kp_law_no_word : PySem.W.keepIn G.K (.ref a_law_no_word) = true
  g_law_no_word : mg "_law_no_word" = some (.ref a_law_no_word)
  a_law_no_parts : Addr
  fd_law_no_parts : FuncData
  F_law_no_parts : Fun G.K "_law_no_parts" "_law_no_parts" s_law_no_parts a_law_no_parts fd_law_no_parts
  b_law_no_parts : Binds G.K fd_law_no_parts ["_law_state", "_law_parts_here"] []
  kp_law_no_parts : PySem.W.keepIn G.K (.ref a_law_no_parts) = true
  g_law_no_parts : mg "_law_no_parts" = some (.ref a_law_no_parts)
  a_law_no_deed : Addr
  fd_law_no_deed : FuncData
  F_law_no_deed : Fun G.K "_law_no_deed" "_law_no_deed" s_law_no_deed a_law_no_deed fd_law_no_deed
  b_law_no_deed : Binds G.K fd_law_no_deed ["_law_state", "_law_deed_here"] []
  kp_law_no_deed : PySem.W.keepIn G.K (.ref a_law_no_deed) = true
  g_law_no_deed : mg "_law_no_deed" = some (.ref a_law_no_deed)
  a_law_no_stamped : Addr
  fd_law_no_stamped : FuncData
  F_law_no_stamped : Fun G.K "_law_no_stamped" "_law_no_stamped" s_law_no_stamped a_law_no_stamped fd_law_no_stamped
  b_law_no_stamped : Binds G.K fd_law_no_stamped ["_law_state", "_law_stamped"] []
  kp_law_no_stamped : PySem.W.keepIn G.K (.ref a_law_no_stamped) = true
  g_law_no_stamped : mg "_law_no_stamped" = some (.ref a_law_no_stamped)
  a_law : Addr
  fd_law : FuncData
  F_law : Fun G.K "law" "law" s_law a_law fd_law
  b_law : Binds G.K fd_law ["_law_script"] []
  kp_law : PySem.W.keepIn G.K (.ref a_law) = true
  g_law : mg "law" = some (.ref a_law)
  g_MailError : mg "MailError" = some (.ref (G.cl 0))
  g_NoLetter : mg "NoLetter" = some (.ref (G.cl 1))
  x_NoLetter : PySem.W.excIn G.K (G.cl 1) [.type "ValueError", .type "Exception", .type "BaseException", .type "object"] "ValueError.__new__" = true
  kp_NoLetter : PySem.W.keepIn G.K (.ref (G.cl 1)) = true
  r_NoLetter : ∀ {X : Cx}, X.K = G.K → Raises X (.ref (G.cl 1))
  ex_NoLetter : ∀ {i : Nat}, ([0, 1] : List Nat).contains i = true → PySem.W.exmOne G.K (.ref (G.cl i)) (.ref (G.cl 1)) = some (([1] : List Nat).contains i)
  g_Letter : mg "Letter" = some (.ref (G.cl 2))
  cl_Letter : Cls G.K (G.cl 2)
  n_Letter_sender : NoAttr G.K (G.cl 2) "sender"
  n_Letter_title : NoAttr G.K (G.cl 2) "title"
  n_Letter_body : NoAttr G.K (G.cl 2) "body"
  n_Letter_day : NoAttr G.K (G.cl 2) "day"
  n_Letter_answers : NoAttr G.K (G.cl 2) "answers"
  fz_Letter : G.fz (G.cl 2) = some 5
  z_all : mg "all" = none
  z_bool : mg "bool" = none
  z_int : mg "int" = none
  z_isinstance : mg "isinstance" = none
  z_len : mg "len" = none
  z_list : mg "list" = none
  z_range : mg "range" = none
  z_str : mg "str" = none
  z_tuple : mg "tuple" = none
  t_FIGURES : Tok
  c_FIGURES : mg "FIGURES" = some (.str ("0123456789" : Str) t_FIGURES)
  t_MOST_BODY : Tok
  c_MOST_BODY : mg "MOST_BODY" = some (.int 400 t_MOST_BODY)
  t_MOST_DAY : Tok
  c_MOST_DAY : mg "MOST_DAY" = some (.int 9999 t_MOST_DAY)
  t_MOST_HAND : Tok
  c_MOST_HAND : mg "MOST_HAND" = some (.int 8 t_MOST_HAND)
  t_MOST_SIGNS : Tok
  c_MOST_SIGNS : mg "MOST_SIGNS" = some (.int 20 t_MOST_SIGNS)
  t_MOST_TITLE : Tok
  c_MOST_TITLE : mg "MOST_TITLE" = some (.int 60 t_MOST_TITLE)
  t_SMALL : Tok
  c_SMALL : mg "SMALL" = some (.str ("abcdefghijklmnopqrstuvwxyz" : Str) t_SMALL)
section
variable {P : Program} {w : World} {G : Gx} {mg : Str → Option Value} {base : Heap}
def sp_is_sign (G : Gx) : Sp := fun vs H Q E => ∃ (v_sign : Nat) (F : Asn G), vs = [(.str (sg (v_sign)))] ∧ Sep H ([F] : List (Asn G)) ∧ R.wp (m_is_sign v_sign) (fun r => ∀ H', Sep H' ([F] : List (Asn G)) → Q (.bl (r)) H') (fun _ => False)
abbrev N_is_sign : List Str := ["sign"]
theorem sc_is_sign : FnScope N_is_sign ["sign"] (defScope s_is_sign) := ⟨rfl, rfl, rfl, by decide +kernel, rfl, by decide +kernel, by decide +kernel⟩
theorem ok_is_sign (T : Txt G mg) : FnOk P w G.K mg base CX0 1 T.a_is_sign T.fd_is_sign ["sign"] (sp_is_sign G) := by
  have nd := sc_is_sign.nd
  refine Fun.ok T.F_is_sign sc_is_sign (fun vs H Q E h => ?_) (fun cdv A outer s H vs Q E hr h => ?_)
  · obtain ⟨v_sign, F, rfl, _⟩ := h; rfl
  · obtain ⟨v_sign, F, rfl, hS, hm⟩ := h
    refine ⟨_, (pss_one (ps_ret (pe_or (pe_cmpR op_inSg (pv 0) (pe_glob (v := .str ("abcdefghijklmnopqrstuvwxyz" : Str)) rfl T.c_SMALL ⟨_, rfl⟩) (by rfl)) (pe_one (pe_cmpR op_inSg (pv 0) (pe_glob (v := .str ("0123456789" : Str)) rfl T.c_FIGURES ⟨_, rfl⟩) (by rfl)))))), ?_⟩
    unfold m_is_sign at hm
    refine c_ret ?_
    refine ev_to (ev_orV (ev_inSg (c := v_sign) (ev_var rfl) ev_c) fun _ => (ev_inSg (c := v_sign) (ev_var rfl) ev_c)) ?_
    exact hm _ (hS.sel [0] (by decide) rfl)
def sp_is_word (G : Gx) : Sp := fun vs H Q E => ∃ (a_v_thing : V) (v_thing : Any) (F : Asn G), vs = [a_v_thing] ∧ Im.im G H a_v_thing v_thing ∧ Sep H ([F] : List (Asn G)) ∧ R.wp (m_is_word v_thing) (fun r => ∀ H', Sep H' ([F] : List (Asn G)) → Q (.bl (r)) H') (fun _ => False)
abbrev N_is_word : List Str := ["thing", "sign"]
theorem sc_is_word : FnScope N_is_word ["thing"] (defScope s_is_word) := ⟨rfl, rfl, rfl, by decide +kernel, rfl, by decide +kernel, by decide +kernel⟩
theorem ok_is_word (T : Txt G mg) : FnOk P w G.K mg base CX0 2 T.a_is_word T.fd_is_word ["thing"] (sp_is_word G) := by
  have nd := sc_is_word.nd
  refine Fun.ok T.F_is_word sc_is_word (fun vs H Q E h => ?_) (fun cdv A outer s H vs Q E hr h => ?_)
  · obtain ⟨a_v_thing, v_thing, F, rfl, _⟩ := h; rfl
  · obtain ⟨a_v_thing, v_thing, F, rfl, him_v_thing, hS, hm⟩ := h
    have hS := hS.addIm him_v_thing
    refine ⟨_, (pss_cons (ps_if (PW.pt (pw_or (pt_not (pt_val (pe_callB (isiK G.K) (by rfl) T.z_isinstance (by decide +kernel) (pa_cons (pv 0) (pa_cons (pe_bltn (v := .ty "str") (by rfl) T.z_str (by decide +kernel) rfl) pa_nil))))) (pw_or1 (pt_not (pt_chain op_le op_le pe_int (pe_callB (lenAnyK G.K) (by rfl) T.z_len PySem.boot_len (pa_cons (pv 0) pa_nil)) (pe_glob (v := .int 20) rfl T.c_MOST_SIGNS ⟨_, rfl⟩)))))) (pss_one (ps_ret pe_bl)) pss_nil)
      (pss_one (ps_ret (pe_callB (allK G.K rfl) (by rfl) T.z_all (by decide +kernel) (pa_cons (pe_fz (pe_lc (own := [("sign", 1)]) (g := gName 1) rfl nd (pi_str (pv 0)) (blkOk_by (own := [("sign", 1)]) (N := N_is_word) (sc := defScope s_is_word) (by decide +kernel)) (fun _ _ _ _ _ => pg_name (i := 1) nd rfl (Or.inl rfl)) (fun _ _ _ _ _ => pts_nil) (fun _ _ _ _ _ => (pe_call (ok_is_sign T) (hr.mono (by decide)) rfl T.g_is_sign T.kp_is_sign T.b_is_sign .nil pass0 (pa_cons (pv 1) pa_nil))))) pa_nil))))), ?_⟩
    unfold m_is_word at hm
    refine f_seq ?_
    refine f_if ?_
    refine f_or ?_
    refine et_to (et_not (et_B (ev_isAny (ev_var rfl) ev_c (hS.im (i := 0) rfl) (by decide)))) ?_
    refine orK_J hm hS (fun hb q hm nx => ?_) (fun b1 H hm hS => ?_)
    ·
      obtain ⟨n2, hn2, hm⟩ := wp_lenA hm
      refine et_to (et_not (et_test (ev_chainB (a := decide (1 ≤ n2)) (b := decide (n2 ≤ 20)) ev_c (ev_lenA (ev_var rfl) (hS.im (i := 0) rfl) hn2) (fun _ => ev_c) (fun Q q => r_I0 Q q) (fun _ Q q => r_I0 Q q)))) ?_
      exact nx _ _ hm (hS.sel [0, 1] (by decide) rfl)
    ·
      obtain ⟨hy, hn⟩ := R.wp_if hm
      refine ifK_2 (fun hb3 => ?_) (fun hb3 => ?_)
      · have hm := hy hb3
        refine c_ret ?_
        refine ev_to ev_c ?_
        exact hm _ (hS.sel [1] (by decide) rfl)
      · have hm := hn (by rw [hb3]; decide)
        refine st_nx ?_
        refine sq_nx ?_
        refine c_ret ?_
        refine c_cb ?_
        refine c_cons ?_
        refine c_fz ?_
        refine c_lc ?_
        refine c_is ?_
        obtain ⟨s4, hs5, hm⟩ := Ml.wp_asStr hm
        have hv6 := v_str (hS.im (i := 0) rfl) hs5
        subst hv6
        refine ev_to (ev_var rfl) ?_
        refine k_is ?_
        obtain ⟨h7, hm⟩ := R.wp_need hm
        refine lc_sep (β := Bool) (fun (_ : Unit) => ([imA (.str (s4)) (v_thing : Any), F] : List (Asn G))) (s := ()) (im := (fun _ v (c : Nat) => v = .str (sg c))) hS (fun _ _ _ => wk_str) h7 hm (fun p8 _ ys11 x9 v10 H q Nx hS hx hm kS kN => ?_) (fun p8 t H hm hS => ?_)
        ·
          cases hx
          refine c_gLc (σ' := [some (.str (s4)), some (.str (sg (x9)))]) rfl rfl ?_
          refine c_yes ?_
          refine c_call ?_
          refine ea_to (ea_cons (ev_var rfl) ea_nil) ?_
          refine ⟨x9, star [lstA p8 (ys11 : List Bool), imA (.str (s4)) (v_thing : Any), F], rfl, Sep.unstar (M := []) (hS.sel [0, 1, 2] (by decide) rfl : Sep H (([] ++ [lstA p8 (ys11 : List Bool), imA (.str (s4)) (v_thing : Any), F] : List (Asn G)))), R.wp_mono (R.wp_bind hm) (fun r12 hm H hS => ?_) (fun _ z => z)⟩
          have hS : Sep H ([lstA p8 (ys11 : List Bool), imA (.str (s4)) (v_thing : Any), F] : List (Asn G)) := Sep.star (M := []) hS
          exact kS () _ _ _ hm rfl (hS.sel [0, 1, 2] (by decide) rfl)
        · revert hm hS; generalize t = t13; intro hm hS
          refine fz_no ?_
          refine c_nil ?_
          refine ⟨_, _, rfl, (hS.sqF (i := 0) rfl), ?_⟩
          exact hm _ (hS.sel [2] (by decide) rfl)
def sp_is_text (G : Gx) : Sp := fun vs H Q E => ∃ (a_v_thing : V) (v_thing : Any) (v_most : Int) (F : Asn G), vs = [a_v_thing, (.int (v_most))] ∧ Im.im G H a_v_thing v_thing ∧ Sep H ([F] : List (Asn G)) ∧ R.wp (m_is_text v_thing v_most) (fun r => ∀ H', Sep H' ([F] : List (Asn G)) → Q (.bl (r)) H') (fun _ => False)
abbrev N_is_text : List Str := ["thing", "most"]
theorem sc_is_text : FnScope N_is_text ["thing", "most"] (defScope s_is_text) := ⟨rfl, rfl, rfl, by decide +kernel, rfl, by decide +kernel, by decide +kernel⟩
theorem ok_is_text (T : Txt G mg) : FnOk P w G.K mg base CX0 1 T.a_is_text T.fd_is_text ["thing", "most"] (sp_is_text G) := by
  have nd := sc_is_text.nd
  refine Fun.ok T.F_is_text sc_is_text (fun vs H Q E h => ?_) (fun cdv A outer s H vs Q E hr h => ?_)
  · obtain ⟨a_v_thing, v_thing, v_most, F, rfl, _⟩ := h; rfl
  · obtain ⟨a_v_thing, v_thing, v_most, F, rfl, him_v_thing, hS, hm⟩ := h
    have hS := hS.addIm him_v_thing
    refine ⟨_, (pss_one (ps_ret (pe_and (pe_callB (isiK G.K) (by rfl) T.z_isinstance (by decide +kernel) (pa_cons (pv 0) (pa_cons (pe_bltn (v := .ty "str") (by rfl) T.z_str (by decide +kernel) rfl) pa_nil))) (pe_one (pe_cmpR op_le (pe_callB (lenAnyK G.K) (by rfl) T.z_len PySem.boot_len (pa_cons (pv 0) pa_nil)) (pv 1) (nomark _)))))), ?_⟩
    unfold m_is_text at hm
    refine c_ret ?_
    refine f_andV ?_
    refine ev_to (ev_isAny (ev_var rfl) ev_c (hS.im (i := 0) rfl) (by decide)) ?_
    refine andVK_J hm hS (fun hb q hm nx => ?_) (fun b1 H hm hS => ?_)
    ·
      obtain ⟨n2, hn2, hm⟩ := wp_lenA hm
      refine ev_to (ev_i0 (ev_lenA (ev_var rfl) (hS.im (i := 0) rfl) hn2) (ev_var rfl)) ?_
      exact nx _ _ hm (hS.sel [0, 1] (by decide) rfl)
    ·
      exact hm _ (hS.sel [1] (by decide) rfl)
def sp_is_day (G : Gx) : Sp := fun vs H Q E => ∃ (a_v_thing : V) (v_thing : Any) (F : Asn G), vs = [a_v_thing] ∧ Im.im G H a_v_thing v_thing ∧ Sep H ([F] : List (Asn G)) ∧ R.wp (m_is_day v_thing) (fun r => ∀ H', Sep H' ([F] : List (Asn G)) → Q (.bl (r)) H') (fun _ => False)
abbrev N_is_day : List Str := ["thing"]
theorem sc_is_day : FnScope N_is_day ["thing"] (defScope s_is_day) := ⟨rfl, rfl, rfl, by decide +kernel, rfl, by decide +kernel, by decide +kernel⟩
theorem ok_is_day (T : Txt G mg) : FnOk P w G.K mg base CX0 1 T.a_is_day T.fd_is_day ["thing"] (sp_is_day G) := by
  have nd := sc_is_day.nd
  refine Fun.ok T.F_is_day sc_is_day (fun vs H Q E h => ?_) (fun cdv A outer s H vs Q E hr h => ?_)
  · obtain ⟨a_v_thing, v_thing, F, rfl, _⟩ := h; rfl
  · obtain ⟨a_v_thing, v_thing, F, rfl, him_v_thing, hS, hm⟩ := h
    have hS := hS.addIm him_v_thing
    refine ⟨_, (pss_one (ps_ret (pe_and (pe_callB (isiK G.K) (by rfl) T.z_isinstance (by decide +kernel) (pa_cons (pv 0) (pa_cons (pe_bltn (v := .ty "int") (by rfl) T.z_int (by decide +kernel) rfl) pa_nil))) (pe_and (pe_not (pe_callB (isiK G.K) (by rfl) T.z_isinstance (by decide +kernel) (pa_cons (pv 0) (pa_cons (pe_bltn (v := .ty "bool") (by rfl) T.z_bool (by decide +kernel) rfl) pa_nil)))) (pe_one (pe_chain op_le op_le pe_int (pv 0) (pe_glob (v := .int 9999) rfl T.c_MOST_DAY ⟨_, rfl⟩))))))), ?_⟩
    unfold m_is_day at hm
    refine c_ret ?_
    refine f_andV ?_
    refine ev_to (ev_isAny (ev_var rfl) ev_c (hS.im (i := 0) rfl) (by decide)) ?_
    refine andVK_J hm hS (fun hb q hm nx => ?_) (fun b1 H hm hS => ?_)
    ·
      refine f_andV ?_
      refine ev_to (ev_notV (ev_isAny (ev_var rfl) ev_c (hS.im (i := 0) rfl) (by decide))) ?_
      refine andVK_J hm hS (fun hb q hm nx => ?_) (fun b2 H hm hS => ?_)
      ·
        obtain ⟨s3, hs4, hm⟩ := Ml.wp_asInt hm
        have hv5 := v_int (hS.im (i := 0) rfl) hs4
        subst hv5
        refine ev_to (ev_chainB (a := decide (0 ≤ s3)) (b := decide (s3 ≤ 9999)) ev_c (ev_var rfl) (fun _ => ev_c) (fun Q q => r_I0 Q q) (fun _ Q q => r_I0 Q q)) ?_
        -- changed: im_v_thing
        exact nx _ _ hm (hS.sel [0, 1] (by decide) rfl)
      ·
        exact nx _ _ hm (hS.sel [0, 1] (by decide) rfl)
    ·
      exact hm _ (hS.sel [1] (by decide) rfl)
def sp_Letter___init__ (G : Gx) : Sp := fun vs H Q E => ∃ (a_v_self d_v_self : Addr) (a_v_sender : V) (v_sender : Any) (a_v_title : V) (v_title : Any) (a_v_body : V) (v_body : Any) (a_v_day : V) (v_day : Any) (a_v_answers : V) (v_answers : Any) (F : Asn G), vs = [.ref a_v_self, a_v_sender, a_v_title, a_v_body, a_v_day, a_v_answers] ∧ Im.im G H a_v_sender v_sender ∧ Im.im G H a_v_title v_title ∧ Im.im G H a_v_body v_body ∧ Im.im G H a_v_day v_day ∧ Im.im G H a_v_answers v_answers ∧ Sep H ([cell a_v_self (.ins (G.cl 2) d_v_self []), F] : List (Asn G)) ∧ R.wp (m_Letter___init__ v_sender v_title v_body v_day v_answers) (fun r => ∀ H', Sep H' ([imA (.ref a_v_self) (r : Letter), F] : List (Asn G)) → Q .non H') (fun x => ∀ H', Sep H' ([F] : List (Asn G)) → Eok G x E H')
abbrev N_Letter___init__ : List Str := ["self", "sender", "title", "body", "day", "answers"]
theorem sc_Letter___init__ : FnScope N_Letter___init__ ["self", "sender", "title", "body", "day", "answers"] (defScope s_Letter___init__) := ⟨rfl, rfl, rfl, by decide +kernel, rfl, by decide +kernel, by decide +kernel⟩
theorem ok_Letter___init__ (T : Txt G mg) : FnOk P w G.K mg base (L2.CX P w) 3 T.a_Letter___init__ T.fd_Letter___init__ ["self", "sender", "title", "body", "day", "answers"] (sp_Letter___init__ G) := by
  have nd := sc_Letter___init__.nd
  refine FunD.ok T.F_Letter___init__ sc_Letter___init__ (fun vs H Q E h => ?_) (fun cdv A outer s H vs Q E hr h => ?_)
  · obtain ⟨a_v_self, d_v_self, a_v_sender, v_sender, a_v_title, v_title, a_v_body, v_body, a_v_day, v_day, a_v_answers, v_answers, F, rfl, _⟩ := h; rfl
  · obtain ⟨a_v_self, d_v_self, a_v_sender, v_sender, a_v_title, v_title, a_v_body, v_body, a_v_day, v_day, a_v_answers, v_answers, F, rfl, him_v_sender, him_v_title, him_v_body, him_v_day, him_v_answers, hS, hm⟩ := h
    have hS := hS.addIm him_v_sender
    have hS := hS.addIm him_v_title
    have hS := hS.addIm him_v_body
    have hS := hS.addIm him_v_day
    have hS := hS.addIm him_v_answers
    refine ⟨_, (pss_cons (ps_if (PW.pt (pw_or (pt_not (pt_val (pe_call (ok_is_word T) (hr.mono (by decide)) rfl T.g_is_word T.kp_is_word T.b_is_word .nil pass0 (pa_cons (pv 1) pa_nil)))) (pw_or (pt_not (pt_val (pe_call (ok_is_text T) (hr.mono (by decide)) rfl T.g_is_text T.kp_is_text T.b_is_text .nil pass0 (pa_cons (pv 2) (pa_cons (pe_glob (v := .int 60) rfl T.c_MOST_TITLE ⟨_, rfl⟩) pa_nil))))) (pw_or1 (pt_cmpR op_inSg pe_str (pv 2) (by rfl)))))) (pss_one (ps_raise rfl (takes_of rfl rfl rfl rfl) (pmk_own PySem.F.excBase_ValueError T.x_NoLetter T.g_NoLetter T.kp_NoLetter (T.r_NoLetter rfl) rfl))) pss_nil)
      (pss_cons (ps_if (PW.pt (pw_or (pt_not (pt_val (pe_call (ok_is_text T) (hr.mono (by decide)) rfl T.g_is_text T.kp_is_text T.b_is_text .nil pass0 (pa_cons (pv 3) (pa_cons (pe_glob (v := .int 400) rfl T.c_MOST_BODY ⟨_, rfl⟩) pa_nil))))) (pw_or1 (pt_not (pt_val (pe_call (ok_is_day T) (hr.mono (by decide)) rfl T.g_is_day T.kp_is_day T.b_is_day .nil pass0 (pa_cons (pv 4) pa_nil))))))) (pss_one (ps_raise rfl (takes_of rfl rfl rfl rfl) (pmk_own PySem.F.excBase_ValueError T.x_NoLetter T.g_NoLetter T.kp_NoLetter (T.r_NoLetter rfl) rfl))) pss_nil)
      (pss_cons (ps_if (PW.pt (pw_and (pt_cmpR (neDK G.K hr.units) (pv 5) pe_str (nomark _)) (pw_and1 (pt_not (pt_val (pe_call (ok_is_word T) (hr.mono (by decide)) rfl T.g_is_word T.kp_is_word T.b_is_word .nil pass0 (pa_cons (pv 5) pa_nil))))))) (pss_one (ps_raise rfl (takes_of rfl rfl rfl rfl) (pmk_own PySem.F.excBase_ValueError T.x_NoLetter T.g_NoLetter T.kp_NoLetter (T.r_NoLetter rfl) rfl))) pss_nil)
      (pss_cons (ps_fld (pv 0) (pv 1) rfl)
      (pss_cons (ps_fld (pv 0) (pv 2) rfl)
      (pss_cons (ps_fld (pv 0) (pv 3) rfl)
      (pss_cons (ps_fld (pv 0) (pv 4) rfl)
      (pss_one (ps_fld (pv 0) (pv 5) rfl))))))))), ?_⟩
    unfold m_Letter___init__ at hm
    refine f_seq ?_
    refine f_if ?_
    refine f_or ?_
    refine f_not ?_
    refine f_B ?_
    refine c_call ?_
    refine ea_to (ea_cons (ev_var rfl) ea_nil) ?_
    refine ⟨a_v_sender, (v_sender : Any), star [imA a_v_answers (v_answers : Any), imA a_v_day (v_day : Any), imA a_v_body (v_body : Any), imA a_v_title (v_title : Any), imA a_v_sender (v_sender : Any), cell a_v_self (.ins (G.cl 2) d_v_self []), F], rfl, (hS.im (i := 4) rfl), Sep.unstar (M := []) (hS.sel [0, 1, 2, 3, 4, 5, 6] (by decide) rfl : Sep H (([] ++ [imA a_v_answers (v_answers : Any), imA a_v_day (v_day : Any), imA a_v_body (v_body : Any), imA a_v_title (v_title : Any), imA a_v_sender (v_sender : Any), cell a_v_self (.ins (G.cl 2) d_v_self []), F] : List (Asn G)))), R.wp_mono (R.wp_noexc hm) (fun r1 hm H hS => ?_) (fun _ z => z)⟩
    have hS : Sep H ([imA a_v_answers (v_answers : Any), imA a_v_day (v_day : Any), imA a_v_body (v_body : Any), imA a_v_title (v_title : Any), imA a_v_sender (v_sender : Any), cell a_v_self (.ins (G.cl 2) d_v_self []), F] : List (Asn G)) := Sep.star (M := []) hS
    refine f_bl ?_
    refine f_nK ?_
    refine orK_J hm hS (fun hb q hm nx => ?_) (fun b2 H hm hS => ?_)
    ·
      refine f_or ?_
      refine f_not ?_
      refine f_B ?_
      refine c_call ?_
      refine ea_to (ea_cons (ev_var rfl) (ea_cons ev_c ea_nil)) ?_
      refine ⟨a_v_title, (v_title : Any), 60, star [imA a_v_answers (v_answers : Any), imA a_v_day (v_day : Any), imA a_v_body (v_body : Any), imA a_v_title (v_title : Any), imA a_v_sender (v_sender : Any), cell a_v_self (.ins (G.cl 2) d_v_self []), F], rfl, (hS.im (i := 3) rfl), Sep.unstar (M := []) (hS.sel [0, 1, 2, 3, 4, 5, 6] (by decide) rfl : Sep H (([] ++ [imA a_v_answers (v_answers : Any), imA a_v_day (v_day : Any), imA a_v_body (v_body : Any), imA a_v_title (v_title : Any), imA a_v_sender (v_sender : Any), cell a_v_self (.ins (G.cl 2) d_v_self []), F] : List (Asn G)))), R.wp_mono (R.wp_noexc hm) (fun r3 hm H hS => ?_) (fun _ z => z)⟩
      have hS : Sep H ([imA a_v_answers (v_answers : Any), imA a_v_day (v_day : Any), imA a_v_body (v_body : Any), imA a_v_title (v_title : Any), imA a_v_sender (v_sender : Any), cell a_v_self (.ins (G.cl 2) d_v_self []), F] : List (Asn G)) := Sep.star (M := []) hS
      refine f_bl ?_
      refine f_nK ?_
      refine orK_J hm hS (fun hb q hm nx => ?_) (fun b4 H hm hS => ?_)
      ·
        obtain ⟨s5, hs6, hm⟩ := Ml.wp_asStr hm
        have hv7 := v_str (hS.im (i := 3) rfl) hs6
        subst hv7
        refine et_to (et_test (ev_inSg (c := 10) ev_c (ev_var rfl))) ?_
        -- changed: im_v_title
        exact nx _ _ hm (hS.sel [0, 1, 2, 3, 4, 5, 6] (by decide) rfl)
      ·
        exact nx _ _ hm (hS.sel [0, 1, 2, 3, 4, 5, 6] (by decide) rfl)
    ·
      obtain ⟨hy, hn⟩ := R.wp_if hm
      refine ifK_2 (fun hb8 => ?_) (fun hb8 => ?_)
      · have hm := hy hb8
        exact hm _ (hS.sel [6] (by decide) rfl)
      · have hm := hn (by rw [hb8]; decide)
        refine st_nx ?_
        refine sq_nx ?_
        refine f_seq ?_
        refine f_if ?_
        refine f_or ?_
        refine f_not ?_
        refine f_B ?_
        refine c_call ?_
        refine ea_to (ea_cons (ev_var rfl) (ea_cons ev_c ea_nil)) ?_
        refine ⟨a_v_body, (v_body : Any), 400, star [imA a_v_answers (v_answers : Any), imA a_v_day (v_day : Any), imA a_v_body (v_body : Any), imA a_v_title (v_title : Any), imA a_v_sender (v_sender : Any), cell a_v_self (.ins (G.cl 2) d_v_self []), F], rfl, (hS.im (i := 2) rfl), Sep.unstar (M := []) (hS.sel [0, 1, 2, 3, 4, 5, 6] (by decide) rfl : Sep H (([] ++ [imA a_v_answers (v_answers : Any), imA a_v_day (v_day : Any), imA a_v_body (v_body : Any), imA a_v_title (v_title : Any), imA a_v_sender (v_sender : Any), cell a_v_self (.ins (G.cl 2) d_v_self []), F] : List (Asn G)))), R.wp_mono (R.wp_noexc hm) (fun r9 hm H hS => ?_) (fun _ z => z)⟩
        have hS : Sep H ([imA a_v_answers (v_answers : Any), imA a_v_day (v_day : Any), imA a_v_body (v_body : Any), imA a_v_title (v_title : Any), imA a_v_sender (v_sender : Any), cell a_v_self (.ins (G.cl 2) d_v_self []), F] : List (Asn G)) := Sep.star (M := []) hS
        refine f_bl ?_
        refine f_nK ?_
        refine orK_J hm hS (fun hb q hm nx => ?_) (fun b10 H hm hS => ?_)
        ·
          refine f_not ?_
          refine f_B ?_
          refine c_call ?_
          refine ea_to (ea_cons (ev_var rfl) ea_nil) ?_
          refine ⟨a_v_day, (v_day : Any), star [imA a_v_answers (v_answers : Any), imA a_v_day (v_day : Any), imA a_v_body (v_body : Any), imA a_v_title (v_title : Any), imA a_v_sender (v_sender : Any), cell a_v_self (.ins (G.cl 2) d_v_self []), F], rfl, (hS.im (i := 1) rfl), Sep.unstar (M := []) (hS.sel [0, 1, 2, 3, 4, 5, 6] (by decide) rfl : Sep H (([] ++ [imA a_v_answers (v_answers : Any), imA a_v_day (v_day : Any), imA a_v_body (v_body : Any), imA a_v_title (v_title : Any), imA a_v_sender (v_sender : Any), cell a_v_self (.ins (G.cl 2) d_v_self []), F] : List (Asn G)))), R.wp_mono (R.wp_noexc hm) (fun r11 hm H hS => ?_) (fun _ z => z)⟩
          have hS : Sep H ([imA a_v_answers (v_answers : Any), imA a_v_day (v_day : Any), imA a_v_body (v_body : Any), imA a_v_title (v_title : Any), imA a_v_sender (v_sender : Any), cell a_v_self (.ins (G.cl 2) d_v_self []), F] : List (Asn G)) := Sep.star (M := []) hS
          refine f_bl ?_
          refine f_nK ?_
          exact nx _ _ hm (hS.sel [0, 1, 2, 3, 4, 5, 6] (by decide) rfl)
        ·
          obtain ⟨hy, hn⟩ := R.wp_if hm
          refine ifK_2 (fun hb12 => ?_) (fun hb12 => ?_)
          · have hm := hy hb12
            exact hm _ (hS.sel [6] (by decide) rfl)
          · have hm := hn (by rw [hb12]; decide)
            refine st_nx ?_
            refine sq_nx ?_
            refine f_seq ?_
            refine f_if ?_
            refine f_and ?_
            obtain ⟨b13, hb13, hm⟩ := wp_eqA hm
            refine et_to (et_test (ev_neA (ev_var rfl) ev_c (hS.im (i := 0) rfl) (any_str.mpr rfl) hb13)) ?_
            refine andK_J hm hS (fun hb q hm nx => ?_) (fun b14 H hm hS => ?_)
            ·
              refine f_not ?_
              refine f_B ?_
              refine c_call ?_
              refine ea_to (ea_cons (ev_var rfl) ea_nil) ?_
              refine ⟨a_v_answers, (v_answers : Any), star [imA a_v_answers (v_answers : Any), imA a_v_day (v_day : Any), imA a_v_body (v_body : Any), imA a_v_title (v_title : Any), imA a_v_sender (v_sender : Any), cell a_v_self (.ins (G.cl 2) d_v_self []), F], rfl, (hS.im (i := 0) rfl), Sep.unstar (M := []) (hS.sel [0, 1, 2, 3, 4, 5, 6] (by decide) rfl : Sep H (([] ++ [imA a_v_answers (v_answers : Any), imA a_v_day (v_day : Any), imA a_v_body (v_body : Any), imA a_v_title (v_title : Any), imA a_v_sender (v_sender : Any), cell a_v_self (.ins (G.cl 2) d_v_self []), F] : List (Asn G)))), R.wp_mono (R.wp_noexc hm) (fun r15 hm H hS => ?_) (fun _ z => z)⟩
              have hS : Sep H ([imA a_v_answers (v_answers : Any), imA a_v_day (v_day : Any), imA a_v_body (v_body : Any), imA a_v_title (v_title : Any), imA a_v_sender (v_sender : Any), cell a_v_self (.ins (G.cl 2) d_v_self []), F] : List (Asn G)) := Sep.star (M := []) hS
              refine f_bl ?_
              refine f_nK ?_
              exact nx _ _ hm (hS.sel [0, 1, 2, 3, 4, 5, 6] (by decide) rfl)
            ·
              obtain ⟨hy, hn⟩ := R.wp_if hm
              refine ifK_2 (fun hb16 => ?_) (fun hb16 => ?_)
              · have hm := hy hb16
                exact hm _ (hS.sel [6] (by decide) rfl)
              · have hm := hn (by rw [hb16]; decide)
                refine st_nx ?_
                refine sq_nx ?_
                refine f_seq ?_
                refine c_sfld ?_
                refine ev_to (ev_var rfl) ?_
                obtain ⟨s17, hs18, hm⟩ := Ml.wp_asStr hm
                have hv19 := v_str (hS.im (i := 4) rfl) hs18
                subst hv19
                refine ev_to (ev_var rfl) ?_
                refine k_sfld (fs' := [("sender", (.str (s17)))]) hS (i := 5) rfl T.cl_Letter T.n_Letter_sender rfl (by show 0 < 1000; decide) (by show decide (G.fz (G.cl 2) = some 1) = false; rw [T.fz_Letter]; rfl) rfl fun H hS => ?_
                have hS : Sep H ([imA a_v_answers (v_answers : Any), imA a_v_day (v_day : Any), imA a_v_body (v_body : Any), imA a_v_title (v_title : Any), imA (.str (s17)) (v_sender : Any), cell a_v_self (.ins (G.cl 2) d_v_self [("sender", (.str (s17)))]), F] : List (Asn G)) := hS
                refine sq_nx ?_
                refine f_seq ?_
                refine c_sfld ?_
                refine ev_to (ev_var rfl) ?_
                obtain ⟨s20, hs21, hm⟩ := Ml.wp_asStr hm
                have hv22 := v_str (hS.im (i := 3) rfl) hs21
                subst hv22
                refine ev_to (ev_var rfl) ?_
                refine k_sfld (fs' := [("sender", (.str (s17))), ("title", (.str (s20)))]) hS (i := 5) rfl T.cl_Letter T.n_Letter_title rfl (by show 1 < 1000; decide) (by show decide (G.fz (G.cl 2) = some 2) = false; rw [T.fz_Letter]; rfl) rfl fun H hS => ?_
                have hS : Sep H ([imA a_v_answers (v_answers : Any), imA a_v_day (v_day : Any), imA a_v_body (v_body : Any), imA (.str (s20)) (v_title : Any), imA (.str (s17)) (v_sender : Any), cell a_v_self (.ins (G.cl 2) d_v_self [("sender", (.str (s17))), ("title", (.str (s20)))]), F] : List (Asn G)) := hS
                refine sq_nx ?_
                refine f_seq ?_
                refine c_sfld ?_
                refine ev_to (ev_var rfl) ?_
                obtain ⟨s23, hs24, hm⟩ := Ml.wp_asStr hm
                have hv25 := v_str (hS.im (i := 2) rfl) hs24
                subst hv25
                refine ev_to (ev_var rfl) ?_
                refine k_sfld (fs' := [("sender", (.str (s17))), ("title", (.str (s20))), ("body", (.str (s23)))]) hS (i := 5) rfl T.cl_Letter T.n_Letter_body rfl (by show 2 < 1000; decide) (by show decide (G.fz (G.cl 2) = some 3) = false; rw [T.fz_Letter]; rfl) rfl fun H hS => ?_
                have hS : Sep H ([imA a_v_answers (v_answers : Any), imA a_v_day (v_day : Any), imA (.str (s23)) (v_body : Any), imA (.str (s20)) (v_title : Any), imA (.str (s17)) (v_sender : Any), cell a_v_self (.ins (G.cl 2) d_v_self [("sender", (.str (s17))), ("title", (.str (s20))), ("body", (.str (s23)))]), F] : List (Asn G)) := hS
                refine sq_nx ?_
                refine f_seq ?_
                refine c_sfld ?_
                refine ev_to (ev_var rfl) ?_
                obtain ⟨s26, hs27, hm⟩ := Ml.wp_asInt hm
                have hv28 := v_int (hS.im (i := 1) rfl) hs27
                subst hv28
                refine ev_to (ev_var rfl) ?_
                refine k_sfld (fs' := [("sender", (.str (s17))), ("title", (.str (s20))), ("body", (.str (s23))), ("day", (.int (s26)))]) hS (i := 5) rfl T.cl_Letter T.n_Letter_day rfl (by show 3 < 1000; decide) (by show decide (G.fz (G.cl 2) = some 4) = false; rw [T.fz_Letter]; rfl) rfl fun H hS => ?_
                have hS : Sep H ([imA a_v_answers (v_answers : Any), imA (.int (s26)) (v_day : Any), imA (.str (s23)) (v_body : Any), imA (.str (s20)) (v_title : Any), imA (.str (s17)) (v_sender : Any), cell a_v_self (.ins (G.cl 2) d_v_self [("sender", (.str (s17))), ("title", (.str (s20))), ("body", (.str (s23))), ("day", (.int (s26)))]), F] : List (Asn G)) := hS
                refine sq_nx ?_
                refine c_sfld ?_
                refine ev_to (ev_var rfl) ?_
                obtain ⟨s29, hs30, hm⟩ := Ml.wp_asStr hm
                have hv31 := v_str (hS.im (i := 0) rfl) hs30
                subst hv31
                refine ev_to (ev_var rfl) ?_
                refine k_sfldP (fs' := [("sender", (.str (s17))), ("title", (.str (s20))), ("body", (.str (s23))), ("day", (.int (s26))), ("answers", (.str (s29)))]) hS (i := 5) rfl T.cl_Letter T.n_Letter_answers rfl (by show 4 < 1000; decide) (by show decide (G.fz (G.cl 2) = some 5) = true; rw [T.fz_Letter]; rfl) rfl fun H hO hT hS => ?_
                have hS : Sep H ([imA (.str (s29)) (v_answers : Any), imA (.int (s26)) (v_day : Any), imA (.str (s23)) (v_body : Any), imA (.str (s20)) (v_title : Any), imA (.str (s17)) (v_sender : Any), F] : List (Asn G)) := hS
                have hS := hS.addIm (v := (.ref a_v_self)) (x := (⟨s17, s20, s23, s26, s29⟩ : Letter)) (mk_Letter T.fz_Letter hO)
                exact hm _ (hS.sel [0, 6] (by decide) rfl)
def sp_Letter_parts (G : Gx) : Sp := fun vs H Q E => ∃ (a_v_self : Addr) (v_self : Letter) (F : Asn G), vs = [(.ref a_v_self)] ∧ Im.im G H (.ref a_v_self) v_self ∧ Sep H ([F] : List (Asn G)) ∧ R.wp (m_Letter_parts v_self) (fun r => ∀ (p : Addr) H', Sep H' ([imA (.ref p) (r : (T5 Str Str Str Int Str)), F] : List (Asn G)) → Q (.ref p) H') (fun _ => False)
abbrev N_Letter_parts : List Str := ["self"]
theorem sc_Letter_parts : FnScope N_Letter_parts ["self"] (defScope s_Letter_parts) := ⟨rfl, rfl, rfl, by decide +kernel, rfl, by decide +kernel, by decide +kernel⟩
theorem ok_Letter_parts (T : Txt G mg) : FnOk P w G.K mg base CX0 1 T.a_Letter_parts T.fd_Letter_parts ["self"] (sp_Letter_parts G) := by
  have nd := sc_Letter_parts.nd
  refine Fun.ok T.F_Letter_parts sc_Letter_parts (fun vs H Q E h => ?_) (fun cdv A outer s H vs Q E hr h => ?_)
  · obtain ⟨a_v_self, v_self, F, rfl, _⟩ := h; rfl
  · obtain ⟨a_v_self, v_self, F, rfl, him_v_self, hS, hm⟩ := h
    have hS := hS.addIm him_v_self
    refine ⟨_, (pss_one (ps_ret (pe_tup (pa_cons (pe_fld (pv 0) rfl) (pa_cons (pe_fld (pv 0) rfl) (pa_cons (pe_fld (pv 0) rfl) (pa_cons (pe_fld (pv 0) rfl) (pa_cons (pe_fld (pv 0) rfl) pa_nil)))))))), ?_⟩
    unfold m_Letter_parts at hm
    refine c_ret ?_
    refine c_tup ?_
    obtain ⟨d1, hO2⟩ := im_Letter (hS.im (i := 0) rfl)
    obtain ⟨d3, hO4⟩ := im_Letter (hS.im (i := 0) rfl)
    obtain ⟨d5, hO6⟩ := im_Letter (hS.im (i := 0) rfl)
    obtain ⟨d7, hO8⟩ := im_Letter (hS.im (i := 0) rfl)
    obtain ⟨d9, hO10⟩ := im_Letter (hS.im (i := 0) rfl)
    refine ea_to (ea_cons (ev_fld (ev_var rfl) hO2 T.cl_Letter T.n_Letter_sender rfl) (ea_cons (ev_fld (ev_var rfl) hO4 T.cl_Letter T.n_Letter_title rfl) (ea_cons (ev_fld (ev_var rfl) hO6 T.cl_Letter T.n_Letter_body rfl) (ea_cons (ev_fld (ev_var rfl) hO8 T.cl_Letter T.n_Letter_day rfl) (ea_cons (ev_fld (ev_var rfl) hO10 T.cl_Letter T.n_Letter_answers rfl) ea_nil))))) ?_
    refine k_tupP (x := ((⟨v_self.sender, v_self.title, v_self.body, v_self.day, v_self.answers⟩ : T5 _ _ _ _ _) : (T5 Str Str Str Int Str))) hS (fun H' p h s => mk5 rfl rfl rfl rfl rfl h s) (by show 5 ≤ sizeLine; decide) fun p11 H hS => ?_
    exact hm _ _ (hS.sel [0, 2] (by decide) rfl)
def sp_letter_of (G : Gx) : Sp := fun vs H Q E => ∃ (a_v_thing : V) (v_thing : Any) (F : Asn G), vs = [a_v_thing] ∧ Im.im G H a_v_thing v_thing ∧ Sep H ([F] : List (Asn G)) ∧ R.wp (m_letter_of v_thing) (fun r => ∀ (p : Addr) H', Sep H' ([imA (.ref p) (r : Letter), F] : List (Asn G)) → Q (.ref p) H') (fun x => ∀ H', Sep H' ([F] : List (Asn G)) → Eok G x E H')
abbrev N_letter_of : List Str := ["thing"]
theorem sc_letter_of : FnScope N_letter_of ["thing"] (defScope s_letter_of) := ⟨rfl, rfl, rfl, by decide +kernel, rfl, by decide +kernel, by decide +kernel⟩
theorem ok_letter_of (T : Txt G mg) : FnOk P w G.K mg base (L2.CX P w) 5 T.a_letter_of T.fd_letter_of ["thing"] (sp_letter_of G) := by
  have nd := sc_letter_of.nd
  refine Fun.okX T.F_letter_of sc_letter_of (fun vs H Q E h => ?_) (fun cdv A outer s H vs Q E hr h => ?_)
  · obtain ⟨a_v_thing, v_thing, F, rfl, _⟩ := h; rfl
  · obtain ⟨a_v_thing, v_thing, F, rfl, him_v_thing, hS, hm⟩ := h
    have hS := hS.addIm him_v_thing
    refine ⟨_, (pss_cons (ps_if (PW.pt (pw_or (pt_not (pt_val (pe_callB (isiK G.K) (by rfl) T.z_isinstance (by decide +kernel) (pa_cons (pv 0) (pa_cons (pe_bltn (v := .ty "tuple") (by rfl) T.z_tuple (by decide +kernel) rfl) pa_nil))))) (pw_or1 (pt_cmpR op_ne (pe_callB (lenAnyK G.K) (by rfl) T.z_len PySem.boot_len (pa_cons (pv 0) pa_nil)) pe_int (nomark _))))) (pss_one (ps_raise rfl (takes_of rfl rfl rfl rfl) (pmk_own PySem.F.excBase_ValueError T.x_NoLetter T.g_NoLetter T.kp_NoLetter (T.r_NoLetter rfl) rfl))) pss_nil)
      (pss_one (ps_ret (pe_make T.k_Letter (ok_Letter___init__ T) (hr.mono (by decide)) rfl T.g_Letter T.b_Letter___init__ .nil (passes_call (takes_of rfl rfl rfl rfl) (fun _ _ _ _ h => h)) (pa_cons (pe_ix (ix_tupK G.K) (pv 0) pe_int (fun _ _ => rfl)) (pa_cons (pe_ix (ix_tupK G.K) (pv 0) pe_int (fun _ _ => rfl)) (pa_cons (pe_ix (ix_tupK G.K) (pv 0) pe_int (fun _ _ => rfl)) (pa_cons (pe_ix (ix_tupK G.K) (pv 0) pe_int (fun _ _ => rfl)) (pa_cons (pe_ix (ix_tupK G.K) (pv 0) pe_int (fun _ _ => rfl)) pa_nil))))))))), ?_⟩
    unfold m_letter_of at hm
    refine f_seq ?_
    refine f_if ?_
    refine f_or ?_
    refine et_to (et_not (et_B (ev_isAny (ev_var rfl) ev_c (hS.im (i := 0) rfl) (by decide)))) ?_
    refine orK_J hm hS (fun hb q hm nx => ?_) (fun b1 H hm hS => ?_)
    ·
      obtain ⟨n2, hn2, hm⟩ := wp_lenA hm
      refine et_to (et_test (ev_neI (ev_lenA (ev_var rfl) (hS.im (i := 0) rfl) hn2) ev_c)) ?_
      exact nx _ _ hm (hS.sel [0, 1] (by decide) rfl)
    ·
      obtain ⟨hy, hn⟩ := R.wp_if hm
      refine ifK_2 (fun hb3 => ?_) (fun hb3 => ?_)
      · have hm := hy hb3
        exact hm _ (hS.sel [1] (by decide) rfl)
      · have hm := hn (by rw [hb3]; decide)
        refine st_nx ?_
        refine sq_nx ?_
        refine c_ret ?_
        refine c_make ?_
        obtain ⟨xs4, h5, hm⟩ := Ml.wp_asTup hm
        obtain ⟨x6, hx6, hm⟩ := wp_idx hm
        obtain ⟨a7, vs8, he9, hg10, hM11⟩ := any_tupE (hS.im (i := 0) rfl) h5
        obtain ⟨u12, hu13, hi14⟩ := atI_im hM11 hx6
        obtain ⟨xs15, h16, hm⟩ := Ml.wp_asTup hm
        obtain ⟨x17, hx17, hm⟩ := wp_idx hm
        obtain ⟨a18, vs19, he20, hg21, hM22⟩ := any_tupE (hS.im (i := 0) rfl) h16
        obtain ⟨u23, hu24, hi25⟩ := atI_im hM22 hx17
        obtain ⟨xs26, h27, hm⟩ := Ml.wp_asTup hm
        obtain ⟨x28, hx28, hm⟩ := wp_idx hm
        obtain ⟨a29, vs30, he31, hg32, hM33⟩ := any_tupE (hS.im (i := 0) rfl) h27
        obtain ⟨u34, hu35, hi36⟩ := atI_im hM33 hx28
        obtain ⟨xs37, h38, hm⟩ := Ml.wp_asTup hm
        obtain ⟨x39, hx39, hm⟩ := wp_idx hm
        obtain ⟨a40, vs41, he42, hg43, hM44⟩ := any_tupE (hS.im (i := 0) rfl) h38
        obtain ⟨u45, hu46, hi47⟩ := atI_im hM44 hx39
        obtain ⟨xs48, h49, hm⟩ := Ml.wp_asTup hm
        obtain ⟨x50, hx50, hm⟩ := wp_idx hm
        obtain ⟨a51, vs52, he53, hg54, hM55⟩ := any_tupE (hS.im (i := 0) rfl) h49
        obtain ⟨u56, hu57, hi58⟩ := atI_im hM55 hx50
        refine ea_to (ea_cons (ev_ixT (ev_is (ev_var rfl) he9) ev_c hg10 hu13) (ea_cons (ev_ixT (ev_is (ev_var rfl) he20) ev_c hg21 hu24) (ea_cons (ev_ixT (ev_is (ev_var rfl) he31) ev_c hg32 hu35) (ea_cons (ev_ixT (ev_is (ev_var rfl) he42) ev_c hg43 hu46) (ea_cons (ev_ixT (ev_is (ev_var rfl) he53) ev_c hg54 hu57) ea_nil))))) ?_
        have hS := hS.addIm (v := u12) (x := (x6 : Any)) hi14
        have hS := hS.addIm (v := u23) (x := (x17 : Any)) hi25
        have hS := hS.addIm (v := u34) (x := (x28 : Any)) hi36
        have hS := hS.addIm (v := u45) (x := (x39 : Any)) hi47
        have hS := hS.addIm (v := u56) (x := (x50 : Any)) hi58
        intro p64 d65 np nd ne
        have hS := hS.newI (C := G.cl 2) np nd ne (by rw [T.fz_Letter]; decide)
        refine ⟨p64, d65, u12, (x6 : Any), u23, (x17 : Any), u34, (x28 : Any), u45, (x39 : Any), u56, (x50 : Any), star [imA u56 (x50 : Any), imA u45 (x39 : Any), imA u34 (x28 : Any), imA u23 (x17 : Any), imA u12 (x6 : Any), imA a_v_thing (v_thing : Any), F], rfl, (hS.im (i := 5) rfl), (hS.im (i := 4) rfl), (hS.im (i := 3) rfl), (hS.im (i := 2) rfl), (hS.im (i := 1) rfl), Sep.unstar (M := [cell p64 (.ins (G.cl 2) d65 [])]) (hS.sel [0, 1, 2, 3, 4, 5, 6, 7] (by decide) rfl : Sep _ (([cell p64 (.ins (G.cl 2) d65 [])] ++ [imA u56 (x50 : Any), imA u45 (x39 : Any), imA u34 (x28 : Any), imA u23 (x17 : Any), imA u12 (x6 : Any), imA a_v_thing (v_thing : Any), F] : List (Asn G)))), R.wp_mono (R.wp_bind hm) (fun r66 hm H hS => ⟨rfl, ?_⟩) (fun x hx H hS => ?_)⟩
        ·
          have hS : Sep H ([imA (.ref p64) (r66 : Letter), imA u56 (x50 : Any), imA u45 (x39 : Any), imA u34 (x28 : Any), imA u23 (x17 : Any), imA u12 (x6 : Any), imA a_v_thing (v_thing : Any), F] : List (Asn G)) := Sep.star (M := [imA (.ref p64) (r66 : Letter)]) hS
          exact hm _ _ (hS.sel [0, 7] (by decide) rfl)
        ·
          have hS : Sep H ([imA u56 (x50 : Any), imA u45 (x39 : Any), imA u34 (x28 : Any), imA u23 (x17 : Any), imA u12 (x6 : Any), imA a_v_thing (v_thing : Any), F] : List (Asn G)) := Sep.star (M := []) hS
          exact hx _ (hS.sel [6] (by decide) rfl)
def sp_is_count (G : Gx) : Sp := fun vs H Q E => ∃ (a_v_thing : V) (v_thing : Any) (F : Asn G), vs = [a_v_thing] ∧ Im.im G H a_v_thing v_thing ∧ Sep H ([F] : List (Asn G)) ∧ R.wp (m_is_count v_thing) (fun r => ∀ H', Sep H' ([F] : List (Asn G)) → Q (.bl (r)) H') (fun _ => False)
abbrev N_is_count : List Str := ["thing"]
theorem sc_is_count : FnScope N_is_count ["thing"] (defScope s_is_count) := ⟨rfl, rfl, rfl, by decide +kernel, rfl, by decide +kernel, by decide +kernel⟩
theorem ok_is_count (T : Txt G mg) : FnOk P w G.K mg base CX0 1 T.a_is_count T.fd_is_count ["thing"] (sp_is_count G) := by
  have nd := sc_is_count.nd
  refine Fun.ok T.F_is_count sc_is_count (fun vs H Q E h => ?_) (fun cdv A outer s H vs Q E hr h => ?_)
  · obtain ⟨a_v_thing, v_thing, F, rfl, _⟩ := h; rfl
  · obtain ⟨a_v_thing, v_thing, F, rfl, him_v_thing, hS, hm⟩ := h
    have hS := hS.addIm him_v_thing
    refine ⟨_, (pss_one (ps_ret (pe_and (pe_callB (isiK G.K) (by rfl) T.z_isinstance (by decide +kernel) (pa_cons (pv 0) (pa_cons (pe_bltn (v := .ty "int") (by rfl) T.z_int (by decide +kernel) rfl) pa_nil))) (pe_and (pe_not (pe_callB (isiK G.K) (by rfl) T.z_isinstance (by decide +kernel) (pa_cons (pv 0) (pa_cons (pe_bltn (v := .ty "bool") (by rfl) T.z_bool (by decide +kernel) rfl) pa_nil)))) (pe_one (pe_cmpR op_ge (pv 0) pe_int (nomark _))))))), ?_⟩
    unfold m_is_count at hm
    refine c_ret ?_
    refine f_andV ?_
    refine ev_to (ev_isAny (ev_var rfl) ev_c (hS.im (i := 0) rfl) (by decide)) ?_
    refine andVK_J hm hS (fun hb q hm nx => ?_) (fun b1 H hm hS => ?_)
    ·
      refine f_andV ?_
      refine ev_to (ev_notV (ev_isAny (ev_var rfl) ev_c (hS.im (i := 0) rfl) (by decide))) ?_
      refine andVK_J hm hS (fun hb q hm nx => ?_) (fun b2 H hm hS => ?_)
      ·
        obtain ⟨s3, hs4, hm⟩ := Ml.wp_asInt hm
        have hv5 := v_int (hS.im (i := 0) rfl) hs4
        subst hv5
        refine ev_to (ev_i0 (ev_var rfl) ev_c) ?_
        -- changed: im_v_thing
        exact nx _ _ hm (hS.sel [0, 1] (by decide) rfl)
      ·
        exact nx _ _ hm (hS.sel [0, 1] (by decide) rfl)
    ·
      exact hm _ (hS.sel [1] (by decide) rfl)
def sp_is_hand (G : Gx) : Sp := fun vs H Q E => ∃ (a_v_thing : V) (v_thing : Any) (F : Asn G), vs = [a_v_thing] ∧ Im.im G H a_v_thing v_thing ∧ Sep H ([F] : List (Asn G)) ∧ R.wp (m_is_hand v_thing) (fun r => ∀ H', Sep H' ([F] : List (Asn G)) → Q (.bl (r)) H') (fun _ => False)
abbrev N_is_hand : List Str := ["thing", "sign"]
theorem sc_is_hand : FnScope N_is_hand ["thing"] (defScope s_is_hand) := ⟨rfl, rfl, rfl, by decide +kernel, rfl, by decide +kernel, by decide +kernel⟩
theorem ok_is_hand (T : Txt G mg) : FnOk P w G.K mg base CX0 1 T.a_is_hand T.fd_is_hand ["thing"] (sp_is_hand G) := by
  have nd := sc_is_hand.nd
  refine Fun.ok T.F_is_hand sc_is_hand (fun vs H Q E h => ?_) (fun cdv A outer s H vs Q E hr h => ?_)
  · obtain ⟨a_v_thing, v_thing, F, rfl, _⟩ := h; rfl
  · obtain ⟨a_v_thing, v_thing, F, rfl, him_v_thing, hS, hm⟩ := h
    have hS := hS.addIm him_v_thing
    refine ⟨_, (pss_cons (ps_if (PW.pt (pw_or (pt_not (pt_val (pe_callB (isiK G.K) (by rfl) T.z_isinstance (by decide +kernel) (pa_cons (pv 0) (pa_cons (pe_bltn (v := .ty "str") (by rfl) T.z_str (by decide +kernel) rfl) pa_nil))))) (pw_or1 (pt_not (pt_chain op_le op_le pe_int (pe_callB (lenAnyK G.K) (by rfl) T.z_len PySem.boot_len (pa_cons (pv 0) pa_nil)) (pe_glob (v := .int 8) rfl T.c_MOST_HAND ⟨_, rfl⟩)))))) (pss_one (ps_ret pe_bl)) pss_nil)
      (pss_one (ps_ret (pe_callB (allK G.K rfl) (by rfl) T.z_all (by decide +kernel) (pa_cons (pe_fz (pe_lc (own := [("sign", 1)]) (g := gName 1) rfl nd (pi_str (pv 0)) (blkOk_by (own := [("sign", 1)]) (N := N_is_hand) (sc := defScope s_is_hand) (by decide +kernel)) (fun _ _ _ _ _ => pg_name (i := 1) nd rfl (Or.inl rfl)) (fun _ _ _ _ _ => pts_nil) (fun _ _ _ _ _ => (pe_cmpR op_inSg (pv 1) (pe_glob (v := .str ("abcdefghijklmnopqrstuvwxyz" : Str)) rfl T.c_SMALL ⟨_, rfl⟩) (by rfl))))) pa_nil))))), ?_⟩
    unfold m_is_hand at hm
    refine f_seq ?_
    refine f_if ?_
    refine f_or ?_
    refine et_to (et_not (et_B (ev_isAny (ev_var rfl) ev_c (hS.im (i := 0) rfl) (by decide)))) ?_
    refine orK_J hm hS (fun hb q hm nx => ?_) (fun b1 H hm hS => ?_)
    ·
      obtain ⟨n2, hn2, hm⟩ := wp_lenA hm
      refine et_to (et_not (et_test (ev_chainB (a := decide (1 ≤ n2)) (b := decide (n2 ≤ 8)) ev_c (ev_lenA (ev_var rfl) (hS.im (i := 0) rfl) hn2) (fun _ => ev_c) (fun Q q => r_I0 Q q) (fun _ Q q => r_I0 Q q)))) ?_
      exact nx _ _ hm (hS.sel [0, 1] (by decide) rfl)
    ·
      obtain ⟨hy, hn⟩ := R.wp_if hm
      refine ifK_2 (fun hb3 => ?_) (fun hb3 => ?_)
      · have hm := hy hb3
        refine c_ret ?_
        refine ev_to ev_c ?_
        exact hm _ (hS.sel [1] (by decide) rfl)
      · have hm := hn (by rw [hb3]; decide)
        refine st_nx ?_
        refine sq_nx ?_
        refine c_ret ?_
        refine c_cb ?_
        refine c_cons ?_
        refine c_fz ?_
        refine c_lc ?_
        refine c_is ?_
        obtain ⟨s4, hs5, hm⟩ := Ml.wp_asStr hm
        have hv6 := v_str (hS.im (i := 0) rfl) hs5
        subst hv6
        refine ev_to (ev_var rfl) ?_
        refine k_is ?_
        obtain ⟨h7, hm⟩ := R.wp_need hm
        refine lc_sep (β := Bool) (fun (_ : Unit) => ([imA (.str (s4)) (v_thing : Any), F] : List (Asn G))) (s := ()) (im := (fun _ v (c : Nat) => v = .str (sg c))) hS (fun _ _ _ => wk_str) h7 hm (fun p8 _ ys11 x9 v10 H q Nx hS hx hm kS kN => ?_) (fun p8 t H hm hS => ?_)
        ·
          cases hx
          refine c_gLc (σ' := [some (.str (s4)), some (.str (sg (x9)))]) rfl rfl ?_
          refine c_yes ?_
          refine ev_to (ev_inSg (c := x9) (ev_var rfl) ev_c) ?_
          exact kS () _ _ _ hm rfl (hS.sel [0, 1, 2] (by decide) rfl)
        · revert hm hS; generalize t = t12; intro hm hS
          refine fz_no ?_
          refine c_nil ?_
          refine ⟨_, _, rfl, (hS.sqF (i := 0) rfl), ?_⟩
          exact hm _ (hS.sel [2] (by decide) rfl)
def sp_is_parts (G : Gx) : Sp := fun vs H Q E => ∃ (a_v_thing : V) (v_thing : Any) (F : Asn G), vs = [a_v_thing] ∧ Im.im G H a_v_thing v_thing ∧ Sep H ([F] : List (Asn G)) ∧ R.wp (m_is_parts v_thing) (fun r => ∀ H', Sep H' ([F] : List (Asn G)) → Q (.bl (r)) H') (fun _ => False)
abbrev N_is_parts : List Str := ["thing"]
theorem sc_is_parts : FnScope N_is_parts ["thing"] (defScope s_is_parts) := ⟨rfl, rfl, rfl, by decide +kernel, rfl, by decide +kernel, by decide +kernel⟩
theorem ok_is_parts (T : Txt G mg) : FnOk P w G.K mg base CX0 6 T.a_is_parts T.fd_is_parts ["thing"] (sp_is_parts G) := by
  have nd := sc_is_parts.nd
  refine Fun.ok T.F_is_parts sc_is_parts (fun vs H Q E h => ?_) (fun cdv A outer s H vs Q E hr h => ?_)
  · obtain ⟨a_v_thing, v_thing, F, rfl, _⟩ := h; rfl
  · obtain ⟨a_v_thing, v_thing, F, rfl, him_v_thing, hS, hm⟩ := h
    have hS := hS.addIm him_v_thing
    refine ⟨_, (pss_cons (ps_try_only rfl rfl ⟨rfl, by decide, .inl T.g_NoLetter⟩ takes0 (fun W pn xe tk po => (pss_one (ps_expr (pe_callSD (ok_letter_of T) (hr.mono (by decide)) rfl T.g_letter_of T.kp_letter_of T.b_letter_of .nil (fun σ => passAt tk σ) (pa_cons (pv 0) pa_nil))))) (fun a oe cls d pn _ _ => (pss_one (ps_ret pe_bl))))
      (pss_one (ps_ret pe_bl))), ?_⟩
    unfold m_is_parts at hm
    refine f_seq ?_
    refine c_drop ?_
    refine c_callSD ?_
    refine ea_to (ea_cons (ev_var rfl) ea_nil) ?_
    refine ⟨a_v_thing, (v_thing : Any), star [imA a_v_thing (v_thing : Any), F], rfl, (hS.im (i := 0) rfl), Sep.unstar (M := []) (hS.sel [0, 1] (by decide) rfl : Sep H (([] ++ [imA a_v_thing (v_thing : Any), F] : List (Asn G)))), R.wp_mono (R.wp_tryC hm) (fun r1 hm p2 H hS => ?_) (fun x hx H hS => ?_)⟩
    ·
      have hS : Sep H ([imA (.ref p2) (r1 : Letter), imA a_v_thing (v_thing : Any), F] : List (Asn G)) := Sep.star (M := [imA (.ref p2) (r1 : Letter)]) hS
      refine sq_nx ?_
      refine c_ret ?_
      refine ev_to ev_c ?_
      exact hm _ (hS.sel [2] (by decide) rfl)
    ·
      have hS : Sep H ([imA a_v_thing (v_thing : Any), F] : List (Asn G)) := Sep.star (M := []) hS
      refine w_only (fun z => T.ex_NoLetter z) hx (fun hm ea na => ?_) (fun hm => ?_)
      ·
        refine c_ret ?_
        refine ev_to ev_c ?_
        exact hm _ (hS.sel [1] (by decide) rfl)
      ·
        exact hm.elim
def sp_is_deed (G : Gx) : Sp := fun vs H Q E => ∃ (a_v_thing : V) (v_thing : Any) (F : Asn G), vs = [a_v_thing] ∧ Im.im G H a_v_thing v_thing ∧ Sep H ([F] : List (Asn G)) ∧ R.wp (m_is_deed v_thing) (fun r => ∀ H', Sep H' ([F] : List (Asn G)) → Q (.bl (r)) H') (fun _ => False)
abbrev N_is_deed : List Str := ["thing"]
theorem sc_is_deed : FnScope N_is_deed ["thing"] (defScope s_is_deed) := ⟨rfl, rfl, rfl, by decide +kernel, rfl, by decide +kernel, by decide +kernel⟩
theorem ok_is_deed (T : Txt G mg) : FnOk P w G.K mg base CX0 7 T.a_is_deed T.fd_is_deed ["thing"] (sp_is_deed G) := by
  have nd := sc_is_deed.nd
  refine Fun.ok T.F_is_deed sc_is_deed (fun vs H Q E h => ?_) (fun cdv A outer s H vs Q E hr h => ?_)
  · obtain ⟨a_v_thing, v_thing, F, rfl, _⟩ := h; rfl
  · obtain ⟨a_v_thing, v_thing, F, rfl, him_v_thing, hS, hm⟩ := h
    have hS := hS.addIm him_v_thing
    refine ⟨_, (pss_cons (ps_if (PW.pt (pw_or (pt_not (pt_val (pe_callB (isiK G.K) (by rfl) T.z_isinstance (by decide +kernel) (pa_cons (pv 0) (pa_cons (pe_bltn (v := .ty "tuple") (by rfl) T.z_tuple (by decide +kernel) rfl) pa_nil))))) (pw_or (pt_cmpR op_lt (pe_callB (lenAnyK G.K) (by rfl) T.z_len PySem.boot_len (pa_cons (pv 0) pa_nil)) pe_int (nomark _)) (pw_or (pt_not (pt_val (pe_callB (isiK G.K) (by rfl) T.z_isinstance (by decide +kernel) (pa_cons (pe_ix (ix_tupK G.K) (pv 0) pe_int (fun _ _ => rfl)) (pa_cons (pe_bltn (v := .ty "str") (by rfl) T.z_str (by decide +kernel) rfl) pa_nil))))) (pw_or1 (pt_not (pt_val (pe_call (ok_is_word T) (hr.mono (by decide)) rfl T.g_is_word T.kp_is_word T.b_is_word .nil pass0 (pa_cons (pe_ix (ix_tupK G.K) (pv 0) pe_int (fun _ _ => rfl)) pa_nil))))))))) (pss_one (ps_ret pe_bl)) pss_nil)
      (pss_cons (ps_if (pt_cmpR (eqDK G.K hr.units) (pe_ix (ix_tupK G.K) (pv 0) pe_int (fun _ _ => rfl)) pe_str (nomark _)) (pss_one (ps_ret (pe_cmpR op_eq (pe_callB (lenAnyK G.K) (by rfl) T.z_len PySem.boot_len (pa_cons (pv 0) pa_nil)) pe_int (nomark _)))) pss_nil)
      (pss_cons (ps_if (pt_cmpR (eqDK G.K hr.units) (pe_ix (ix_tupK G.K) (pv 0) pe_int (fun _ _ => rfl)) pe_str (nomark _)) (pss_one (ps_ret (pe_and (pe_cmpR op_eq (pe_callB (lenAnyK G.K) (by rfl) T.z_len PySem.boot_len (pa_cons (pv 0) pa_nil)) pe_int (nomark _)) (pe_one (pe_call (ok_is_parts T) (hr.mono (by decide)) rfl T.g_is_parts T.kp_is_parts T.b_is_parts .nil pass0 (pa_cons (pe_ix (ix_tupK G.K) (pv 0) pe_int (fun _ _ => rfl)) pa_nil)))))) pss_nil)
      (pss_cons (ps_if (pt_cmpR (eqDK G.K hr.units) (pe_ix (ix_tupK G.K) (pv 0) pe_int (fun _ _ => rfl)) pe_str (nomark _)) (pss_one (ps_ret (pe_and (pe_cmpR op_eq (pe_callB (lenAnyK G.K) (by rfl) T.z_len PySem.boot_len (pa_cons (pv 0) pa_nil)) pe_int (nomark _)) (pe_one (pe_call (ok_is_word T) (hr.mono (by decide)) rfl T.g_is_word T.kp_is_word T.b_is_word .nil pass0 (pa_cons (pe_ix (ix_tupK G.K) (pv 0) pe_int (fun _ _ => rfl)) pa_nil)))))) pss_nil)
      (pss_one (ps_ret (pe_and (pe_cmpR (eqDK G.K hr.units) (pe_ix (ix_tupK G.K) (pv 0) pe_int (fun _ _ => rfl)) pe_str (nomark _)) (pe_and (pe_cmpR op_eq (pe_callB (lenAnyK G.K) (by rfl) T.z_len PySem.boot_len (pa_cons (pv 0) pa_nil)) pe_int (nomark _)) (pe_and (pe_call (ok_is_word T) (hr.mono (by decide)) rfl T.g_is_word T.kp_is_word T.b_is_word .nil pass0 (pa_cons (pe_ix (ix_tupK G.K) (pv 0) pe_int (fun _ _ => rfl)) pa_nil)) (pe_one (pe_callB (isiK G.K) (by rfl) T.z_isinstance (by decide +kernel) (pa_cons (pe_ix (ix_tupK G.K) (pv 0) pe_int (fun _ _ => rfl)) (pa_cons (pe_bltn (v := .ty "bool") (by rfl) T.z_bool (by decide +kernel) rfl) pa_nil))))))))))))), ?_⟩
    unfold m_is_deed at hm
    refine f_seq ?_
    refine f_if ?_
    refine f_or ?_
    refine et_to (et_not (et_B (ev_isAny (ev_var rfl) ev_c (hS.im (i := 0) rfl) (by decide)))) ?_
    refine orK_J hm hS (fun hb q hm nx => ?_) (fun b1 H hm hS => ?_)
    ·
      refine f_or ?_
      obtain ⟨n2, hn2, hm⟩ := wp_lenA hm
      refine et_to (et_test (ev_i0 (ev_lenA (ev_var rfl) (hS.im (i := 0) rfl) hn2) ev_c)) ?_
      refine orK_J hm hS (fun hb q hm nx => ?_) (fun b3 H hm hS => ?_)
      ·
        refine f_or ?_
        obtain ⟨xs4, h5, hm⟩ := Ml.wp_asTup hm
        obtain ⟨x6, hx6, hm⟩ := wp_idx hm
        obtain ⟨a7, vs8, he9, hg10, hM11⟩ := any_tupE (hS.im (i := 0) rfl) h5
        obtain ⟨u12, hu13, hi14⟩ := atI_im hM11 hx6
        refine et_to (et_not (et_B (ev_isAny (ev_ixT (ev_is (ev_var rfl) he9) ev_c hg10 hu13) ev_c hi14 (by decide)))) ?_
        refine orK_J hm hS (fun hb q hm nx => ?_) (fun b15 H hm hS => ?_)
        ·
          refine f_not ?_
          refine f_B ?_
          refine c_call ?_
          obtain ⟨xs16, h17, hm⟩ := Ml.wp_asTup hm
          obtain ⟨x18, hx18, hm⟩ := wp_idx hm
          obtain ⟨a19, vs20, he21, hg22, hM23⟩ := any_tupE (hS.im (i := 0) rfl) h17
          obtain ⟨u24, hu25, hi26⟩ := atI_im hM23 hx18
          refine ea_to (ea_cons (ev_ixT (ev_is (ev_var rfl) he21) ev_c hg22 hu25) ea_nil) ?_
          have hS := hS.addIm (v := u24) (x := (x18 : Any)) hi26
          refine ⟨u24, (x18 : Any), star [imA u24 (x18 : Any), imA a_v_thing (v_thing : Any), F], rfl, (hS.im (i := 0) rfl), Sep.unstar (M := []) (hS.sel [0, 1, 2] (by decide) rfl : Sep H (([] ++ [imA u24 (x18 : Any), imA a_v_thing (v_thing : Any), F] : List (Asn G)))), R.wp_mono (R.wp_bind hm) (fun r28 hm H hS => ?_) (fun _ z => z)⟩
          have hS : Sep H ([imA u24 (x18 : Any), imA a_v_thing (v_thing : Any), F] : List (Asn G)) := Sep.star (M := []) hS
          refine f_bl ?_
          refine f_nK ?_
          exact nx _ _ hm (hS.sel [1, 2] (by decide) rfl)
        ·
          exact nx _ _ hm (hS.sel [0, 1] (by decide) rfl)
      ·
        exact nx _ _ hm (hS.sel [0, 1] (by decide) rfl)
    ·
      obtain ⟨hy, hn⟩ := R.wp_if hm
      refine ifK_2 (fun hb29 => ?_) (fun hb29 => ?_)
      · have hm := hy hb29
        refine c_ret ?_
        refine ev_to ev_c ?_
        exact hm _ (hS.sel [1] (by decide) rfl)
      · have hm := hn (by rw [hb29]; decide)
        refine st_nx ?_
        refine sq_nx ?_
        refine f_seq ?_
        refine f_if ?_
        obtain ⟨xs30, h31, hm⟩ := Ml.wp_asTup hm
        obtain ⟨x32, hx32, hm⟩ := wp_idx hm
        obtain ⟨a33, vs34, he35, hg36, hM37⟩ := any_tupE (hS.im (i := 0) rfl) h31
        obtain ⟨u38, hu39, hi40⟩ := atI_im hM37 hx32
        obtain ⟨b41, hb41, hm⟩ := wp_eqA hm
        refine et_to (et_test (ev_eqA (ev_ixT (ev_is (ev_var rfl) he35) ev_c hg36 hu39) ev_c hi40 (any_str.mpr rfl) hb41)) ?_
        obtain ⟨hy, hn⟩ := R.wp_if hm
        refine ifK_2 (fun hb42 => ?_) (fun hb42 => ?_)
        · have hm := hy hb42
          refine c_ret ?_
          obtain ⟨n43, hn43, hm⟩ := wp_lenA hm
          refine ev_to (ev_eqI (ev_lenA (ev_var rfl) (hS.im (i := 0) rfl) hn43) ev_c) ?_
          exact hm _ (hS.sel [1] (by decide) rfl)
        · have hm := hn (by rw [hb42]; decide)
          refine st_nx ?_
          refine sq_nx ?_
          refine f_seq ?_
          refine f_if ?_
          obtain ⟨xs44, h45, hm⟩ := Ml.wp_asTup hm
          obtain ⟨x46, hx46, hm⟩ := wp_idx hm
          obtain ⟨a47, vs48, he49, hg50, hM51⟩ := any_tupE (hS.im (i := 0) rfl) h45
          obtain ⟨u52, hu53, hi54⟩ := atI_im hM51 hx46
          obtain ⟨b55, hb55, hm⟩ := wp_eqA hm
          refine et_to (et_test (ev_eqA (ev_ixT (ev_is (ev_var rfl) he49) ev_c hg50 hu53) ev_c hi54 (any_str.mpr rfl) hb55)) ?_
          obtain ⟨hy, hn⟩ := R.wp_if hm
          refine ifK_2 (fun hb56 => ?_) (fun hb56 => ?_)
          · have hm := hy hb56
            refine c_ret ?_
            refine f_andV ?_
            obtain ⟨n57, hn57, hm⟩ := wp_lenA hm
            refine ev_to (ev_eqI (ev_lenA (ev_var rfl) (hS.im (i := 0) rfl) hn57) ev_c) ?_
            refine andVK_J hm hS (fun hb q hm nx => ?_) (fun b58 H hm hS => ?_)
            ·
              refine c_call ?_
              obtain ⟨xs59, h60, hm⟩ := Ml.wp_asTup hm
              obtain ⟨x61, hx61, hm⟩ := wp_idx hm
              obtain ⟨a62, vs63, he64, hg65, hM66⟩ := any_tupE (hS.im (i := 0) rfl) h60
              obtain ⟨u67, hu68, hi69⟩ := atI_im hM66 hx61
              refine ea_to (ea_cons (ev_ixT (ev_is (ev_var rfl) he64) ev_c hg65 hu68) ea_nil) ?_
              have hS := hS.addIm (v := u67) (x := (x61 : Any)) hi69
              refine ⟨u67, (x61 : Any), star [imA u67 (x61 : Any), imA a_v_thing (v_thing : Any), F], rfl, (hS.im (i := 0) rfl), Sep.unstar (M := []) (hS.sel [0, 1, 2] (by decide) rfl : Sep H (([] ++ [imA u67 (x61 : Any), imA a_v_thing (v_thing : Any), F] : List (Asn G)))), R.wp_mono (R.wp_bind hm) (fun r71 hm H hS => ?_) (fun _ z => z)⟩
              have hS : Sep H ([imA u67 (x61 : Any), imA a_v_thing (v_thing : Any), F] : List (Asn G)) := Sep.star (M := []) hS
              exact nx _ _ hm (hS.sel [1, 2] (by decide) rfl)
            ·
              exact hm _ (hS.sel [1] (by decide) rfl)
          · have hm := hn (by rw [hb56]; decide)
            refine st_nx ?_
            refine sq_nx ?_
            refine f_seq ?_
            refine f_if ?_
            obtain ⟨xs72, h73, hm⟩ := Ml.wp_asTup hm
            obtain ⟨x74, hx74, hm⟩ := wp_idx hm
            obtain ⟨a75, vs76, he77, hg78, hM79⟩ := any_tupE (hS.im (i := 0) rfl) h73
            obtain ⟨u80, hu81, hi82⟩ := atI_im hM79 hx74
            obtain ⟨b83, hb83, hm⟩ := wp_eqA hm
            refine et_to (et_test (ev_eqA (ev_ixT (ev_is (ev_var rfl) he77) ev_c hg78 hu81) ev_c hi82 (any_str.mpr rfl) hb83)) ?_
            obtain ⟨hy, hn⟩ := R.wp_if hm
            refine ifK_2 (fun hb84 => ?_) (fun hb84 => ?_)
            · have hm := hy hb84
              refine c_ret ?_
              refine f_andV ?_
              obtain ⟨n85, hn85, hm⟩ := wp_lenA hm
              refine ev_to (ev_eqI (ev_lenA (ev_var rfl) (hS.im (i := 0) rfl) hn85) ev_c) ?_
              refine andVK_J hm hS (fun hb q hm nx => ?_) (fun b86 H hm hS => ?_)
              ·
                refine c_call ?_
                obtain ⟨xs87, h88, hm⟩ := Ml.wp_asTup hm
                obtain ⟨x89, hx89, hm⟩ := wp_idx hm
                obtain ⟨a90, vs91, he92, hg93, hM94⟩ := any_tupE (hS.im (i := 0) rfl) h88
                obtain ⟨u95, hu96, hi97⟩ := atI_im hM94 hx89
                refine ea_to (ea_cons (ev_ixT (ev_is (ev_var rfl) he92) ev_c hg93 hu96) ea_nil) ?_
                have hS := hS.addIm (v := u95) (x := (x89 : Any)) hi97
                refine ⟨u95, (x89 : Any), star [imA u95 (x89 : Any), imA a_v_thing (v_thing : Any), F], rfl, (hS.im (i := 0) rfl), Sep.unstar (M := []) (hS.sel [0, 1, 2] (by decide) rfl : Sep H (([] ++ [imA u95 (x89 : Any), imA a_v_thing (v_thing : Any), F] : List (Asn G)))), R.wp_mono (R.wp_bind hm) (fun r99 hm H hS => ?_) (fun _ z => z)⟩
                have hS : Sep H ([imA u95 (x89 : Any), imA a_v_thing (v_thing : Any), F] : List (Asn G)) := Sep.star (M := []) hS
                exact nx _ _ hm (hS.sel [1, 2] (by decide) rfl)
              ·
                exact hm _ (hS.sel [1] (by decide) rfl)
            · have hm := hn (by rw [hb84]; decide)
              refine st_nx ?_
              refine sq_nx ?_
              refine c_ret ?_
              refine f_andV ?_
              obtain ⟨xs100, h101, hm⟩ := Ml.wp_asTup hm
              obtain ⟨x102, hx102, hm⟩ := wp_idx hm
              obtain ⟨a103, vs104, he105, hg106, hM107⟩ := any_tupE (hS.im (i := 0) rfl) h101
              obtain ⟨u108, hu109, hi110⟩ := atI_im hM107 hx102
              obtain ⟨b111, hb111, hm⟩ := wp_eqA hm
              refine ev_to (ev_eqA (ev_ixT (ev_is (ev_var rfl) he105) ev_c hg106 hu109) ev_c hi110 (any_str.mpr rfl) hb111) ?_
              refine andVK_J hm hS (fun hb q hm nx => ?_) (fun b112 H hm hS => ?_)
              ·
                refine f_andV ?_
                obtain ⟨n113, hn113, hm⟩ := wp_lenA hm
                refine ev_to (ev_eqI (ev_lenA (ev_var rfl) (hS.im (i := 0) rfl) hn113) ev_c) ?_
                refine andVK_J hm hS (fun hb q hm nx => ?_) (fun b114 H hm hS => ?_)
                ·
                  refine f_andV ?_
                  refine c_call ?_
                  obtain ⟨xs115, h116, hm⟩ := Ml.wp_asTup hm
                  obtain ⟨x117, hx117, hm⟩ := wp_idx hm
                  obtain ⟨a118, vs119, he120, hg121, hM122⟩ := any_tupE (hS.im (i := 0) rfl) h116
                  obtain ⟨u123, hu124, hi125⟩ := atI_im hM122 hx117
                  refine ea_to (ea_cons (ev_ixT (ev_is (ev_var rfl) he120) ev_c hg121 hu124) ea_nil) ?_
                  have hS := hS.addIm (v := u123) (x := (x117 : Any)) hi125
                  refine ⟨u123, (x117 : Any), star [imA u123 (x117 : Any), imA a_v_thing (v_thing : Any), F], rfl, (hS.im (i := 0) rfl), Sep.unstar (M := []) (hS.sel [0, 1, 2] (by decide) rfl : Sep H (([] ++ [imA u123 (x117 : Any), imA a_v_thing (v_thing : Any), F] : List (Asn G)))), R.wp_mono (R.wp_bind hm) (fun r127 hm H hS => ?_) (fun _ z => z)⟩
                  have hS : Sep H ([imA u123 (x117 : Any), imA a_v_thing (v_thing : Any), F] : List (Asn G)) := Sep.star (M := []) hS
                  refine andVK_J hm hS (fun hb q hm nx => ?_) (fun b128 H hm hS => ?_)
                  ·
                    obtain ⟨xs129, h130, hm⟩ := Ml.wp_asTup hm
                    obtain ⟨x131, hx131, hm⟩ := wp_idx hm
                    obtain ⟨a132, vs133, he134, hg135, hM136⟩ := any_tupE (hS.im (i := 1) rfl) h130
                    obtain ⟨u137, hu138, hi139⟩ := atI_im hM136 hx131
                    refine ev_to (ev_isAny (ev_ixT (ev_is (ev_var rfl) he134) ev_c hg135 hu138) ev_c hi139 (by decide)) ?_
                    exact nx _ _ hm (hS.sel [0, 1, 2] (by decide) rfl)
                  ·
                    exact nx _ _ hm (hS.sel [1, 2] (by decide) rfl)
                ·
                  exact nx _ _ hm (hS.sel [0, 1] (by decide) rfl)
              ·
                exact hm _ (hS.sel [1] (by decide) rfl)
def sp_is_stamped (G : Gx) : Sp := fun vs H Q E => ∃ (a_v_thing : V) (v_thing : Any) (F : Asn G), vs = [a_v_thing] ∧ Im.im G H a_v_thing v_thing ∧ Sep H ([F] : List (Asn G)) ∧ R.wp (m_is_stamped v_thing) (fun r => ∀ H', Sep H' ([F] : List (Asn G)) → Q (.bl (r)) H') (fun _ => False)
abbrev N_is_stamped : List Str := ["thing"]
theorem sc_is_stamped : FnScope N_is_stamped ["thing"] (defScope s_is_stamped) := ⟨rfl, rfl, rfl, by decide +kernel, rfl, by decide +kernel, by decide +kernel⟩
theorem ok_is_stamped (T : Txt G mg) : FnOk P w G.K mg base CX0 8 T.a_is_stamped T.fd_is_stamped ["thing"] (sp_is_stamped G) := by
  have nd := sc_is_stamped.nd
  refine Fun.ok T.F_is_stamped sc_is_stamped (fun vs H Q E h => ?_) (fun cdv A outer s H vs Q E hr h => ?_)
  · obtain ⟨a_v_thing, v_thing, F, rfl, _⟩ := h; rfl
  · obtain ⟨a_v_thing, v_thing, F, rfl, him_v_thing, hS, hm⟩ := h
    have hS := hS.addIm him_v_thing
    refine ⟨_, (pss_cons (ps_if (PW.pt (pw_or (pt_not (pt_val (pe_callB (isiK G.K) (by rfl) T.z_isinstance (by decide +kernel) (pa_cons (pv 0) (pa_cons (pe_bltn (v := .ty "tuple") (by rfl) T.z_tuple (by decide +kernel) rfl) pa_nil))))) (pw_or1 (pt_cmpR op_ne (pe_callB (lenAnyK G.K) (by rfl) T.z_len PySem.boot_len (pa_cons (pv 0) pa_nil)) pe_int (nomark _))))) (pss_one (ps_ret pe_bl)) pss_nil)
      (pss_one (ps_ret (pe_and (pe_call (ok_is_count T) (hr.mono (by decide)) rfl T.g_is_count T.kp_is_count T.b_is_count .nil pass0 (pa_cons (pe_ix (ix_tupK G.K) (pv 0) pe_int (fun _ _ => rfl)) pa_nil)) (pe_and (pe_call (ok_is_hand T) (hr.mono (by decide)) rfl T.g_is_hand T.kp_is_hand T.b_is_hand .nil pass0 (pa_cons (pe_ix (ix_tupK G.K) (pv 0) pe_int (fun _ _ => rfl)) pa_nil)) (pe_and (pe_call (ok_is_count T) (hr.mono (by decide)) rfl T.g_is_count T.kp_is_count T.b_is_count .nil pass0 (pa_cons (pe_ix (ix_tupK G.K) (pv 0) pe_int (fun _ _ => rfl)) pa_nil)) (pe_one (pe_call (ok_is_deed T) (hr.mono (by decide)) rfl T.g_is_deed T.kp_is_deed T.b_is_deed .nil pass0 (pa_cons (pe_ix (ix_tupK G.K) (pv 0) pe_int (fun _ _ => rfl)) pa_nil))))))))), ?_⟩
    unfold m_is_stamped at hm
    refine f_seq ?_
    refine f_if ?_
    refine f_or ?_
    refine et_to (et_not (et_B (ev_isAny (ev_var rfl) ev_c (hS.im (i := 0) rfl) (by decide)))) ?_
    refine orK_J hm hS (fun hb q hm nx => ?_) (fun b1 H hm hS => ?_)
    ·
      obtain ⟨n2, hn2, hm⟩ := wp_lenA hm
      refine et_to (et_test (ev_neI (ev_lenA (ev_var rfl) (hS.im (i := 0) rfl) hn2) ev_c)) ?_
      exact nx _ _ hm (hS.sel [0, 1] (by decide) rfl)
    ·
      obtain ⟨hy, hn⟩ := R.wp_if hm
      refine ifK_2 (fun hb3 => ?_) (fun hb3 => ?_)
      · have hm := hy hb3
        refine c_ret ?_
        refine ev_to ev_c ?_
        exact hm _ (hS.sel [1] (by decide) rfl)
      · have hm := hn (by rw [hb3]; decide)
        refine st_nx ?_
        refine sq_nx ?_
        refine c_ret ?_
        refine f_andV ?_
        refine c_call ?_
        obtain ⟨xs4, h5, hm⟩ := Ml.wp_asTup hm
        obtain ⟨x6, hx6, hm⟩ := wp_idx hm
        obtain ⟨a7, vs8, he9, hg10, hM11⟩ := any_tupE (hS.im (i := 0) rfl) h5
        obtain ⟨u12, hu13, hi14⟩ := atI_im hM11 hx6
        refine ea_to (ea_cons (ev_ixT (ev_is (ev_var rfl) he9) ev_c hg10 hu13) ea_nil) ?_
        have hS := hS.addIm (v := u12) (x := (x6 : Any)) hi14
        refine ⟨u12, (x6 : Any), star [imA u12 (x6 : Any), imA a_v_thing (v_thing : Any), F], rfl, (hS.im (i := 0) rfl), Sep.unstar (M := []) (hS.sel [0, 1, 2] (by decide) rfl : Sep H (([] ++ [imA u12 (x6 : Any), imA a_v_thing (v_thing : Any), F] : List (Asn G)))), R.wp_mono (R.wp_bind hm) (fun r16 hm H hS => ?_) (fun _ z => z)⟩
        have hS : Sep H ([imA u12 (x6 : Any), imA a_v_thing (v_thing : Any), F] : List (Asn G)) := Sep.star (M := []) hS
        refine andVK_J hm hS (fun hb q hm nx => ?_) (fun b17 H hm hS => ?_)
        ·
          refine f_andV ?_
          refine c_call ?_
          obtain ⟨xs18, h19, hm⟩ := Ml.wp_asTup hm
          obtain ⟨x20, hx20, hm⟩ := wp_idx hm
          obtain ⟨a21, vs22, he23, hg24, hM25⟩ := any_tupE (hS.im (i := 1) rfl) h19
          obtain ⟨u26, hu27, hi28⟩ := atI_im hM25 hx20
          refine ea_to (ea_cons (ev_ixT (ev_is (ev_var rfl) he23) ev_c hg24 hu27) ea_nil) ?_
          have hS := hS.addIm (v := u26) (x := (x20 : Any)) hi28
          refine ⟨u26, (x20 : Any), star [imA u26 (x20 : Any), imA u12 (x6 : Any), imA a_v_thing (v_thing : Any), F], rfl, (hS.im (i := 0) rfl), Sep.unstar (M := []) (hS.sel [0, 1, 2, 3] (by decide) rfl : Sep H (([] ++ [imA u26 (x20 : Any), imA u12 (x6 : Any), imA a_v_thing (v_thing : Any), F] : List (Asn G)))), R.wp_mono (R.wp_bind hm) (fun r30 hm H hS => ?_) (fun _ z => z)⟩
          have hS : Sep H ([imA u26 (x20 : Any), imA u12 (x6 : Any), imA a_v_thing (v_thing : Any), F] : List (Asn G)) := Sep.star (M := []) hS
          refine andVK_J hm hS (fun hb q hm nx => ?_) (fun b31 H hm hS => ?_)
          ·
            refine f_andV ?_
            refine c_call ?_
            obtain ⟨xs32, h33, hm⟩ := Ml.wp_asTup hm
            obtain ⟨x34, hx34, hm⟩ := wp_idx hm
            obtain ⟨a35, vs36, he37, hg38, hM39⟩ := any_tupE (hS.im (i := 2) rfl) h33
            obtain ⟨u40, hu41, hi42⟩ := atI_im hM39 hx34
            refine ea_to (ea_cons (ev_ixT (ev_is (ev_var rfl) he37) ev_c hg38 hu41) ea_nil) ?_
            have hS := hS.addIm (v := u40) (x := (x34 : Any)) hi42
            refine ⟨u40, (x34 : Any), star [imA u40 (x34 : Any), imA u26 (x20 : Any), imA u12 (x6 : Any), imA a_v_thing (v_thing : Any), F], rfl, (hS.im (i := 0) rfl), Sep.unstar (M := []) (hS.sel [0, 1, 2, 3, 4] (by decide) rfl : Sep H (([] ++ [imA u40 (x34 : Any), imA u26 (x20 : Any), imA u12 (x6 : Any), imA a_v_thing (v_thing : Any), F] : List (Asn G)))), R.wp_mono (R.wp_bind hm) (fun r44 hm H hS => ?_) (fun _ z => z)⟩
            have hS : Sep H ([imA u40 (x34 : Any), imA u26 (x20 : Any), imA u12 (x6 : Any), imA a_v_thing (v_thing : Any), F] : List (Asn G)) := Sep.star (M := []) hS
            refine andVK_J hm hS (fun hb q hm nx => ?_) (fun b45 H hm hS => ?_)
            ·
              refine c_call ?_
              obtain ⟨xs46, h47, hm⟩ := Ml.wp_asTup hm
              obtain ⟨x48, hx48, hm⟩ := wp_idx hm
              obtain ⟨a49, vs50, he51, hg52, hM53⟩ := any_tupE (hS.im (i := 3) rfl) h47
              obtain ⟨u54, hu55, hi56⟩ := atI_im hM53 hx48
              refine ea_to (ea_cons (ev_ixT (ev_is (ev_var rfl) he51) ev_c hg52 hu55) ea_nil) ?_
              have hS := hS.addIm (v := u54) (x := (x48 : Any)) hi56
              refine ⟨u54, (x48 : Any), star [imA u54 (x48 : Any), imA u40 (x34 : Any), imA u26 (x20 : Any), imA u12 (x6 : Any), imA a_v_thing (v_thing : Any), F], rfl, (hS.im (i := 0) rfl), Sep.unstar (M := []) (hS.sel [0, 1, 2, 3, 4, 5] (by decide) rfl : Sep H (([] ++ [imA u54 (x48 : Any), imA u40 (x34 : Any), imA u26 (x20 : Any), imA u12 (x6 : Any), imA a_v_thing (v_thing : Any), F] : List (Asn G)))), R.wp_mono (R.wp_bind hm) (fun r58 hm H hS => ?_) (fun _ z => z)⟩
              have hS : Sep H ([imA u54 (x48 : Any), imA u40 (x34 : Any), imA u26 (x20 : Any), imA u12 (x6 : Any), imA a_v_thing (v_thing : Any), F] : List (Asn G)) := Sep.star (M := []) hS
              exact nx _ _ hm (hS.sel [1, 2, 3, 4, 5] (by decide) rfl)
            ·
              exact nx _ _ hm (hS.sel [1, 2, 3, 4] (by decide) rfl)
          ·
            exact nx _ _ hm (hS.sel [1, 2, 3] (by decide) rfl)
        ·
          exact hm _ (hS.sel [2] (by decide) rfl)
def sp_stamp_of (G : Gx) : Sp := fun vs H Q E => ∃ (a_v_stamped : Addr) (v_stamped : (T4 Int Str Int Any)) (F : Asn G), vs = [(.ref a_v_stamped)] ∧ Im.im G H (.ref a_v_stamped) v_stamped ∧ Sep H ([F] : List (Asn G)) ∧ R.wp (m_stamp_of v_stamped) (fun r => ∀ (p : Addr) H', Sep H' ([imA (.ref p) (r : (Int × Str)), F] : List (Asn G)) → Q (.ref p) H') (fun _ => False)
abbrev N_stamp_of : List Str := ["stamped"]
theorem sc_stamp_of : FnScope N_stamp_of ["stamped"] (defScope s_stamp_of) := ⟨rfl, rfl, rfl, by decide +kernel, rfl, by decide +kernel, by decide +kernel⟩
theorem ok_stamp_of (T : Txt G mg) : FnOk P w G.K mg base CX0 1 T.a_stamp_of T.fd_stamp_of ["stamped"] (sp_stamp_of G) := by
  have nd := sc_stamp_of.nd
  refine Fun.ok T.F_stamp_of sc_stamp_of (fun vs H Q E h => ?_) (fun cdv A outer s H vs Q E hr h => ?_)
  · obtain ⟨a_v_stamped, v_stamped, F, rfl, _⟩ := h; rfl
  · obtain ⟨a_v_stamped, v_stamped, F, rfl, him_v_stamped, hS, hm⟩ := h
    have hS := hS.addIm him_v_stamped
    refine ⟨_, (pss_one (ps_ret (pe_tup (pa_cons (pe_ix (ix_tupK G.K) (pv 0) pe_int (fun _ _ => rfl)) (pa_cons (pe_ix (ix_tupK G.K) (pv 0) pe_int (fun _ _ => rfl)) pa_nil))))), ?_⟩
    unfold m_stamp_of at hm
    refine c_ret ?_
    refine c_tup ?_
    obtain ⟨u1, u2, u3, u4, hT9, h5, h6, h7, h8⟩ := im4 (hS.im (i := 0) rfl)
    obtain rfl : u1 = (.int (v_stamped.a)) := h5
    obtain rfl : u2 = (.str (v_stamped.b)) := h6
    obtain rfl : u3 = (.int (v_stamped.c)) := h7
    obtain ⟨u10, u11, u12, u13, hT18, h14, h15, h16, h17⟩ := im4 (hS.im (i := 0) rfl)
    obtain rfl : u10 = (.int (v_stamped.a)) := h14
    obtain rfl : u11 = (.str (v_stamped.b)) := h15
    obtain rfl : u12 = (.int (v_stamped.c)) := h16
    refine ea_to (ea_cons (ev_ixT (ev_var rfl) ev_c hT9 rfl) (ea_cons (ev_ixT (ev_var rfl) ev_c hT18 rfl) ea_nil)) ?_
    refine k_tupP (x := ((v_stamped.a, v_stamped.b) : (Int × Str))) hS (fun H' p h s => mk2 rfl rfl h s) (by show 2 ≤ sizeLine; decide) fun p19 H hS => ?_
    exact hm _ _ (hS.sel [0, 2] (by decide) rfl)
def sp_law_begin (G : Gx) : Sp := fun vs H Q E => ∃ (a_v_law_script : V) (v_law_script : Script) (F : Asn G), vs = [a_v_law_script] ∧ Im.im G H a_v_law_script v_law_script ∧ Sep H ([F] : List (Asn G)) ∧ R.wp (m_law_begin v_law_script) (fun r => ∀ p H', Sep H' ([stA p (r : T3 Int Script Int), F] : List (Asn G)) → Q (.ref p) H') (fun _ => False)
abbrev N_law_begin : List Str := ["_law_script"]
theorem sc_law_begin : FnScope N_law_begin ["_law_script"] (defScope s_law_begin) := ⟨rfl, rfl, rfl, by decide +kernel, rfl, by decide +kernel, by decide +kernel⟩
theorem ok_law_begin (T : Txt G mg) : FnOk P w G.K mg base CX0 1 T.a_law_begin T.fd_law_begin ["_law_script"] (sp_law_begin G) := by
  have nd := sc_law_begin.nd
  refine Fun.ok T.F_law_begin sc_law_begin (fun vs H Q E h => ?_) (fun cdv A outer s H vs Q E hr h => ?_)
  · obtain ⟨a_v_law_script, v_law_script, F, rfl, _⟩ := h; rfl
  · obtain ⟨a_v_law_script, v_law_script, F, rfl, him_v_law_script, hS, hm⟩ := h
    obtain ⟨ad_v_law_script, rfl, _⟩ := im_script him_v_law_script
    have hS := hS.addIm him_v_law_script
    refine ⟨_, (pss_one (ps_ret (pe_fz (pe_lst (pa_cons (pe_op op_add (pe_callB (lenSqK G.K) (by rfl) T.z_len PySem.boot_len (pa_cons (pv 0) pa_nil)) pe_int) (pa_cons (pv 0) (pa_cons pe_int pa_nil))))))), ?_⟩
    unfold m_law_begin at hm
    refine c_ret ?_
    refine c_fz ?_
    refine c_lst ?_
    refine ea_to (ea_cons (ev_add (ev_lenLm (ev_var rfl) (sq_script (hS.im (i := 0) rfl))) ev_c) (ea_cons (ev_var rfl) (ea_cons ev_c ea_nil))) ?_
    refine k_lst (α := StV) (vs := [(.int ((v_law_script.ns.length : Int) + 7)), (.ref ad_v_law_script), (.int (0))]) (xs := stL (⟨(v_law_script.ns.length : Int) + 7, v_law_script, 0⟩ : T3 Int Script Int)) hS ⟨rfl, st_im (hS.im (i := 0) rfl), rfl, True.intro⟩ (by show 3 ≤ sizeLine; decide) fun p1 H hS => ?_
    have hS : Sep H ([stA p1 ((⟨(v_law_script.ns.length : Int) + 7, v_law_script, 0⟩ : T3 Int Script Int) : T3 Int Script Int), imA (.ref ad_v_law_script) v_law_script, F] : List (Asn G)) := hS
    refine fz_no ?_
    exact hm _ _ (hS.sel [0, 2] (by decide) rfl)
def sp_law_next (G : Gx) : Sp := fun vs H Q E => ∃ (a_v_law_state : Addr) (v_law_state : (T3 Int Script Int)) (F : Asn G), vs = [.ref a_v_law_state] ∧ Sep H ([stA a_v_law_state (v_law_state : T3 Int Script Int), F] : List (Asn G)) ∧ R.wp (m_law_next v_law_state) (fun r => ∀ H', Sep H' ([stA a_v_law_state (r.2 : T3 Int Script Int), F] : List (Asn G)) → Q (.int (r.1)) H') (fun _ => False)
abbrev N_law_next : List Str := ["_law_state", "_law_cell"]
theorem sc_law_next : FnScope N_law_next ["_law_state"] (defScope s_law_next) := ⟨rfl, rfl, rfl, by decide +kernel, rfl, by decide +kernel, by decide +kernel⟩
theorem ok_law_next (T : Txt G mg) : FnOk P w G.K mg base CX0 1 T.a_law_next T.fd_law_next ["_law_state"] (sp_law_next G) := by
  have nd := sc_law_next.nd
  refine Fun.ok T.F_law_next sc_law_next (fun vs H Q E h => ?_) (fun cdv A outer s H vs Q E hr h => ?_)
  · obtain ⟨a_v_law_state, v_law_state, F, rfl, _⟩ := h; rfl
  · obtain ⟨a_v_law_state, v_law_state, F, rfl, hS, hm⟩ := h
    refine ⟨_, (pss_cons (ps_set (i := 1) nd rfl (Or.inl rfl) pe_int)
      (pss_cons (ps_if (pt_cmpR op_gt (pe_callB (lenSqK G.K) (by rfl) T.z_len PySem.boot_len (pa_cons (pe_ix (ix_listK G.K) (pv 0) pe_int (fun _ _ => rfl)) pa_nil)) pe_int (nomark _)) (pss_one (ps_set (i := 1) nd rfl (Or.inl rfl) (pe_ix (ix_listK G.K) (pe_ix (ix_listK G.K) (pv 0) pe_int (fun _ _ => rfl)) (pe_op op_mod (pe_ix (ix_listK G.K) (pv 0) pe_int (fun _ _ => rfl)) (pe_callB (lenSqK G.K) (by rfl) T.z_len PySem.boot_len (pa_cons (pe_ix (ix_listK G.K) (pv 0) pe_int (fun _ _ => rfl)) pa_nil))) (fun _ _ => rfl)))) pss_nil)
      (pss_cons (ps_asg (pe_op op_add (pe_ix (ix_listK G.K) (pv 0) pe_int (fun _ _ => rfl)) pe_int) (pg_sub (pv 0) pe_int set_list))
      (pss_cons (ps_asg (pe_op op_mod (pe_op op_add (pe_op op_add (pe_op op_mul (pe_ix (ix_listK G.K) (pv 0) pe_int (fun _ _ => rfl)) pe_int) (pv 1)) (pe_ix (ix_listK G.K) (pv 0) pe_int (fun _ _ => rfl))) pe_int) (pg_sub (pv 0) pe_int set_list))
      (pss_one (ps_ret (pe_op op_fdiv (pe_ix (ix_listK G.K) (pv 0) pe_int (fun _ _ => rfl)) pe_int))))))), ?_⟩
    unfold m_law_next at hm
    refine f_seq ?_
    refine c_asg ?_
    refine ev_to ev_c ?_
    refine c_set (σ' := [some (.ref a_v_law_state), some (.int (0))]) rfl ?_
    refine sq_nx ?_
    refine f_seq ?_
    refine f_if ?_
    obtain ⟨ad1, hq2, hi3⟩ := st_get hS (i := 0) rfl
    refine et_to (et_test (ev_i0 (ev_lenLm (ev_ixSq (ev_var rfl) ev_c hq2 rfl) (sq_script hi3)) ev_c)) ?_
    refine ifK_J (τ := Int) (fun (s4 : Int) (σ : L2.St) (H : Hp) => σ = [some (.ref a_v_law_state), some (.int (s4))] ∧ Sep H ([stA a_v_law_state (v_law_state : T3 Int Script Int), F] : List (Asn G))) hm (fun hb q hm nx => ?_) (fun hb q hm nx => ?_) (fun s4 σ H hm hI => ?_)
    ·
      refine c_asg ?_
      obtain ⟨ad5, hq6, hi7⟩ := st_get hS (i := 0) rfl
      obtain ⟨ad8, hq9, hi10⟩ := st_get hS (i := 0) rfl
      obtain ⟨ad11, hq12, hi13⟩ := st_get hS (i := 0) rfl
      obtain ⟨h14, hm⟩ := R.wp_need hm
      obtain ⟨x15, hx15, hm⟩ := wp_idx hm
      refine ev_to (ev_ixSq (ev_ixSq (ev_var rfl) ev_c hq6 rfl) (ev_mod (ev_ixSq (ev_var rfl) ev_c hq9 rfl) (ev_lenLm (ev_ixSq (ev_var rfl) ev_c hq12 rfl) (sq_script hi13)) h14) (sq_script hi7) (atI_map hx15)) ?_
      refine c_set (σ' := [some (.ref a_v_law_state), some (.int (x15))]) rfl ?_
      exact nx _ _ _ hm ⟨rfl, hS.sel [0, 1] (by decide) rfl⟩
    ·
      refine st_nx ?_
      exact nx _ _ _ hm ⟨rfl, hS.sel [0, 1] (by decide) rfl⟩
    · obtain ⟨rfl, hS⟩ := hI
      refine sq_nx ?_
      refine f_seq ?_
      refine c_asgS ?_
      obtain ⟨ad16, hq17, hi18⟩ := st_get hS (i := 0) rfl
      refine ev_to (ev_add (ev_ixSq (ev_var rfl) ev_c hq17 rfl) ev_c) ?_
      refine ev_to (ev_var rfl) ?_
      refine ev_to ev_c ?_
      refine k_setL (x := StV.i (v_law_state.c + 1)) hS (n := 0) rfl rfl 2 rfl rfl fun H hS => ?_
      have hS : Sep H ([stA a_v_law_state (⟨v_law_state.a, v_law_state.b, v_law_state.c + 1⟩ : T3 Int Script Int), F] : List (Asn G)) := hS
      obtain ⟨y19, hy19, hm⟩ := wp_let hm
      have hS : Sep H ([stA a_v_law_state (y19 : T3 Int Script Int), F] : List (Asn G)) := by rw [← hy19]; exact hS
      refine sq_nx ?_
      refine f_seq ?_
      refine c_asgS ?_
      obtain ⟨ad20, hq21, hi22⟩ := st_get hS (i := 0) rfl
      obtain ⟨ad23, hq24, hi25⟩ := st_get hS (i := 0) rfl
      refine ev_to (ev_mod (ev_add (ev_add (ev_mul (ev_ixSq (ev_var rfl) ev_c hq21 rfl) ev_c (.inr (by constructor <;> decide))) (ev_var rfl)) (ev_ixSq (ev_var rfl) ev_c hq24 rfl)) ev_c (by decide)) ?_
      refine ev_to (ev_var rfl) ?_
      refine ev_to ev_c ?_
      refine k_setL (x := StV.i ((((y19.a * 48271) + s4) + y19.c) % 2147483647)) hS (n := 0) rfl rfl 0 rfl rfl fun H hS => ?_
      have hS : Sep H ([stA a_v_law_state (⟨(((y19.a * 48271) + s4) + y19.c) % 2147483647, y19.b, y19.c⟩ : T3 Int Script Int), F] : List (Asn G)) := hS
      obtain ⟨y26, hy26, hm⟩ := wp_let hm
      have hS : Sep H ([stA a_v_law_state (y26 : T3 Int Script Int), F] : List (Asn G)) := by rw [← hy26]; exact hS
      refine sq_nx ?_
      refine c_ret ?_
      obtain ⟨ad27, hq28, hi29⟩ := st_get hS (i := 0) rfl
      refine ev_to (ev_fdiv (ev_ixSq (ev_var rfl) ev_c hq28 rfl) ev_c ⟨by decide, by decide⟩) ?_
      exact hm _ (hS.sel [0, 1] (by decide) rfl)
def sp_law_word (G : Gx) : Sp := fun vs H Q E => ∃ (a_v_law_state : Addr) (v_law_state : (T3 Int Script Int)) (v_law_signs : Str) (v_law_most : Int) (F : Asn G), vs = [.ref a_v_law_state, (.str (v_law_signs)), (.int (v_law_most))] ∧ Sep H ([stA a_v_law_state (v_law_state : T3 Int Script Int), F] : List (Asn G)) ∧ R.wp (m_law_word v_law_state v_law_signs v_law_most) (fun r => ∀ H', Sep H' ([stA a_v_law_state (r.2 : T3 Int Script Int), F] : List (Asn G)) → Q (.str (r.1)) H') (fun _ => False)
abbrev N_law_word : List Str := ["_law_state", "_law_signs", "_law_most", "_law_size", "_law_k"]
theorem sc_law_word : FnScope N_law_word ["_law_state", "_law_signs", "_law_most"] (defScope s_law_word) := ⟨rfl, rfl, rfl, by decide +kernel, rfl, by decide +kernel, by decide +kernel⟩
theorem ok_law_word (T : Txt G mg) : FnOk P w G.K mg base CX0 2 T.a_law_word T.fd_law_word ["_law_state", "_law_signs", "_law_most"] (sp_law_word G) := by
  have nd := sc_law_word.nd
  refine Fun.ok T.F_law_word sc_law_word (fun vs H Q E h => ?_) (fun cdv A outer s H vs Q E hr h => ?_)
  · obtain ⟨a_v_law_state, v_law_state, v_law_signs, v_law_most, F, rfl, _⟩ := h; rfl
  · obtain ⟨a_v_law_state, v_law_state, v_law_signs, v_law_most, F, rfl, hS, hm⟩ := h
    refine ⟨_, (pss_cons (ps_set (i := 3) nd rfl (Or.inl rfl) (pe_ix (ix_listK G.K) (pe_fz (pe_lst (pa_cons pe_int (pa_cons pe_int (pa_cons (pv 2) (pa_cons (pe_op op_add pe_int (pe_op op_mod (pe_call (ok_law_next T) (hr.mono (by decide)) rfl T.g_law_next T.kp_law_next T.b_law_next .nil pass0 (pa_cons (pv 0) pa_nil)) (pv 2))) pa_nil)))))) (pe_op op_mod (pe_call (ok_law_next T) (hr.mono (by decide)) rfl T.g_law_next T.kp_law_next T.b_law_next .nil pass0 (pa_cons (pv 0) pa_nil)) pe_int) (fun _ _ => rfl)))
      (pss_cons (ps_if (pt_cmpR op_gt (pv 3) (pv 2) (nomark _)) (pss_one (ps_set (i := 3) nd rfl (Or.inl rfl) (pv 2))) pss_nil)
      (pss_one (ps_ret (pe_m1 PySem.F.slot_str_join PySem.F.type_str_join (joinK G.K) pe_str (pe_fz (pe_lc (own := [("_law_k", 4)]) (g := gName 4) rfl nd (pi_range1 rfl T.z_range (pa_cons (pv 3) pa_nil)) (blkOk_by (own := [("_law_k", 4)]) (N := N_law_word) (sc := defScope s_law_word) (by decide +kernel)) (fun _ _ _ _ _ => pg_name (i := 4) nd rfl (Or.inl rfl)) (fun _ _ _ _ _ => pts_nil) (fun _ _ _ _ _ => (pe_ix ix_str (pv 1) (pe_op op_mod (pe_call (ok_law_next T) (hr.mono (by decide)) rfl T.g_law_next T.kp_law_next T.b_law_next .nil pass0 (pa_cons (pv 0) pa_nil)) (pe_callB call_lenS (by rfl) T.z_len PySem.boot_len (pa_cons (pv 1) pa_nil))) (fun _ _ => rfl)))))))))), ?_⟩
    unfold m_law_word at hm
    refine f_seq ?_
    refine c_asg ?_
    refine c_op ?_
    refine c_fz ?_
    refine c_lst ?_
    refine c_cons ?_
    refine ev_to ev_c ?_
    refine c_cons ?_
    refine ev_to ev_c ?_
    refine c_cons ?_
    refine ev_to (ev_var rfl) ?_
    refine c_cons ?_
    refine c_op ?_
    refine ev_to ev_c ?_
    refine c_op ?_
    refine c_call ?_
    refine ea_to (ea_cons (ev_var rfl) ea_nil) ?_
    refine ⟨a_v_law_state, (v_law_state : (T3 Int Script Int)), star [F], rfl, Sep.unstar (M := [stA a_v_law_state (v_law_state : T3 Int Script Int)]) (hS.sel [0, 1] (by decide) rfl : Sep H (([stA a_v_law_state (v_law_state : T3 Int Script Int)] ++ [F] : List (Asn G)))), R.wp_mono (R.wp_bind hm) (fun r1 hm H hS => ?_) (fun _ z => z)⟩
    have hS : Sep H ([stA a_v_law_state (r1.2 : T3 Int Script Int), F] : List (Asn G)) := Sep.star (M := [stA a_v_law_state (r1.2 : T3 Int Script Int)]) hS
    refine ev_to (ev_var rfl) ?_
    obtain ⟨h2, hm⟩ := R.wp_need hm
    refine r_mod h2 ?_
    refine r_I0 _ ?_
    refine c_nil ?_
    refine k_lst (α := Int) (vs := [(.int (1)), (.int (2)), (.int (v_law_most)), (.int (1 + (r1.1 % v_law_most)))]) (xs := [1, 2, v_law_most, 1 + (r1.1 % v_law_most)]) hS ⟨rfl, ⟨rfl, ⟨rfl, ⟨rfl, True.intro⟩⟩⟩⟩ (by show 4 ≤ sizeLine; decide) fun p3 H hS => ?_
    refine fz_no ?_
    refine c_op ?_
    refine c_call ?_
    refine ea_to (ea_cons (ev_var rfl) ea_nil) ?_
    refine ⟨a_v_law_state, (r1.2 : (T3 Int Script Int)), star [lstA p3 ([1, 2, v_law_most, 1 + (r1.1 % v_law_most)] : (List Int)), F], rfl, Sep.unstar (M := [stA a_v_law_state (r1.2 : T3 Int Script Int)]) (hS.sel [1, 0, 2] (by decide) rfl : Sep H (([stA a_v_law_state (r1.2 : T3 Int Script Int)] ++ [lstA p3 ([1, 2, v_law_most, 1 + (r1.1 % v_law_most)] : (List Int)), F] : List (Asn G)))), R.wp_mono (R.wp_bind hm) (fun r4 hm H hS => ?_) (fun _ z => z)⟩
    have hS : Sep H ([stA a_v_law_state (r4.2 : T3 Int Script Int), lstA p3 ([1, 2, v_law_most, 1 + (r1.1 % v_law_most)] : (List Int)), F] : List (Asn G)) := Sep.star (M := [stA a_v_law_state (r4.2 : T3 Int Script Int)]) hS
    refine ev_to ev_c ?_
    refine r_mod (by decide) ?_
    obtain ⟨x5, hx5, hm⟩ := wp_idx hm
    refine r_ixSq (hS.sqF (i := 1) rfl) (atI_map hx5) _ ?_
    refine c_set (σ' := [some (.ref a_v_law_state), some (.str (v_law_signs)), some (.int (v_law_most)), some (.int (x5)), none]) rfl ?_
    refine sq_nx ?_
    refine f_seq ?_
    refine f_if ?_
    refine et_to (et_test (ev_i0 (ev_var rfl) (ev_var rfl))) ?_
    refine ifK_J (τ := Int) (fun (s6 : Int) (σ : L2.St) (H : Hp) => σ = [some (.ref a_v_law_state), some (.str (v_law_signs)), some (.int (v_law_most)), some (.int (s6)), none] ∧ Sep H ([stA a_v_law_state (r4.2 : T3 Int Script Int), lstA p3 ([1, 2, v_law_most, 1 + (r1.1 % v_law_most)] : (List Int)), F] : List (Asn G))) hm (fun hb q hm nx => ?_) (fun hb q hm nx => ?_) (fun s6 σ H hm hI => ?_)
    ·
      refine c_asg ?_
      refine ev_to (ev_var rfl) ?_
      refine c_set (σ' := [some (.ref a_v_law_state), some (.str (v_law_signs)), some (.int (v_law_most)), some (.int (v_law_most)), none]) rfl ?_
      exact nx _ _ _ hm ⟨rfl, hS.sel [0, 1, 2] (by decide) rfl⟩
    ·
      refine st_nx ?_
      exact nx _ _ _ hm ⟨rfl, hS.sel [0, 1, 2] (by decide) rfl⟩
    · obtain ⟨rfl, hS⟩ := hI
      refine sq_nx ?_
      refine c_ret ?_
      refine c_m1 ev_c ?_
      refine c_fz ?_
      refine c_lc ?_
      refine c_rng1 ?_
      refine ea_to (ea_cons (ev_var rfl) ea_nil) ?_
      obtain ⟨h7, hm⟩ := R.wp_need hm
      refine k_rng1 h7.1 h7.2 ?_
      obtain ⟨h8, hm⟩ := R.wp_need hm
      refine lc_sep (β := Str) (fun (s13 : (T3 Int Script Int)) => ([stA a_v_law_state (s13 : T3 Int Script Int), lstA p3 ([1, 2, v_law_most, 1 + (r1.1 % v_law_most)] : (List Int)), F] : List (Asn G))) (s := r4.2) (im := (fun _ v (x : Int) => v = .int x)) hS (fun _ _ _ => wk_range) h8 hm (fun p9 s13 ys12 x10 v11 H q Nx hS hx hm kS kN => ?_) (fun p9 t H hm hS => ?_)
      ·
        cases hx
        refine c_gLc (σ' := [some (.ref a_v_law_state), some (.str (v_law_signs)), some (.int (v_law_most)), some (.int (s6)), some (.int (x10))]) rfl rfl ?_
        refine c_yes ?_
        refine c_op ?_
        refine ev_to (ev_var rfl) ?_
        refine c_op ?_
        refine c_call ?_
        refine ea_to (ea_cons (ev_var rfl) ea_nil) ?_
        refine ⟨a_v_law_state, (s13 : (T3 Int Script Int)), star [lstA p9 (ys12 : List Str), lstA p3 ([1, 2, v_law_most, 1 + (r1.1 % v_law_most)] : (List Int)), F], rfl, Sep.unstar (M := [stA a_v_law_state (s13 : T3 Int Script Int)]) (hS.sel [1, 0, 2, 3] (by decide) rfl : Sep H (([stA a_v_law_state (s13 : T3 Int Script Int)] ++ [lstA p9 (ys12 : List Str), lstA p3 ([1, 2, v_law_most, 1 + (r1.1 % v_law_most)] : (List Int)), F] : List (Asn G)))), R.wp_mono (R.wp_bind hm) (fun r14 hm H hS => ?_) (fun _ z => z)⟩
        have hS : Sep H ([stA a_v_law_state (r14.2 : T3 Int Script Int), lstA p9 (ys12 : List Str), lstA p3 ([1, 2, v_law_most, 1 + (r1.1 % v_law_most)] : (List Int)), F] : List (Asn G)) := Sep.star (M := [stA a_v_law_state (r14.2 : T3 Int Script Int)]) hS
        obtain ⟨h15, hm⟩ := R.wp_need hm
        refine ev_to (ev_lenS (ev_var rfl) h15) ?_
        obtain ⟨h16, hm⟩ := R.wp_need hm
        refine r_mod h16 ?_
        obtain ⟨h17, hm⟩ := R.wp_need hm
        obtain ⟨c18, hc18, hm⟩ := wp_idx hm
        refine ev_op2 (ev_ixS ev_c ev_c h17 hc18) ?_
        exact kS r14.2 _ _ _ hm rfl (hS.sel [1, 0, 2, 3] (by decide) rfl)
      · revert hm hS; generalize t = t19; intro hm hS
        refine fz_no ?_
        obtain ⟨h20, hm⟩ := R.wp_need hm
        refine ⟨_, _, _, rfl, rfl, .inl (hS.sqF (i := 0) rfl), h20, ?_⟩
        exact hm _ (hS.sel [1, 3] (by decide) rfl)
def sp_law_any_word (G : Gx) : Sp := fun vs H Q E => ∃ (a_v_law_state : Addr) (v_law_state : (T3 Int Script Int)) (F : Asn G), vs = [.ref a_v_law_state] ∧ Sep H ([stA a_v_law_state (v_law_state : T3 Int Script Int), F] : List (Asn G)) ∧ R.wp (m_law_any_word v_law_state) (fun r => ∀ H', Sep H' ([stA a_v_law_state (r.2 : T3 Int Script Int), F] : List (Asn G)) → Q (.str (r.1)) H') (fun _ => False)
abbrev N_law_any_word : List Str := ["_law_state"]
theorem sc_law_any_word : FnScope N_law_any_word ["_law_state"] (defScope s_law_any_word) := ⟨rfl, rfl, rfl, by decide +kernel, rfl, by decide +kernel, by decide +kernel⟩
theorem ok_law_any_word (T : Txt G mg) : FnOk P w G.K mg base CX0 3 T.a_law_any_word T.fd_law_any_word ["_law_state"] (sp_law_any_word G) := by
  have nd := sc_law_any_word.nd
  refine Fun.ok T.F_law_any_word sc_law_any_word (fun vs H Q E h => ?_) (fun cdv A outer s H vs Q E hr h => ?_)
  · obtain ⟨a_v_law_state, v_law_state, F, rfl, _⟩ := h; rfl
  · obtain ⟨a_v_law_state, v_law_state, F, rfl, hS, hm⟩ := h
    refine ⟨_, (pss_one (ps_ret (pe_call (ok_law_word T) (hr.mono (by decide)) rfl T.g_law_word T.kp_law_word T.b_law_word .nil pass0 (pa_cons (pv 0) (pa_cons pe_str (pa_cons pe_int pa_nil)))))), ?_⟩
    unfold m_law_any_word at hm
    refine c_ret ?_
    refine c_call ?_
    refine ea_to (ea_cons (ev_var rfl) (ea_cons ev_c (ea_cons ev_c ea_nil))) ?_
    refine ⟨a_v_law_state, (v_law_state : (T3 Int Script Int)), ("abcdefghijklmnopqrstuvwxyz0123456789" : Str), 20, star [F], rfl, Sep.unstar (M := [stA a_v_law_state (v_law_state : T3 Int Script Int)]) (hS.sel [0, 1] (by decide) rfl : Sep H (([stA a_v_law_state (v_law_state : T3 Int Script Int)] ++ [F] : List (Asn G)))), R.wp_mono (R.wp_bind hm) (fun r1 hm H hS => ?_) (fun _ z => z)⟩
    have hS : Sep H ([stA a_v_law_state (r1.2 : T3 Int Script Int), F] : List (Asn G)) := Sep.star (M := [stA a_v_law_state (r1.2 : T3 Int Script Int)]) hS
    exact hm _ (hS.sel [0, 1] (by decide) rfl)
def sp_law_hands (G : Gx) : Sp := fun vs H Q E => ∃ (a_v_law_state : Addr) (v_law_state : (T3 Int Script Int)) (v_law_many : Int) (F : Asn G), vs = [.ref a_v_law_state, (.int (v_law_many))] ∧ Sep H ([stA a_v_law_state (v_law_state : T3 Int Script Int), F] : List (Asn G)) ∧ R.wp (m_law_hands v_law_state v_law_many) (fun r => ∀ p H', Sep H' ([lstA p (r.1 : (List Str)), stA a_v_law_state (r.2 : T3 Int Script Int), F] : List (Asn G)) → Q (.ref p) H') (fun _ => False)
abbrev N_law_hands : List Str := ["_law_state", "_law_many", "_law_letters", "_law_base", "_law_at", "_law_first", "_law_found", "_law_k"]
theorem sc_law_hands : FnScope N_law_hands ["_law_state", "_law_many"] (defScope s_law_hands) := ⟨rfl, rfl, rfl, by decide +kernel, rfl, by decide +kernel, by decide +kernel⟩
theorem ok_law_hands (T : Txt G mg) : FnOk P w G.K mg base CX0 3 T.a_law_hands T.fd_law_hands ["_law_state", "_law_many"] (sp_law_hands G) := by
  have nd := sc_law_hands.nd
  refine Fun.ok T.F_law_hands sc_law_hands (fun vs H Q E h => ?_) (fun cdv A outer s H vs Q E hr h => ?_)
  · obtain ⟨a_v_law_state, v_law_state, v_law_many, F, rfl, _⟩ := h; rfl
  · obtain ⟨a_v_law_state, v_law_state, v_law_many, F, rfl, hS, hm⟩ := h
    refine ⟨_, (pss_cons (ps_set (i := 2) nd rfl (Or.inl rfl) pe_str)
      (pss_cons (ps_set (i := 3) nd rfl (Or.inl rfl) (pe_call (ok_law_word T) (hr.mono (by decide)) rfl T.g_law_word T.kp_law_word T.b_law_word .nil pass0 (pa_cons (pv 0) (pa_cons (pv 2) (pa_cons pe_int pa_nil)))))
      (pss_cons (ps_set (i := 4) nd rfl (Or.inl rfl) (pe_op op_mod (pe_call (ok_law_next T) (hr.mono (by decide)) rfl T.g_law_next T.kp_law_next T.b_law_next .nil pass0 (pa_cons (pv 0) pa_nil)) (pe_op op_add (pe_callB call_lenS (by rfl) T.z_len PySem.boot_len (pa_cons (pv 3) pa_nil)) pe_int)))
      (pss_cons (ps_set (i := 5) nd rfl (Or.inl rfl) (pe_op op_mod (pe_call (ok_law_next T) (hr.mono (by decide)) rfl T.g_law_next T.kp_law_next T.b_law_next .nil pass0 (pa_cons (pv 0) pa_nil)) pe_int))
      (pss_cons (ps_set (i := 6) nd rfl (Or.inl rfl) (pe_fz (pe_lst pa_nil)))
      (pss_cons (ps_for PassesOwn.never rfl (pi_range1 rfl T.z_range (pa_cons (pv 1) pa_nil)) (pg_name (i := 7) nd rfl (Or.inl rfl)) (pss_one (ps_expr (pe_bmK G.K PySem.F.plainAttrs_list PySem.F.slot_list_append PySem.F.type_list_append mt_append (pe_fz (pv 6)) (pa_cons (pe_op op_catS (pe_op op_catS (pe_slice sl_str (pv 3) po_none (po_some (pv 4))) (pe_ix ix_str (pv 2) (pe_op op_mod (pe_op op_add (pv 5) (pe_op op_mul pe_int (pv 7))) pe_int) (fun _ _ => rfl))) (pe_slice sl_str (pv 3) (po_some (pv 4)) po_none)) pa_nil)))))
      (pss_cons (ps_if (pt_cmpR op_eq (pe_op op_mod (pe_call (ok_law_next T) (hr.mono (by decide)) rfl T.g_law_next T.kp_law_next T.b_law_next .nil pass0 (pa_cons (pv 0) pa_nil)) pe_int) pe_int (nomark _)) (pss_one (ps_asg (pe_slice sl_str (pe_ix (ix_listK G.K) (pe_fz (pv 6)) pe_int (fun _ _ => rfl)) po_none (po_some (pe_op op_add (pv 4) pe_int))) (pg_sub (pe_fz (pv 6)) pe_int set_list))) pss_nil)
      (pss_one (ps_ret (pe_fz (pv 6))))))))))), ?_⟩
    unfold m_law_hands at hm
    refine f_seq ?_
    refine c_asg ?_
    refine ev_to ev_c ?_
    refine c_set (σ' := [some (.ref a_v_law_state), some (.int (v_law_many)), some (.str (("abcdefghijklmnopqrstuvwxyz" : Str))), none, none, none, none, none]) rfl ?_
    refine sq_nx ?_
    refine f_seq ?_
    refine c_asg ?_
    refine c_call ?_
    refine ea_to (ea_cons (ev_var rfl) (ea_cons (ev_var rfl) (ea_cons ev_c ea_nil))) ?_
    refine ⟨a_v_law_state, (v_law_state : (T3 Int Script Int)), ("abcdefghijklmnopqrstuvwxyz" : Str), 7, star [F], rfl, Sep.unstar (M := [stA a_v_law_state (v_law_state : T3 Int Script Int)]) (hS.sel [0, 1] (by decide) rfl : Sep H (([stA a_v_law_state (v_law_state : T3 Int Script Int)] ++ [F] : List (Asn G)))), R.wp_mono (R.wp_bind hm) (fun r1 hm H hS => ?_) (fun _ z => z)⟩
    have hS : Sep H ([stA a_v_law_state (r1.2 : T3 Int Script Int), F] : List (Asn G)) := Sep.star (M := [stA a_v_law_state (r1.2 : T3 Int Script Int)]) hS
    refine c_set (σ' := [some (.ref a_v_law_state), some (.int (v_law_many)), some (.str (("abcdefghijklmnopqrstuvwxyz" : Str))), some (.str (r1.1)), none, none, none, none]) rfl ?_
    refine sq_nx ?_
    refine f_seq ?_
    refine c_asg ?_
    refine c_op ?_
    refine c_call ?_
    refine ea_to (ea_cons (ev_var rfl) ea_nil) ?_
    refine ⟨a_v_law_state, (r1.2 : (T3 Int Script Int)), star [F], rfl, Sep.unstar (M := [stA a_v_law_state (r1.2 : T3 Int Script Int)]) (hS.sel [0, 1] (by decide) rfl : Sep H (([stA a_v_law_state (r1.2 : T3 Int Script Int)] ++ [F] : List (Asn G)))), R.wp_mono (R.wp_bind hm) (fun r2 hm H hS => ?_) (fun _ z => z)⟩
    have hS : Sep H ([stA a_v_law_state (r2.2 : T3 Int Script Int), F] : List (Asn G)) := Sep.star (M := [stA a_v_law_state (r2.2 : T3 Int Script Int)]) hS
    obtain ⟨h3, hm⟩ := R.wp_need hm
    refine ev_to (ev_add (ev_lenS (ev_var rfl) h3) ev_c) ?_
    obtain ⟨h4, hm⟩ := R.wp_need hm
    refine r_mod h4 ?_
    obtain ⟨y5, hy5, hm⟩ := wp_let hm
    refine n_is (w := (.int (y5))) (by rw [hy5]) ?_
    refine c_set (σ' := [some (.ref a_v_law_state), some (.int (v_law_many)), some (.str (("abcdefghijklmnopqrstuvwxyz" : Str))), some (.str (r1.1)), some (.int (y5)), none, none, none]) rfl ?_
    refine sq_nx ?_
    refine f_seq ?_
    refine c_asg ?_
    refine c_op ?_
    refine c_call ?_
    refine ea_to (ea_cons (ev_var rfl) ea_nil) ?_
    refine ⟨a_v_law_state, (r2.2 : (T3 Int Script Int)), star [F], rfl, Sep.unstar (M := [stA a_v_law_state (r2.2 : T3 Int Script Int)]) (hS.sel [0, 1] (by decide) rfl : Sep H (([stA a_v_law_state (r2.2 : T3 Int Script Int)] ++ [F] : List (Asn G)))), R.wp_mono (R.wp_bind hm) (fun r6 hm H hS => ?_) (fun _ z => z)⟩
    have hS : Sep H ([stA a_v_law_state (r6.2 : T3 Int Script Int), F] : List (Asn G)) := Sep.star (M := [stA a_v_law_state (r6.2 : T3 Int Script Int)]) hS
    refine ev_to ev_c ?_
    refine r_mod (by decide) ?_
    obtain ⟨y7, hy7, hm⟩ := wp_let hm
    refine n_is (w := (.int (y7))) (by rw [hy7]) ?_
    refine c_set (σ' := [some (.ref a_v_law_state), some (.int (v_law_many)), some (.str (("abcdefghijklmnopqrstuvwxyz" : Str))), some (.str (r1.1)), some (.int (y5)), some (.int (y7)), none, none]) rfl ?_
    refine sq_nx ?_
    refine f_seq ?_
    refine c_asg ?_
    refine c_fz ?_
    refine c_lst ?_
    refine ea_to ea_nil ?_
    refine k_lst (α := Str) (vs := []) (xs := ([] : (List Str))) hS True.intro (by show 0 ≤ sizeLine; decide) fun p8 H hS => ?_
    refine fz_no ?_
    refine c_set (σ' := [some (.ref a_v_law_state), some (.int (v_law_many)), some (.str (("abcdefghijklmnopqrstuvwxyz" : Str))), some (.str (r1.1)), some (.int (y5)), some (.int (y7)), some (.ref p8), none]) rfl ?_
    refine sq_nx ?_
    refine f_seq ?_
    refine c_for ?_
    refine c_rng1 ?_
    refine ea_to (ea_cons (ev_var rfl) ea_nil) ?_
    obtain ⟨h9, hm⟩ := R.wp_need hm
    refine k_rng1 h9.1 h9.2 ?_
    refine k_for (τ := (List Str)) (fun (s10 : (List Str)) (σ : L2.St) (H : Hp) => ∃ (w13 : Option V), σ = [some (.ref a_v_law_state), some (.int (v_law_many)), some (.str (("abcdefghijklmnopqrstuvwxyz" : Str))), some (.str (r1.1)), some (.int (y5)), some (.int (y7)), some (.ref p8), w13] ∧ Sep H ([lstA p8 (s10 : (List Str)), stA a_v_law_state (r6.2 : T3 Int Script Int), F] : List (Asn G))) (im := (fun _ v (x : Int) => v = .int x)) (s := (([] : (List Str)))) (fun _ => wk_range) ⟨_, rfl, hS.sel [0, 1, 2] (by decide) rfl⟩ hm (fun s10 x11 v12 σ H q N hI hx hm nx => ?_) (fun s10 σ H hm hI => ?_)
    ·
      obtain ⟨w13, rfl, hS⟩ := hI
      cases hx
      refine c_gN (σ' := [some (.ref a_v_law_state), some (.int (v_law_many)), some (.str (("abcdefghijklmnopqrstuvwxyz" : Str))), some (.str (r1.1)), some (.int (y5)), some (.int (y7)), some (.ref p8), some (.int (x11))]) rfl ?_
      refine c_drop ?_
      refine c_bm ?_
      refine ev_to (ev_fz (ev_var rfl)) ⟨tyL hS (i := 0) rfl, ?_⟩
      obtain ⟨h14, hm⟩ := R.wp_need hm
      obtain ⟨c15, hc15, hm⟩ := wp_idx hm
      obtain ⟨h16, hm⟩ := R.wp_need hm
      obtain ⟨h17, hm⟩ := R.wp_need hm
      obtain ⟨h18, hm⟩ := R.wp_need hm
      refine ea_to (ea_cons (ev_catS (ev_catS (ev_slS (ev_var rfl) eo_no (eo_some (ev_var rfl)) h14) (ev_ixS (ev_var rfl) (ev_mod (ev_add (ev_var rfl) (ev_mul ev_c (ev_var rfl) (.inl (by constructor <;> decide)))) ev_c (by decide)) (by decide +kernel) hc15) h16) (ev_slS (ev_var rfl) (eo_some (ev_var rfl)) eo_no h17) h18) ea_nil) ?_
      obtain ⟨h19, hm⟩ := R.wp_need hm
      refine k_append (x := ((cutS r1.1 none (some (y5))) ++ (sg (c15))) ++ (cutS r1.1 (some (y5)) none)) hS (i := 0) rfl rfl h19 rfl fun H hS => ?_
      exact nx _ _ _ hm ⟨_, rfl, hS.sel [0, 1, 2] (by decide) rfl⟩
    · obtain ⟨w13, rfl, hS⟩ := hI
      refine sq_nx ?_
      refine f_seq ?_
      refine f_if ?_
      refine f_test ?_
      refine c_op ?_
      refine c_op ?_
      refine c_call ?_
      refine ea_to (ea_cons (ev_var rfl) ea_nil) ?_
      refine ⟨a_v_law_state, (r6.2 : (T3 Int Script Int)), star [lstA p8 (s10 : (List Str)), F], rfl, Sep.unstar (M := [stA a_v_law_state (r6.2 : T3 Int Script Int)]) (hS.sel [1, 0, 2] (by decide) rfl : Sep H (([stA a_v_law_state (r6.2 : T3 Int Script Int)] ++ [lstA p8 (s10 : (List Str)), F] : List (Asn G)))), R.wp_mono (R.wp_bind hm) (fun r20 hm H hS => ?_) (fun _ z => z)⟩
      have hS : Sep H ([stA a_v_law_state (r20.2 : T3 Int Script Int), lstA p8 (s10 : (List Str)), F] : List (Asn G)) := Sep.star (M := [stA a_v_law_state (r20.2 : T3 Int Script Int)]) hS
      refine ev_to ev_c ?_
      refine r_mod (by decide) ?_
      refine ev_to ev_c ?_
      refine ev_op2 (ev_eqI ev_c ev_c) ?_
      refine f_bl ?_
      refine ifK_J (τ := (List Str)) (fun (s21 : (List Str)) (σ : L2.St) (H : Hp) => σ = [some (.ref a_v_law_state), some (.int (v_law_many)), some (.str (("abcdefghijklmnopqrstuvwxyz" : Str))), some (.str (r1.1)), some (.int (y5)), some (.int (y7)), some (.ref p8), w13] ∧ Sep H ([stA a_v_law_state (r20.2 : T3 Int Script Int), lstA p8 (s21 : (List Str)), F] : List (Asn G))) hm (fun hb q hm nx => ?_) (fun hb q hm nx => ?_) (fun s21 σ H hm hI => ?_)
      ·
        refine c_asgS ?_
        obtain ⟨x22, hx22, hm⟩ := wp_idx hm
        obtain ⟨h23, hm⟩ := R.wp_need hm
        refine ev_to (ev_slS (ev_ixSq (ev_fz (ev_var rfl)) ev_c (hS.sqF (i := 1) rfl) (atI_map hx22)) eo_no (eo_some (ev_add (ev_var rfl) ev_c)) h23) ?_
        obtain ⟨j24, hj24, hm⟩ := wp_ix hm
        refine ev_to (ev_fz (ev_var rfl)) ?_
        refine ev_to ev_c ?_
        refine k_setL (x := cutS x22 none (some (y5 + 1))) hS (n := 1) rfl rfl j24 hj24 rfl fun H hS => ?_
        exact nx _ _ _ hm ⟨rfl, hS.sel [0, 1, 2] (by decide) rfl⟩
      ·
        refine st_nx ?_
        exact nx _ _ _ hm ⟨rfl, hS.sel [0, 1, 2] (by decide) rfl⟩
      · obtain ⟨rfl, hS⟩ := hI
        refine sq_nx ?_
        refine c_ret ?_
        refine ev_to (ev_fz (ev_var rfl)) ?_
        exact hm _ _ (hS.sel [1, 0, 2] (by decide) rfl)
def sp_law_parts (G : Gx) : Sp := fun vs H Q E => ∃ (a_v_law_state : Addr) (v_law_state : (T3 Int Script Int)) (F : Asn G), vs = [.ref a_v_law_state] ∧ Sep H ([stA a_v_law_state (v_law_state : T3 Int Script Int), F] : List (Asn G)) ∧ R.wp (m_law_parts v_law_state) (fun r => ∀ (p : Addr) H', Sep H' ([imA (.ref p) (r.1 : (T5 Str Str Str Int Str)), stA a_v_law_state (r.2 : T3 Int Script Int), F] : List (Asn G)) → Q (.ref p) H') (fun _ => False)
abbrev N_law_parts : List Str := ["_law_state", "_law_signs", "_law_title", "_law_body", "_law_answers", "_law_day"]
theorem sc_law_parts : FnScope N_law_parts ["_law_state"] (defScope s_law_parts) := ⟨rfl, rfl, rfl, by decide +kernel, rfl, by decide +kernel, by decide +kernel⟩
theorem ok_law_parts (T : Txt G mg) : FnOk P w G.K mg base CX0 4 T.a_law_parts T.fd_law_parts ["_law_state"] (sp_law_parts G) := by
  have nd := sc_law_parts.nd
  refine Fun.ok T.F_law_parts sc_law_parts (fun vs H Q E h => ?_) (fun cdv A outer s H vs Q E hr h => ?_)
  · obtain ⟨a_v_law_state, v_law_state, F, rfl, _⟩ := h; rfl
  · obtain ⟨a_v_law_state, v_law_state, F, rfl, hS, hm⟩ := h
    refine ⟨_, (pss_cons (ps_set (i := 1) nd rfl (Or.inl rfl) pe_str)
      (pss_cons (ps_set (i := 2) nd rfl (Or.inl rfl) (pe_call (ok_law_word T) (hr.mono (by decide)) rfl T.g_law_word T.kp_law_word T.b_law_word .nil pass0 (pa_cons (pv 0) (pa_cons (pv 1) (pa_cons pe_int pa_nil)))))
      (pss_cons (ps_set (i := 3) nd rfl (Or.inl rfl) (pe_call (ok_law_word T) (hr.mono (by decide)) rfl T.g_law_word T.kp_law_word T.b_law_word .nil pass0 (pa_cons (pv 0) (pa_cons (pe_op op_catS (pv 1) pe_str) (pa_cons pe_int pa_nil)))))
      (pss_cons (ps_set (i := 4) nd rfl (Or.inl rfl) (pe_ix (ix_listK G.K) (pe_fz (pe_lst (pa_cons pe_str (pa_cons (pe_call (ok_law_any_word T) (hr.mono (by decide)) rfl T.g_law_any_word T.kp_law_any_word T.b_law_any_word .nil pass0 (pa_cons (pv 0) pa_nil)) pa_nil)))) (pe_op op_mod (pe_call (ok_law_next T) (hr.mono (by decide)) rfl T.g_law_next T.kp_law_next T.b_law_next .nil pass0 (pa_cons (pv 0) pa_nil)) pe_int) (fun _ _ => rfl)))
      (pss_cons (ps_set (i := 5) nd rfl (Or.inl rfl) (pe_ix (ix_listK G.K) (pe_fz (pe_lst (pa_cons (pe_op op_mod (pe_call (ok_law_next T) (hr.mono (by decide)) rfl T.g_law_next T.kp_law_next T.b_law_next .nil pass0 (pa_cons (pv 0) pa_nil)) pe_int) (pa_cons pe_int (pa_cons pe_int pa_nil))))) (pe_op op_mod (pe_call (ok_law_next T) (hr.mono (by decide)) rfl T.g_law_next T.kp_law_next T.b_law_next .nil pass0 (pa_cons (pv 0) pa_nil)) pe_int) (fun _ _ => rfl)))
      (pss_one (ps_ret (pe_tup (pa_cons (pe_call (ok_law_any_word T) (hr.mono (by decide)) rfl T.g_law_any_word T.kp_law_any_word T.b_law_any_word .nil pass0 (pa_cons (pv 0) pa_nil)) (pa_cons (pv 2) (pa_cons (pv 3) (pa_cons (pv 5) (pa_cons (pv 4) pa_nil))))))))))))), ?_⟩
    unfold m_law_parts at hm
    refine f_seq ?_
    refine c_asg ?_
    refine ev_to ev_c ?_
    refine c_set (σ' := [some (.ref a_v_law_state), some (.str ((" abcXYZ019!-.,;:'~" : Str))), none, none, none, none]) rfl ?_
    refine sq_nx ?_
    refine f_seq ?_
    refine c_asg ?_
    refine c_call ?_
    refine ea_to (ea_cons (ev_var rfl) (ea_cons (ev_var rfl) (ea_cons ev_c ea_nil))) ?_
    refine ⟨a_v_law_state, (v_law_state : (T3 Int Script Int)), (" abcXYZ019!-.,;:'~" : Str), 60, star [F], rfl, Sep.unstar (M := [stA a_v_law_state (v_law_state : T3 Int Script Int)]) (hS.sel [0, 1] (by decide) rfl : Sep H (([stA a_v_law_state (v_law_state : T3 Int Script Int)] ++ [F] : List (Asn G)))), R.wp_mono (R.wp_bind hm) (fun r1 hm H hS => ?_) (fun _ z => z)⟩
    have hS : Sep H ([stA a_v_law_state (r1.2 : T3 Int Script Int), F] : List (Asn G)) := Sep.star (M := [stA a_v_law_state (r1.2 : T3 Int Script Int)]) hS
    refine c_set (σ' := [some (.ref a_v_law_state), some (.str ((" abcXYZ019!-.,;:'~" : Str))), some (.str (r1.1)), none, none, none]) rfl ?_
    refine sq_nx ?_
    refine f_seq ?_
    refine c_asg ?_
    refine c_call ?_
    obtain ⟨h2, hm⟩ := R.wp_need hm
    refine ea_to (ea_cons (ev_var rfl) (ea_cons (ev_catS (ev_var rfl) ev_c h2) (ea_cons ev_c ea_nil))) ?_
    refine ⟨a_v_law_state, (r1.2 : (T3 Int Script Int)), ((" abcXYZ019!-.,;:'~" : Str) ++ ("\n" : Str)), 60, star [F], rfl, Sep.unstar (M := [stA a_v_law_state (r1.2 : T3 Int Script Int)]) (hS.sel [0, 1] (by decide) rfl : Sep H (([stA a_v_law_state (r1.2 : T3 Int Script Int)] ++ [F] : List (Asn G)))), R.wp_mono (R.wp_bind hm) (fun r3 hm H hS => ?_) (fun _ z => z)⟩
    have hS : Sep H ([stA a_v_law_state (r3.2 : T3 Int Script Int), F] : List (Asn G)) := Sep.star (M := [stA a_v_law_state (r3.2 : T3 Int Script Int)]) hS
    refine c_set (σ' := [some (.ref a_v_law_state), some (.str ((" abcXYZ019!-.,;:'~" : Str))), some (.str (r1.1)), some (.str (r3.1)), none, none]) rfl ?_
    refine sq_nx ?_
    refine f_seq ?_
    refine c_asg ?_
    refine c_op ?_
    refine c_fz ?_
    refine c_lst ?_
    refine c_cons ?_
    refine ev_to ev_c ?_
    refine c_cons ?_
    refine c_call ?_
    refine ea_to (ea_cons (ev_var rfl) ea_nil) ?_
    refine ⟨a_v_law_state, (r3.2 : (T3 Int Script Int)), star [F], rfl, Sep.unstar (M := [stA a_v_law_state (r3.2 : T3 Int Script Int)]) (hS.sel [0, 1] (by decide) rfl : Sep H (([stA a_v_law_state (r3.2 : T3 Int Script Int)] ++ [F] : List (Asn G)))), R.wp_mono (R.wp_bind hm) (fun r4 hm H hS => ?_) (fun _ z => z)⟩
    have hS : Sep H ([stA a_v_law_state (r4.2 : T3 Int Script Int), F] : List (Asn G)) := Sep.star (M := [stA a_v_law_state (r4.2 : T3 Int Script Int)]) hS
    refine c_nil ?_
    refine k_lst (α := Str) (vs := [(.str (("" : Str))), (.str (r4.1))]) (xs := [("" : Str), r4.1]) hS ⟨rfl, ⟨rfl, True.intro⟩⟩ (by show 2 ≤ sizeLine; decide) fun p5 H hS => ?_
    refine fz_no ?_
    refine c_op ?_
    refine c_call ?_
    refine ea_to (ea_cons (ev_var rfl) ea_nil) ?_
    refine ⟨a_v_law_state, (r4.2 : (T3 Int Script Int)), star [lstA p5 ([("" : Str), r4.1] : (List Str)), F], rfl, Sep.unstar (M := [stA a_v_law_state (r4.2 : T3 Int Script Int)]) (hS.sel [1, 0, 2] (by decide) rfl : Sep H (([stA a_v_law_state (r4.2 : T3 Int Script Int)] ++ [lstA p5 ([("" : Str), r4.1] : (List Str)), F] : List (Asn G)))), R.wp_mono (R.wp_bind hm) (fun r6 hm H hS => ?_) (fun _ z => z)⟩
    have hS : Sep H ([stA a_v_law_state (r6.2 : T3 Int Script Int), lstA p5 ([("" : Str), r4.1] : (List Str)), F] : List (Asn G)) := Sep.star (M := [stA a_v_law_state (r6.2 : T3 Int Script Int)]) hS
    refine ev_to ev_c ?_
    refine r_mod (by decide) ?_
    obtain ⟨x7, hx7, hm⟩ := wp_idx hm
    refine r_ixSq (hS.sqF (i := 1) rfl) (atI_map hx7) _ ?_
    refine c_set (σ' := [some (.ref a_v_law_state), some (.str ((" abcXYZ019!-.,;:'~" : Str))), some (.str (r1.1)), some (.str (r3.1)), some (.str (x7)), none]) rfl ?_
    refine sq_nx ?_
    refine f_seq ?_
    refine c_asg ?_
    refine c_op ?_
    refine c_fz ?_
    refine c_lst ?_
    refine c_cons ?_
    refine c_op ?_
    refine c_call ?_
    refine ea_to (ea_cons (ev_var rfl) ea_nil) ?_
    refine ⟨a_v_law_state, (r6.2 : (T3 Int Script Int)), star [lstA p5 ([("" : Str), r4.1] : (List Str)), F], rfl, Sep.unstar (M := [stA a_v_law_state (r6.2 : T3 Int Script Int)]) (hS.sel [0, 1, 2] (by decide) rfl : Sep H (([stA a_v_law_state (r6.2 : T3 Int Script Int)] ++ [lstA p5 ([("" : Str), r4.1] : (List Str)), F] : List (Asn G)))), R.wp_mono (R.wp_bind hm) (fun r8 hm H hS => ?_) (fun _ z => z)⟩
    have hS : Sep H ([stA a_v_law_state (r8.2 : T3 Int Script Int), lstA p5 ([("" : Str), r4.1] : (List Str)), F] : List (Asn G)) := Sep.star (M := [stA a_v_law_state (r8.2 : T3 Int Script Int)]) hS
    refine ev_to ev_c ?_
    refine r_mod (by decide) ?_
    refine c_cons ?_
    refine ev_to ev_c ?_
    refine c_cons ?_
    refine ev_to ev_c ?_
    refine c_nil ?_
    refine k_lst (α := Int) (vs := [(.int (r8.1 % 10000)), (.int (0)), (.int (9999))]) (xs := [r8.1 % 10000, 0, 9999]) hS ⟨rfl, ⟨rfl, ⟨rfl, True.intro⟩⟩⟩ (by show 3 ≤ sizeLine; decide) fun p9 H hS => ?_
    refine fz_no ?_
    refine c_op ?_
    refine c_call ?_
    refine ea_to (ea_cons (ev_var rfl) ea_nil) ?_
    refine ⟨a_v_law_state, (r8.2 : (T3 Int Script Int)), star [lstA p9 ([r8.1 % 10000, 0, 9999] : (List Int)), lstA p5 ([("" : Str), r4.1] : (List Str)), F], rfl, Sep.unstar (M := [stA a_v_law_state (r8.2 : T3 Int Script Int)]) (hS.sel [1, 0, 2, 3] (by decide) rfl : Sep H (([stA a_v_law_state (r8.2 : T3 Int Script Int)] ++ [lstA p9 ([r8.1 % 10000, 0, 9999] : (List Int)), lstA p5 ([("" : Str), r4.1] : (List Str)), F] : List (Asn G)))), R.wp_mono (R.wp_bind hm) (fun r10 hm H hS => ?_) (fun _ z => z)⟩
    have hS : Sep H ([stA a_v_law_state (r10.2 : T3 Int Script Int), lstA p9 ([r8.1 % 10000, 0, 9999] : (List Int)), lstA p5 ([("" : Str), r4.1] : (List Str)), F] : List (Asn G)) := Sep.star (M := [stA a_v_law_state (r10.2 : T3 Int Script Int)]) hS
    refine ev_to ev_c ?_
    refine r_mod (by decide) ?_
    obtain ⟨x11, hx11, hm⟩ := wp_idx hm
    refine r_ixSq (hS.sqF (i := 1) rfl) (atI_map hx11) _ ?_
    refine c_set (σ' := [some (.ref a_v_law_state), some (.str ((" abcXYZ019!-.,;:'~" : Str))), some (.str (r1.1)), some (.str (r3.1)), some (.str (x7)), some (.int (x11))]) rfl ?_
    refine sq_nx ?_
    refine c_ret ?_
    refine c_tup ?_
    refine c_cons ?_
    refine c_call ?_
    refine ea_to (ea_cons (ev_var rfl) ea_nil) ?_
    refine ⟨a_v_law_state, (r10.2 : (T3 Int Script Int)), star [lstA p9 ([r8.1 % 10000, 0, 9999] : (List Int)), lstA p5 ([("" : Str), r4.1] : (List Str)), F], rfl, Sep.unstar (M := [stA a_v_law_state (r10.2 : T3 Int Script Int)]) (hS.sel [0, 1, 2, 3] (by decide) rfl : Sep H (([stA a_v_law_state (r10.2 : T3 Int Script Int)] ++ [lstA p9 ([r8.1 % 10000, 0, 9999] : (List Int)), lstA p5 ([("" : Str), r4.1] : (List Str)), F] : List (Asn G)))), R.wp_mono (R.wp_bind hm) (fun r12 hm H hS => ?_) (fun _ z => z)⟩
    have hS : Sep H ([stA a_v_law_state (r12.2 : T3 Int Script Int), lstA p9 ([r8.1 % 10000, 0, 9999] : (List Int)), lstA p5 ([("" : Str), r4.1] : (List Str)), F] : List (Asn G)) := Sep.star (M := [stA a_v_law_state (r12.2 : T3 Int Script Int)]) hS
    refine c_cons ?_
    refine ev_to (ev_var rfl) ?_
    refine c_cons ?_
    refine ev_to (ev_var rfl) ?_
    refine c_cons ?_
    refine ev_to (ev_var rfl) ?_
    refine c_cons ?_
    refine ev_to (ev_var rfl) ?_
    refine c_nil ?_
    refine k_tupP (x := ((⟨r12.1, r1.1, r3.1, x11, x7⟩ : T5 _ _ _ _ _) : (T5 Str Str Str Int Str))) hS (fun H' p h s => mk5 rfl rfl rfl rfl rfl h s) (by show 5 ≤ sizeLine; decide) fun p13 H hS => ?_
    exact hm _ _ (hS.sel [0, 1, 4] (by decide) rfl)
def sp_law_deed (G : Gx) : Sp := fun vs H Q E => ∃ (a_v_law_state : Addr) (v_law_state : (T3 Int Script Int)) (a_v_law_names : Addr) (v_law_names : (List Str)) (v_law_hand : Str) (v_law_puts : Int) (F : Asn G), vs = [.ref a_v_law_state, .ref a_v_law_names, (.str (v_law_hand)), (.int (v_law_puts))] ∧ Sep H ([stA a_v_law_state (v_law_state : T3 Int Script Int), lstA a_v_law_names (v_law_names : (List Str)), F] : List (Asn G)) ∧ R.wp (m_law_deed v_law_state v_law_names v_law_hand v_law_puts) (fun r => ∀ (p : V) H', Sep H' ([imA p (r.1 : Any), stA a_v_law_state (r.2 : T3 Int Script Int), lstA a_v_law_names (v_law_names : (List Str)), F] : List (Asn G)) → Q p H') (fun _ => False)
abbrev N_law_deed : List Str := ["_law_state", "_law_names", "_law_hand", "_law_puts", "_law_kind", "_law_name"]
theorem sc_law_deed : FnScope N_law_deed ["_law_state", "_law_names", "_law_hand", "_law_puts"] (defScope s_law_deed) := ⟨rfl, rfl, rfl, by decide +kernel, rfl, by decide +kernel, by decide +kernel⟩
theorem ok_law_deed (T : Txt G mg) : FnOk P w G.K mg base CX0 5 T.a_law_deed T.fd_law_deed ["_law_state", "_law_names", "_law_hand", "_law_puts"] (sp_law_deed G) := by
  have nd := sc_law_deed.nd
  refine Fun.ok T.F_law_deed sc_law_deed (fun vs H Q E h => ?_) (fun cdv A outer s H vs Q E hr h => ?_)
  · obtain ⟨a_v_law_state, v_law_state, a_v_law_names, v_law_names, v_law_hand, v_law_puts, F, rfl, _⟩ := h; rfl
  · obtain ⟨a_v_law_state, v_law_state, a_v_law_names, v_law_names, v_law_hand, v_law_puts, F, rfl, hS, hm⟩ := h
    refine ⟨_, (pss_cons (ps_set (i := 4) nd rfl (Or.inl rfl) (pe_op op_mod (pe_call (ok_law_next T) (hr.mono (by decide)) rfl T.g_law_next T.kp_law_next T.b_law_next .nil pass0 (pa_cons (pv 0) pa_nil)) pe_int))
      (pss_cons (ps_if (pt_cmpR op_lt (pv 4) pe_int (nomark _)) (pss_one (ps_ret (pe_tup (pa_cons pe_str (pa_cons (pe_op op_catS (pv 2) (pe_callTy call_str_int (by rfl) T.z_str (by decide +kernel) (pa_cons (pe_op op_add (pv 3) pe_int) pa_nil))) (pa_cons (pe_call (ok_law_parts T) (hr.mono (by decide)) rfl T.g_law_parts T.kp_law_parts T.b_law_parts .nil pass0 (pa_cons (pv 0) pa_nil)) pa_nil)))))) pss_nil)
      (pss_cons (ps_set (i := 5) nd rfl (Or.inl rfl) (pe_ix (ix_listK G.K) (pe_fz (pe_lst (pa_cons (pe_call (ok_law_any_word T) (hr.mono (by decide)) rfl T.g_law_any_word T.kp_law_any_word T.b_law_any_word .nil pass0 (pa_cons (pv 0) pa_nil)) (pa_cons (pe_ix (ix_listK G.K) (pe_fz (pe_op op_cat (pe_fz (pv 1)) (pe_fz (pe_lst (pa_cons (pe_op op_catS (pv 2) pe_str) pa_nil))))) (pe_op op_mod (pe_call (ok_law_next T) (hr.mono (by decide)) rfl T.g_law_next T.kp_law_next T.b_law_next .nil pass0 (pa_cons (pv 0) pa_nil)) (pe_op op_add (pe_callB (lenSqK G.K) (by rfl) T.z_len PySem.boot_len (pa_cons (pe_fz (pv 1)) pa_nil)) pe_int)) (fun _ _ => rfl)) pa_nil)))) (pe_op op_mod (pe_call (ok_law_next T) (hr.mono (by decide)) rfl T.g_law_next T.kp_law_next T.b_law_next .nil pass0 (pa_cons (pv 0) pa_nil)) pe_int) (fun _ _ => rfl)))
      (pss_cons (ps_if (pt_cmpR op_lt (pv 4) pe_int (nomark _)) (pss_one (ps_ret (pe_tup (pa_cons pe_str (pa_cons (pv 5) (pa_cons (pe_call (ok_law_any_word T) (hr.mono (by decide)) rfl T.g_law_any_word T.kp_law_any_word T.b_law_any_word .nil pass0 (pa_cons (pv 0) pa_nil)) pa_nil)))))) pss_nil)
      (pss_cons (ps_if (pt_cmpR op_lt (pv 4) pe_int (nomark _)) (pss_one (ps_ret (pe_tup (pa_cons pe_str (pa_cons (pv 5) (pa_cons (pe_call (ok_law_any_word T) (hr.mono (by decide)) rfl T.g_law_any_word T.kp_law_any_word T.b_law_any_word .nil pass0 (pa_cons (pv 0) pa_nil)) (pa_cons (pe_cmpR op_eq (pe_op op_mod (pe_call (ok_law_next T) (hr.mono (by decide)) rfl T.g_law_next T.kp_law_next T.b_law_next .nil pass0 (pa_cons (pv 0) pa_nil)) pe_int) pe_int (nomark _)) pa_nil))))))) pss_nil)
      (pss_one (ps_ret (pe_tup (pa_cons pe_str (pa_cons (pv 5) pa_nil)))))))))), ?_⟩
    unfold m_law_deed at hm
    refine f_seq ?_
    refine c_asg ?_
    refine c_op ?_
    refine c_call ?_
    refine ea_to (ea_cons (ev_var rfl) ea_nil) ?_
    refine ⟨a_v_law_state, (v_law_state : (T3 Int Script Int)), star [lstA a_v_law_names (v_law_names : (List Str)), F], rfl, Sep.unstar (M := [stA a_v_law_state (v_law_state : T3 Int Script Int)]) (hS.sel [0, 1, 2] (by decide) rfl : Sep H (([stA a_v_law_state (v_law_state : T3 Int Script Int)] ++ [lstA a_v_law_names (v_law_names : (List Str)), F] : List (Asn G)))), R.wp_mono (R.wp_bind hm) (fun r1 hm H hS => ?_) (fun _ z => z)⟩
    have hS : Sep H ([stA a_v_law_state (r1.2 : T3 Int Script Int), lstA a_v_law_names (v_law_names : (List Str)), F] : List (Asn G)) := Sep.star (M := [stA a_v_law_state (r1.2 : T3 Int Script Int)]) hS
    refine ev_to ev_c ?_
    refine r_mod (by decide) ?_
    obtain ⟨y2, hy2, hm⟩ := wp_let hm
    refine n_is (w := (.int (y2))) (by rw [hy2]) ?_
    refine c_set (σ' := [some (.ref a_v_law_state), some (.ref a_v_law_names), some (.str (v_law_hand)), some (.int (v_law_puts)), some (.int (y2)), none]) rfl ?_
    refine sq_nx ?_
    refine f_seq ?_
    refine f_if ?_
    refine et_to (et_test (ev_i0 (ev_var rfl) ev_c)) ?_
    obtain ⟨hy, hn⟩ := R.wp_if hm
    refine ifK_2 (fun hb3 => ?_) (fun hb3 => ?_)
    · have hm := hy hb3
      refine c_ret ?_
      refine c_tup ?_
      refine c_cons ?_
      refine ev_to ev_c ?_
      refine c_cons ?_
      obtain ⟨h4, hm⟩ := R.wp_need hm
      obtain ⟨h5, hm⟩ := R.wp_need hm
      refine ev_to (ev_catS (ev_var rfl) (ev_cb (ea_cons (ev_add (ev_var rfl) ev_c) ea_nil) fun _ q => ⟨_, rfl, h4, q⟩) h5) ?_
      refine c_cons ?_
      refine c_call ?_
      refine ea_to (ea_cons (ev_var rfl) ea_nil) ?_
      refine ⟨a_v_law_state, (r1.2 : (T3 Int Script Int)), star [lstA a_v_law_names (v_law_names : (List Str)), F], rfl, Sep.unstar (M := [stA a_v_law_state (r1.2 : T3 Int Script Int)]) (hS.sel [0, 1, 2] (by decide) rfl : Sep H (([stA a_v_law_state (r1.2 : T3 Int Script Int)] ++ [lstA a_v_law_names (v_law_names : (List Str)), F] : List (Asn G)))), R.wp_mono (R.wp_bind hm) (fun r6 hm p7 H hS => ?_) (fun _ z => z)⟩
      have hS : Sep H ([imA (.ref p7) (r6.1 : (T5 Str Str Str Int Str)), stA a_v_law_state (r6.2 : T3 Int Script Int), lstA a_v_law_names (v_law_names : (List Str)), F] : List (Asn G)) := Sep.star (M := [imA (.ref p7) (r6.1 : (T5 Str Str Str Int Str)), stA a_v_law_state (r6.2 : T3 Int Script Int)]) hS
      refine c_nil ?_
      obtain ⟨u9, u10, u11, u12, u13, hT19, h14, h15, h16, h17, h18⟩ := im5 (hS.im (i := 0) rfl)
      obtain rfl : u9 = (.str (r6.1.a)) := h14
      obtain rfl : u10 = (.str (r6.1.b)) := h15
      obtain rfl : u11 = (.str (r6.1.c)) := h16
      obtain rfl : u12 = (.int (r6.1.d)) := h17
      obtain rfl : u13 = (.str (r6.1.e)) := h18
      refine k_tupA (vs := [(.str (("put" : Str))), (.str (v_law_hand ++ (Str.ofString (toString (v_law_puts + 1 : Int))))), (.ref p7)]) (xs := [(Any.str ("put" : Str)), (Any.str (v_law_hand ++ (Str.ofString (toString (v_law_puts + 1 : Int))))), (Any.tup [(Any.str r6.1.a), (Any.str r6.1.b), (Any.str r6.1.c), (Any.int r6.1.d), (Any.str r6.1.e)])]) hS ⟨(any_str.mpr rfl), ⟨(any_str.mpr rfl), ⟨((any_tup (xs := [(Any.str r6.1.a), (Any.str r6.1.b), (Any.str r6.1.c), (Any.int r6.1.d), (Any.str r6.1.e)])).mpr ⟨_, _, rfl, hT19, ⟨(any_str.mpr rfl), ⟨(any_str.mpr rfl), ⟨(any_str.mpr rfl), ⟨(any_int.mpr rfl), ⟨(any_str.mpr rfl), True.intro⟩⟩⟩⟩⟩⟩), True.intro⟩⟩⟩ (by show 3 ≤ sizeLine; decide) fun p20 H hS => ?_
      exact hm _ _ (hS.sel [0, 2, 3, 4] (by decide) rfl)
    · have hm := hn (by rw [hb3]; decide)
      refine st_nx ?_
      refine sq_nx ?_
      refine f_seq ?_
      refine c_asg ?_
      refine c_op ?_
      refine c_fz ?_
      refine c_lst ?_
      refine c_cons ?_
      refine c_call ?_
      refine ea_to (ea_cons (ev_var rfl) ea_nil) ?_
      refine ⟨a_v_law_state, (r1.2 : (T3 Int Script Int)), star [lstA a_v_law_names (v_law_names : (List Str)), F], rfl, Sep.unstar (M := [stA a_v_law_state (r1.2 : T3 Int Script Int)]) (hS.sel [0, 1, 2] (by decide) rfl : Sep H (([stA a_v_law_state (r1.2 : T3 Int Script Int)] ++ [lstA a_v_law_names (v_law_names : (List Str)), F] : List (Asn G)))), R.wp_mono (R.wp_bind hm) (fun r22 hm H hS => ?_) (fun _ z => z)⟩
      have hS : Sep H ([stA a_v_law_state (r22.2 : T3 Int Script Int), lstA a_v_law_names (v_law_names : (List Str)), F] : List (Asn G)) := Sep.star (M := [stA a_v_law_state (r22.2 : T3 Int Script Int)]) hS
      refine c_cons ?_
      refine c_op ?_
      refine c_fz ?_
      refine c_op ?_
      refine ev_to (ev_fz (ev_var rfl)) ?_
      refine c_fz ?_
      refine c_lst ?_
      obtain ⟨h23, hm⟩ := R.wp_need hm
      refine ea_to (ea_cons (ev_catS (ev_var rfl) ev_c h23) ea_nil) ?_
      refine k_lst (α := Str) (vs := [(.str (v_law_hand ++ ("1" : Str)))]) (xs := [v_law_hand ++ ("1" : Str)]) hS ⟨rfl, True.intro⟩ (by show 1 ≤ sizeLine; decide) fun p24 H hS => ?_
      refine fz_no ?_
      obtain ⟨h25, hm⟩ := R.wp_need hm
      refine k_cat hS (i := 2) (j := 0) rfl rfl h25 fun p26 H hS => ?_
      refine fz_no ?_
      refine c_op ?_
      refine c_call ?_
      refine ea_to (ea_cons (ev_var rfl) ea_nil) ?_
      refine ⟨a_v_law_state, (r22.2 : (T3 Int Script Int)), star [lstA p26 (v_law_names ++ ([v_law_hand ++ ("1" : Str)]) : (List Str)), lstA p24 ([v_law_hand ++ ("1" : Str)] : (List Str)), lstA a_v_law_names (v_law_names : (List Str)), F], rfl, Sep.unstar (M := [stA a_v_law_state (r22.2 : T3 Int Script Int)]) (hS.sel [2, 0, 1, 3, 4] (by decide) rfl : Sep H (([stA a_v_law_state (r22.2 : T3 Int Script Int)] ++ [lstA p26 (v_law_names ++ ([v_law_hand ++ ("1" : Str)]) : (List Str)), lstA p24 ([v_law_hand ++ ("1" : Str)] : (List Str)), lstA a_v_law_names (v_law_names : (List Str)), F] : List (Asn G)))), R.wp_mono (R.wp_bind hm) (fun r27 hm H hS => ?_) (fun _ z => z)⟩
      have hS : Sep H ([stA a_v_law_state (r27.2 : T3 Int Script Int), lstA p26 (v_law_names ++ ([v_law_hand ++ ("1" : Str)]) : (List Str)), lstA p24 ([v_law_hand ++ ("1" : Str)] : (List Str)), lstA a_v_law_names (v_law_names : (List Str)), F] : List (Asn G)) := Sep.star (M := [stA a_v_law_state (r27.2 : T3 Int Script Int)]) hS
      refine ev_to (ev_add (ev_lenLm (ev_fz (ev_var rfl)) (hS.sqF (i := 3) rfl)) ev_c) ?_
      obtain ⟨h28, hm⟩ := R.wp_need hm
      refine r_mod h28 ?_
      obtain ⟨x29, hx29, hm⟩ := wp_idx hm
      refine r_ixSq (hS.sqF (i := 1) rfl) (atI_map hx29) _ ?_
      refine c_nil ?_
      refine k_lst (α := Str) (vs := [(.str (r22.1)), (.str (x29))]) (xs := [r22.1, x29]) hS ⟨rfl, ⟨rfl, True.intro⟩⟩ (by show 2 ≤ sizeLine; decide) fun p30 H hS => ?_
      refine fz_no ?_
      refine c_op ?_
      refine c_call ?_
      refine ea_to (ea_cons (ev_var rfl) ea_nil) ?_
      refine ⟨a_v_law_state, (r27.2 : (T3 Int Script Int)), star [lstA p30 ([r22.1, x29] : (List Str)), lstA p26 (v_law_names ++ ([v_law_hand ++ ("1" : Str)]) : (List Str)), lstA p24 ([v_law_hand ++ ("1" : Str)] : (List Str)), lstA a_v_law_names (v_law_names : (List Str)), F], rfl, Sep.unstar (M := [stA a_v_law_state (r27.2 : T3 Int Script Int)]) (hS.sel [1, 0, 2, 3, 4, 5] (by decide) rfl : Sep H (([stA a_v_law_state (r27.2 : T3 Int Script Int)] ++ [lstA p30 ([r22.1, x29] : (List Str)), lstA p26 (v_law_names ++ ([v_law_hand ++ ("1" : Str)]) : (List Str)), lstA p24 ([v_law_hand ++ ("1" : Str)] : (List Str)), lstA a_v_law_names (v_law_names : (List Str)), F] : List (Asn G)))), R.wp_mono (R.wp_bind hm) (fun r31 hm H hS => ?_) (fun _ z => z)⟩
      have hS : Sep H ([stA a_v_law_state (r31.2 : T3 Int Script Int), lstA p30 ([r22.1, x29] : (List Str)), lstA p26 (v_law_names ++ ([v_law_hand ++ ("1" : Str)]) : (List Str)), lstA p24 ([v_law_hand ++ ("1" : Str)] : (List Str)), lstA a_v_law_names (v_law_names : (List Str)), F] : List (Asn G)) := Sep.star (M := [stA a_v_law_state (r31.2 : T3 Int Script Int)]) hS
      refine ev_to ev_c ?_
      refine r_mod (by decide) ?_
      obtain ⟨x32, hx32, hm⟩ := wp_idx hm
      refine r_ixSq (hS.sqF (i := 1) rfl) (atI_map hx32) _ ?_
      refine c_set (σ' := [some (.ref a_v_law_state), some (.ref a_v_law_names), some (.str (v_law_hand)), some (.int (v_law_puts)), some (.int (y2)), some (.str (x32))]) rfl ?_
      refine sq_nx ?_
      refine f_seq ?_
      refine f_if ?_
      refine et_to (et_test (ev_i0 (ev_var rfl) ev_c)) ?_
      obtain ⟨hy, hn⟩ := R.wp_if hm
      refine ifK_2 (fun hb33 => ?_) (fun hb33 => ?_)
      · have hm := hy hb33
        refine c_ret ?_
        refine c_tup ?_
        refine c_cons ?_
        refine ev_to ev_c ?_
        refine c_cons ?_
        refine ev_to (ev_var rfl) ?_
        refine c_cons ?_
        refine c_call ?_
        refine ea_to (ea_cons (ev_var rfl) ea_nil) ?_
        refine ⟨a_v_law_state, (r31.2 : (T3 Int Script Int)), star [lstA p30 ([r22.1, x29] : (List Str)), lstA p26 (v_law_names ++ ([v_law_hand ++ ("1" : Str)]) : (List Str)), lstA p24 ([v_law_hand ++ ("1" : Str)] : (List Str)), lstA a_v_law_names (v_law_names : (List Str)), F], rfl, Sep.unstar (M := [stA a_v_law_state (r31.2 : T3 Int Script Int)]) (hS.sel [0, 1, 2, 3, 4, 5] (by decide) rfl : Sep H (([stA a_v_law_state (r31.2 : T3 Int Script Int)] ++ [lstA p30 ([r22.1, x29] : (List Str)), lstA p26 (v_law_names ++ ([v_law_hand ++ ("1" : Str)]) : (List Str)), lstA p24 ([v_law_hand ++ ("1" : Str)] : (List Str)), lstA a_v_law_names (v_law_names : (List Str)), F] : List (Asn G)))), R.wp_mono (R.wp_bind hm) (fun r34 hm H hS => ?_) (fun _ z => z)⟩
        have hS : Sep H ([stA a_v_law_state (r34.2 : T3 Int Script Int), lstA p30 ([r22.1, x29] : (List Str)), lstA p26 (v_law_names ++ ([v_law_hand ++ ("1" : Str)]) : (List Str)), lstA p24 ([v_law_hand ++ ("1" : Str)] : (List Str)), lstA a_v_law_names (v_law_names : (List Str)), F] : List (Asn G)) := Sep.star (M := [stA a_v_law_state (r34.2 : T3 Int Script Int)]) hS
        refine c_nil ?_
        refine k_tupA (vs := [(.str (("place" : Str))), (.str (x32)), (.str (r34.1))]) (xs := [(Any.str ("place" : Str)), (Any.str x32), (Any.str r34.1)]) hS ⟨(any_str.mpr rfl), ⟨(any_str.mpr rfl), ⟨(any_str.mpr rfl), True.intro⟩⟩⟩ (by show 3 ≤ sizeLine; decide) fun p35 H hS => ?_
        exact hm _ _ (hS.sel [0, 1, 5, 6] (by decide) rfl)
      · have hm := hn (by rw [hb33]; decide)
        refine st_nx ?_
        refine sq_nx ?_
        refine f_seq ?_
        refine f_if ?_
        refine et_to (et_test (ev_i0 (ev_var rfl) ev_c)) ?_
        obtain ⟨hy, hn⟩ := R.wp_if hm
        refine ifK_2 (fun hb37 => ?_) (fun hb37 => ?_)
        · have hm := hy hb37
          refine c_ret ?_
          refine c_tup ?_
          refine c_cons ?_
          refine ev_to ev_c ?_
          refine c_cons ?_
          refine ev_to (ev_var rfl) ?_
          refine c_cons ?_
          refine c_call ?_
          refine ea_to (ea_cons (ev_var rfl) ea_nil) ?_
          refine ⟨a_v_law_state, (r31.2 : (T3 Int Script Int)), star [lstA p30 ([r22.1, x29] : (List Str)), lstA p26 (v_law_names ++ ([v_law_hand ++ ("1" : Str)]) : (List Str)), lstA p24 ([v_law_hand ++ ("1" : Str)] : (List Str)), lstA a_v_law_names (v_law_names : (List Str)), F], rfl, Sep.unstar (M := [stA a_v_law_state (r31.2 : T3 Int Script Int)]) (hS.sel [0, 1, 2, 3, 4, 5] (by decide) rfl : Sep H (([stA a_v_law_state (r31.2 : T3 Int Script Int)] ++ [lstA p30 ([r22.1, x29] : (List Str)), lstA p26 (v_law_names ++ ([v_law_hand ++ ("1" : Str)]) : (List Str)), lstA p24 ([v_law_hand ++ ("1" : Str)] : (List Str)), lstA a_v_law_names (v_law_names : (List Str)), F] : List (Asn G)))), R.wp_mono (R.wp_bind hm) (fun r38 hm H hS => ?_) (fun _ z => z)⟩
          have hS : Sep H ([stA a_v_law_state (r38.2 : T3 Int Script Int), lstA p30 ([r22.1, x29] : (List Str)), lstA p26 (v_law_names ++ ([v_law_hand ++ ("1" : Str)]) : (List Str)), lstA p24 ([v_law_hand ++ ("1" : Str)] : (List Str)), lstA a_v_law_names (v_law_names : (List Str)), F] : List (Asn G)) := Sep.star (M := [stA a_v_law_state (r38.2 : T3 Int Script Int)]) hS
          refine c_cons ?_
          refine c_op ?_
          refine c_op ?_
          refine c_call ?_
          refine ea_to (ea_cons (ev_var rfl) ea_nil) ?_
          refine ⟨a_v_law_state, (r38.2 : (T3 Int Script Int)), star [lstA p30 ([r22.1, x29] : (List Str)), lstA p26 (v_law_names ++ ([v_law_hand ++ ("1" : Str)]) : (List Str)), lstA p24 ([v_law_hand ++ ("1" : Str)] : (List Str)), lstA a_v_law_names (v_law_names : (List Str)), F], rfl, Sep.unstar (M := [stA a_v_law_state (r38.2 : T3 Int Script Int)]) (hS.sel [0, 1, 2, 3, 4, 5] (by decide) rfl : Sep H (([stA a_v_law_state (r38.2 : T3 Int Script Int)] ++ [lstA p30 ([r22.1, x29] : (List Str)), lstA p26 (v_law_names ++ ([v_law_hand ++ ("1" : Str)]) : (List Str)), lstA p24 ([v_law_hand ++ ("1" : Str)] : (List Str)), lstA a_v_law_names (v_law_names : (List Str)), F] : List (Asn G)))), R.wp_mono (R.wp_bind hm) (fun r39 hm H hS => ?_) (fun _ z => z)⟩
          have hS : Sep H ([stA a_v_law_state (r39.2 : T3 Int Script Int), lstA p30 ([r22.1, x29] : (List Str)), lstA p26 (v_law_names ++ ([v_law_hand ++ ("1" : Str)]) : (List Str)), lstA p24 ([v_law_hand ++ ("1" : Str)] : (List Str)), lstA a_v_law_names (v_law_names : (List Str)), F] : List (Asn G)) := Sep.star (M := [stA a_v_law_state (r39.2 : T3 Int Script Int)]) hS
          refine ev_to ev_c ?_
          refine r_mod (by decide) ?_
          refine ev_to ev_c ?_
          refine ev_op2 (ev_eqI ev_c ev_c) ?_
          refine c_nil ?_
          refine k_tupA (vs := [(.str (("mark" : Str))), (.str (x32)), (.str (r38.1)), (.bl (decide ((r39.1 % 2) = 1)))]) (xs := [(Any.str ("mark" : Str)), (Any.str x32), (Any.str r38.1), (Any.bl (decide ((r39.1 % 2) = 1)))]) hS ⟨(any_str.mpr rfl), ⟨(any_str.mpr rfl), ⟨(any_str.mpr rfl), ⟨(any_bl.mpr rfl), True.intro⟩⟩⟩⟩ (by show 4 ≤ sizeLine; decide) fun p40 H hS => ?_
          exact hm _ _ (hS.sel [0, 1, 5, 6] (by decide) rfl)
        · have hm := hn (by rw [hb37]; decide)
          refine st_nx ?_
          refine sq_nx ?_
          refine c_ret ?_
          refine c_tup ?_
          refine ea_to (ea_cons ev_c (ea_cons (ev_var rfl) ea_nil)) ?_
          refine k_tupA (vs := [(.str (("drop" : Str))), (.str (x32))]) (xs := [(Any.str ("drop" : Str)), (Any.str x32)]) hS ⟨(any_str.mpr rfl), ⟨(any_str.mpr rfl), True.intro⟩⟩ (by show 2 ≤ sizeLine; decide) fun p42 H hS => ?_
          exact hm _ _ (hS.sel [0, 1, 5, 6] (by decide) rfl)
def sp_law_no_word (G : Gx) : Sp := fun vs H Q E => ∃ (a_v_law_state : Addr) (v_law_state : (T3 Int Script Int)) (F : Asn G), vs = [.ref a_v_law_state] ∧ Sep H ([stA a_v_law_state (v_law_state : T3 Int Script Int), F] : List (Asn G)) ∧ R.wp (m_law_no_word v_law_state) (fun r => ∀ (p : V) H', Sep H' ([imA p (r.1 : Any), stA a_v_law_state (r.2 : T3 Int Script Int), F] : List (Asn G)) → Q p H') (fun _ => False)
abbrev N_law_no_word : List Str := ["_law_state", "_law_word_here", "_law_at", "_law_some"]
theorem sc_law_no_word : FnScope N_law_no_word ["_law_state"] (defScope s_law_no_word) := ⟨rfl, rfl, rfl, by decide +kernel, rfl, by decide +kernel, by decide +kernel⟩
theorem ok_law_no_word (T : Txt G mg) : FnOk P w G.K mg base CX0 4 T.a_law_no_word T.fd_law_no_word ["_law_state"] (sp_law_no_word G) := by
  have nd := sc_law_no_word.nd
  refine Fun.ok T.F_law_no_word sc_law_no_word (fun vs H Q E h => ?_) (fun cdv A outer s H vs Q E hr h => ?_)
  · obtain ⟨a_v_law_state, v_law_state, F, rfl, _⟩ := h; rfl
  · obtain ⟨a_v_law_state, v_law_state, F, rfl, hS, hm⟩ := h
    refine ⟨_, (pss_cons (ps_set (i := 1) nd rfl (Or.inl rfl) (pe_call (ok_law_any_word T) (hr.mono (by decide)) rfl T.g_law_any_word T.kp_law_any_word T.b_law_any_word .nil pass0 (pa_cons (pv 0) pa_nil)))
      (pss_cons (ps_set (i := 2) nd rfl (Or.inl rfl) (pe_op op_mod (pe_call (ok_law_next T) (hr.mono (by decide)) rfl T.g_law_next T.kp_law_next T.b_law_next .nil pass0 (pa_cons (pv 0) pa_nil)) (pe_op op_add (pe_callB call_lenS (by rfl) T.z_len PySem.boot_len (pa_cons (pv 1) pa_nil)) pe_int)))
      (pss_cons (ps_set (i := 3) nd rfl (Or.inl rfl) (pe_fz (pe_lst (pa_cons pe_str (pa_cons (pe_op op_catS (pe_op op_catS (pe_slice sl_str (pv 1) po_none (po_some (pv 2))) pe_str) (pe_slice sl_str (pv 1) (po_some (pv 2)) (po_some pe_int))) (pa_cons (pe_op op_catS (pe_op op_catS (pe_slice sl_str (pv 1) po_none (po_some (pv 2))) pe_str) (pe_slice sl_str (pv 1) (po_some (pv 2)) (po_some pe_int))) (pa_cons (pe_op op_repS (pv 1) pe_int) (pa_cons pe_non (pa_cons pe_int (pa_cons (pe_fz (pe_lst (pa_cons (pv 1) pa_nil))) pa_nil))))))))))
      (pss_one (ps_ret (pe_ix (ix_listK G.K) (pe_fz (pv 3)) (pe_op op_mod (pe_call (ok_law_next T) (hr.mono (by decide)) rfl T.g_law_next T.kp_law_next T.b_law_next .nil pass0 (pa_cons (pv 0) pa_nil)) pe_int) (fun _ _ => rfl))))))), ?_⟩
    unfold m_law_no_word at hm
    refine f_seq ?_
    refine c_asg ?_
    refine c_call ?_
    refine ea_to (ea_cons (ev_var rfl) ea_nil) ?_
    refine ⟨a_v_law_state, (v_law_state : (T3 Int Script Int)), star [F], rfl, Sep.unstar (M := [stA a_v_law_state (v_law_state : T3 Int Script Int)]) (hS.sel [0, 1] (by decide) rfl : Sep H (([stA a_v_law_state (v_law_state : T3 Int Script Int)] ++ [F] : List (Asn G)))), R.wp_mono (R.wp_bind hm) (fun r1 hm H hS => ?_) (fun _ z => z)⟩
    have hS : Sep H ([stA a_v_law_state (r1.2 : T3 Int Script Int), F] : List (Asn G)) := Sep.star (M := [stA a_v_law_state (r1.2 : T3 Int Script Int)]) hS
    refine c_set (σ' := [some (.ref a_v_law_state), some (.str (r1.1)), none, none]) rfl ?_
    refine sq_nx ?_
    refine f_seq ?_
    refine c_asg ?_
    refine c_op ?_
    refine c_call ?_
    refine ea_to (ea_cons (ev_var rfl) ea_nil) ?_
    refine ⟨a_v_law_state, (r1.2 : (T3 Int Script Int)), star [F], rfl, Sep.unstar (M := [stA a_v_law_state (r1.2 : T3 Int Script Int)]) (hS.sel [0, 1] (by decide) rfl : Sep H (([stA a_v_law_state (r1.2 : T3 Int Script Int)] ++ [F] : List (Asn G)))), R.wp_mono (R.wp_bind hm) (fun r2 hm H hS => ?_) (fun _ z => z)⟩
    have hS : Sep H ([stA a_v_law_state (r2.2 : T3 Int Script Int), F] : List (Asn G)) := Sep.star (M := [stA a_v_law_state (r2.2 : T3 Int Script Int)]) hS
    obtain ⟨h3, hm⟩ := R.wp_need hm
    refine ev_to (ev_add (ev_lenS (ev_var rfl) h3) ev_c) ?_
    obtain ⟨h4, hm⟩ := R.wp_need hm
    refine r_mod h4 ?_
    obtain ⟨y5, hy5, hm⟩ := wp_let hm
    refine n_is (w := (.int (y5))) (by rw [hy5]) ?_
    refine c_set (σ' := [some (.ref a_v_law_state), some (.str (r1.1)), some (.int (y5)), none]) rfl ?_
    refine sq_nx ?_
    refine f_seq ?_
    refine c_asg ?_
    refine c_fz ?_
    refine c_lst ?_
    refine c_cons ?_
    refine ev_to ev_c ?_
    refine c_cons ?_
    obtain ⟨h6, hm⟩ := R.wp_need hm
    obtain ⟨h7, hm⟩ := R.wp_need hm
    obtain ⟨h8, hm⟩ := R.wp_need hm
    obtain ⟨h9, hm⟩ := R.wp_need hm
    refine ev_to (ev_catS (ev_catS (ev_slS (ev_var rfl) eo_no (eo_some (ev_var rfl)) h6) ev_c h7) (ev_slS (ev_var rfl) (eo_some (ev_var rfl)) (eo_some ev_c) h8) h9) ?_
    refine c_cons ?_
    obtain ⟨h10, hm⟩ := R.wp_need hm
    obtain ⟨h11, hm⟩ := R.wp_need hm
    obtain ⟨h12, hm⟩ := R.wp_need hm
    obtain ⟨h13, hm⟩ := R.wp_need hm
    refine ev_to (ev_catS (ev_catS (ev_slS (ev_var rfl) eo_no (eo_some (ev_var rfl)) h10) ev_c h11) (ev_slS (ev_var rfl) (eo_some (ev_var rfl)) (eo_some ev_c) h12) h13) ?_
    refine c_cons ?_
    obtain ⟨h14, hm⟩ := R.wp_need hm
    refine ev_to (ev_repS (ev_var rfl) ev_c h14) ?_
    refine c_cons ?_
    refine ev_to ev_c ?_
    refine c_cons ?_
    refine ev_to ev_c ?_
    refine c_cons ?_
    refine c_fz ?_
    refine c_lst ?_
    refine ea_to (ea_cons (ev_var rfl) ea_nil) ?_
    refine k_lst (α := Str) (vs := [(.str (r1.1))]) (xs := [r1.1]) hS ⟨rfl, True.intro⟩ (by show 1 ≤ sizeLine; decide) fun p15 H hS => ?_
    refine fz_yes (xs := ([r1.1] : (List Str))) hS (i := 0) rfl fun H hS => ?_
    have hS : Sep H ([imA (.ref p15) ([r1.1] : (List Str)), stA a_v_law_state (r2.2 : T3 Int Script Int), F] : List (Asn G)) := hS
    refine c_nil ?_
    refine k_lst (α := Any) (vs := [(.str (("" : Str))), (.str (((cutS r1.1 none (some (y5))) ++ ("A" : Str)) ++ (cutS r1.1 (some (y5)) (some (19))))), (.str (((cutS r1.1 none (some (y5))) ++ ("-" : Str)) ++ (cutS r1.1 (some (y5)) (some (19))))), (.str (repS r1.1 (21 : Int).toNat)), .non, (.int (7)), (.ref p15)]) (xs := [(Any.str ("" : Str)), (Any.str (((cutS r1.1 none (some (y5))) ++ ("A" : Str)) ++ (cutS r1.1 (some (y5)) (some (19))))), (Any.str (((cutS r1.1 none (some (y5))) ++ ("-" : Str)) ++ (cutS r1.1 (some (y5)) (some (19))))), (Any.str (repS r1.1 (21 : Int).toNat)), Any.non, (Any.int 7), (Any.lst (([r1.1]).map Any.str))]) hS ⟨(any_str.mpr rfl), ⟨(any_str.mpr rfl), ⟨(any_str.mpr rfl), ⟨(any_str.mpr rfl), ⟨(any_non.mpr rfl), ⟨(any_int.mpr rfl), ⟨(any_lstS (hS.im (i := 0) rfl)), True.intro⟩⟩⟩⟩⟩⟩⟩ (by show 7 ≤ sizeLine; decide) fun p17 H hS => ?_
    refine fz_no ?_
    obtain ⟨y18, hy18, hm⟩ := wp_let hm
    have hS : Sep H ([lstA p17 (y18 : (List Any)), imA (.ref p15) ([r1.1] : (List Str)), stA a_v_law_state (r2.2 : T3 Int Script Int), F] : List (Asn G)) := by rw [← hy18]; exact hS
    refine c_set (σ' := [some (.ref a_v_law_state), some (.str (r1.1)), some (.int (y5)), some (.ref p17)]) rfl ?_
    refine sq_nx ?_
    refine c_ret ?_
    refine c_op ?_
    refine ev_to (ev_fz (ev_var rfl)) ?_
    refine c_op ?_
    refine c_call ?_
    refine ea_to (ea_cons (ev_var rfl) ea_nil) ?_
    refine ⟨a_v_law_state, (r2.2 : (T3 Int Script Int)), star [lstA p17 (y18 : (List Any)), imA (.ref p15) ([r1.1] : (List Str)), F], rfl, Sep.unstar (M := [stA a_v_law_state (r2.2 : T3 Int Script Int)]) (hS.sel [2, 0, 1, 3] (by decide) rfl : Sep H (([stA a_v_law_state (r2.2 : T3 Int Script Int)] ++ [lstA p17 (y18 : (List Any)), imA (.ref p15) ([r1.1] : (List Str)), F] : List (Asn G)))), R.wp_mono (R.wp_bind hm) (fun r19 hm H hS => ?_) (fun _ z => z)⟩
    have hS : Sep H ([stA a_v_law_state (r19.2 : T3 Int Script Int), lstA p17 (y18 : (List Any)), imA (.ref p15) ([r1.1] : (List Str)), F] : List (Asn G)) := Sep.star (M := [stA a_v_law_state (r19.2 : T3 Int Script Int)]) hS
    refine ev_to ev_c ?_
    refine r_mod (by decide) ?_
    obtain ⟨x20, hx20, hm⟩ := wp_idx hm
    obtain ⟨vs21, hq22, hM23⟩ := hS.sq (i := 1) rfl
    obtain ⟨u24, hu25, hi26⟩ := atI_im hM23 hx20
    refine r_ixSq hq22 hu25 _ ?_
    have hS := hS.addIm (v := u24) (x := (x20 : Any)) hi26
    exact hm _ _ (hS.sel [0, 1, 4] (by decide) rfl)
def sp_law_no_parts (G : Gx) : Sp := fun vs H Q E => ∃ (a_v_law_state : Addr) (v_law_state : (T3 Int Script Int)) (a_v_law_parts_here : V) (v_law_parts_here : Any) (F : Asn G), vs = [.ref a_v_law_state, a_v_law_parts_here] ∧ Im.im G H a_v_law_parts_here v_law_parts_here ∧ Sep H ([stA a_v_law_state (v_law_state : T3 Int Script Int), F] : List (Asn G)) ∧ R.wp (m_law_no_parts v_law_state v_law_parts_here) (fun r => ∀ (p : V) H', Sep H' ([imA p (r.1 : Any), stA a_v_law_state (r.2 : T3 Int Script Int), F] : List (Asn G)) → Q p H') (fun _ => False)
abbrev N_law_no_parts : List Str := ["_law_state", "_law_parts_here", "_law_k", "_law_odd", "_law_some"]
theorem sc_law_no_parts : FnScope N_law_no_parts ["_law_state", "_law_parts_here"] (defScope s_law_no_parts) := ⟨rfl, rfl, rfl, by decide +kernel, rfl, by decide +kernel, by decide +kernel⟩
theorem ok_law_no_parts (T : Txt G mg) : FnOk P w G.K mg base CX0 5 T.a_law_no_parts T.fd_law_no_parts ["_law_state", "_law_parts_here"] (sp_law_no_parts G) := by
  have nd := sc_law_no_parts.nd
  refine Fun.ok T.F_law_no_parts sc_law_no_parts (fun vs H Q E h => ?_) (fun cdv A outer s H vs Q E hr h => ?_)
  · obtain ⟨a_v_law_state, v_law_state, a_v_law_parts_here, v_law_parts_here, F, rfl, _⟩ := h; rfl
  · obtain ⟨a_v_law_state, v_law_state, a_v_law_parts_here, v_law_parts_here, F, rfl, him_v_law_parts_here, hS, hm⟩ := h
    have hS := hS.addIm him_v_law_parts_here
    refine ⟨_, (pss_cons (ps_set (i := 2) nd rfl (Or.inl rfl) (pe_op op_mod (pe_call (ok_law_next T) (hr.mono (by decide)) rfl T.g_law_next T.kp_law_next T.b_law_next .nil pass0 (pa_cons (pv 0) pa_nil)) pe_int))
      (pss_cons (ps_set (i := 3) nd rfl (Or.inl rfl) (pe_ix (ix_listK G.K) (pe_fz (pe_lst (pa_cons (pe_call (ok_law_no_word T) (hr.mono (by decide)) rfl T.g_law_no_word T.kp_law_no_word T.b_law_no_word .nil pass0 (pa_cons (pv 0) pa_nil)) (pa_cons (pe_op op_repS pe_str pe_int) (pa_cons (pe_op op_repS pe_str pe_int) (pa_cons pe_int (pa_cons (pe_call (ok_law_no_word T) (hr.mono (by decide)) rfl T.g_law_no_word T.kp_law_no_word T.b_law_no_word .nil pass0 (pa_cons (pv 0) pa_nil)) pa_nil))))))) (pv 2) (fun _ _ => rfl)))
      (pss_cons (ps_if (pt_cmpR (eqDK G.K hr.units) (pv 3) pe_str (nomark _)) (pss_one (ps_set (i := 3) nd rfl (Or.inl rfl) pe_str)) pss_nil)
      (pss_cons (ps_set (i := 4) nd rfl (Or.inl rfl) (pe_fz (pe_lst (pa_cons (pe_op (catAK G.K) (pe_op (catAK G.K) (pe_slice (sl_tupK G.K) (pv 1) po_none (po_some (pv 2))) (pe_tup (pa_cons (pv 3) pa_nil))) (pe_slice (sl_tupK G.K) (pv 1) (po_some (pe_op op_add (pv 2) pe_int)) po_none)) (pa_cons (pe_fz (pe_callTy (listSqK G.K) (by rfl) T.z_list (by decide +kernel) (pa_cons (pv 1) pa_nil))) (pa_cons (pe_op (catAK G.K) (pv 1) (pe_tup (pa_cons pe_str pa_nil))) (pa_cons (pe_slice (sl_tupK G.K) (pv 1) po_none (po_some pe_int)) (pa_cons pe_non (pa_cons (pe_tup (pa_cons pe_str (pa_cons pe_str (pa_cons pe_str (pa_cons pe_int (pa_cons pe_str pa_nil)))))) pa_nil)))))))))
      (pss_one (ps_ret (pe_ix (ix_listK G.K) (pe_fz (pv 4)) (pe_op op_mod (pe_call (ok_law_next T) (hr.mono (by decide)) rfl T.g_law_next T.kp_law_next T.b_law_next .nil pass0 (pa_cons (pv 0) pa_nil)) pe_int) (fun _ _ => rfl)))))))), ?_⟩
    unfold m_law_no_parts at hm
    refine f_seq ?_
    refine c_asg ?_
    refine c_op ?_
    refine c_call ?_
    refine ea_to (ea_cons (ev_var rfl) ea_nil) ?_
    refine ⟨a_v_law_state, (v_law_state : (T3 Int Script Int)), star [imA a_v_law_parts_here (v_law_parts_here : Any), F], rfl, Sep.unstar (M := [stA a_v_law_state (v_law_state : T3 Int Script Int)]) (hS.sel [1, 0, 2] (by decide) rfl : Sep H (([stA a_v_law_state (v_law_state : T3 Int Script Int)] ++ [imA a_v_law_parts_here (v_law_parts_here : Any), F] : List (Asn G)))), R.wp_mono (R.wp_bind hm) (fun r1 hm H hS => ?_) (fun _ z => z)⟩
    have hS : Sep H ([stA a_v_law_state (r1.2 : T3 Int Script Int), imA a_v_law_parts_here (v_law_parts_here : Any), F] : List (Asn G)) := Sep.star (M := [stA a_v_law_state (r1.2 : T3 Int Script Int)]) hS
    refine ev_to ev_c ?_
    refine r_mod (by decide) ?_
    obtain ⟨y2, hy2, hm⟩ := wp_let hm
    refine n_is (w := (.int (y2))) (by rw [hy2]) ?_
    refine c_set (σ' := [some (.ref a_v_law_state), some a_v_law_parts_here, some (.int (y2)), none, none]) rfl ?_
    refine sq_nx ?_
    refine f_seq ?_
    refine c_asg ?_
    refine c_op ?_
    refine c_fz ?_
    refine c_lst ?_
    refine c_cons ?_
    refine c_call ?_
    refine ea_to (ea_cons (ev_var rfl) ea_nil) ?_
    refine ⟨a_v_law_state, (r1.2 : (T3 Int Script Int)), star [imA a_v_law_parts_here (v_law_parts_here : Any), F], rfl, Sep.unstar (M := [stA a_v_law_state (r1.2 : T3 Int Script Int)]) (hS.sel [0, 1, 2] (by decide) rfl : Sep H (([stA a_v_law_state (r1.2 : T3 Int Script Int)] ++ [imA a_v_law_parts_here (v_law_parts_here : Any), F] : List (Asn G)))), R.wp_mono (R.wp_bind hm) (fun r3 hm p4 H hS => ?_) (fun _ z => z)⟩
    have hS : Sep H ([imA p4 (r3.1 : Any), stA a_v_law_state (r3.2 : T3 Int Script Int), imA a_v_law_parts_here (v_law_parts_here : Any), F] : List (Asn G)) := Sep.star (M := [imA p4 (r3.1 : Any), stA a_v_law_state (r3.2 : T3 Int Script Int)]) hS
    refine c_cons ?_
    obtain ⟨h6, hm⟩ := R.wp_need hm
    refine ev_to (ev_repS ev_c ev_c h6) ?_
    refine c_cons ?_
    obtain ⟨h7, hm⟩ := R.wp_need hm
    refine ev_to (ev_repS ev_c ev_c h7) ?_
    refine c_cons ?_
    refine ev_to ev_c ?_
    refine c_cons ?_
    refine c_call ?_
    refine ea_to (ea_cons (ev_var rfl) ea_nil) ?_
    refine ⟨a_v_law_state, (r3.2 : (T3 Int Script Int)), star [imA p4 (r3.1 : Any), imA a_v_law_parts_here (v_law_parts_here : Any), F], rfl, Sep.unstar (M := [stA a_v_law_state (r3.2 : T3 Int Script Int)]) (hS.sel [1, 0, 2, 3] (by decide) rfl : Sep H (([stA a_v_law_state (r3.2 : T3 Int Script Int)] ++ [imA p4 (r3.1 : Any), imA a_v_law_parts_here (v_law_parts_here : Any), F] : List (Asn G)))), R.wp_mono (R.wp_bind hm) (fun r8 hm p9 H hS => ?_) (fun _ z => z)⟩
    have hS : Sep H ([imA p9 (r8.1 : Any), stA a_v_law_state (r8.2 : T3 Int Script Int), imA p4 (r3.1 : Any), imA a_v_law_parts_here (v_law_parts_here : Any), F] : List (Asn G)) := Sep.star (M := [imA p9 (r8.1 : Any), stA a_v_law_state (r8.2 : T3 Int Script Int)]) hS
    refine c_nil ?_
    refine k_lst (α := Any) (vs := [p4, (.str (repS ("t" : Str) (61 : Int).toNat)), (.str (repS ("b" : Str) (401 : Int).toNat)), (.int (10000)), p9]) (xs := [r3.1, (Any.str (repS ("t" : Str) (61 : Int).toNat)), (Any.str (repS ("b" : Str) (401 : Int).toNat)), (Any.int 10000), r8.1]) hS ⟨(hS.im (i := 2) rfl), ⟨(any_str.mpr rfl), ⟨(any_str.mpr rfl), ⟨(any_int.mpr rfl), ⟨(hS.im (i := 0) rfl), True.intro⟩⟩⟩⟩⟩ (by show 5 ≤ sizeLine; decide) fun p11 H hS => ?_
    refine fz_no ?_
    refine ev_to (ev_var rfl) ?_
    obtain ⟨x12, hx12, hm⟩ := wp_idx hm
    obtain ⟨vs13, hq14, hM15⟩ := hS.sq (i := 0) rfl
    obtain ⟨u16, hu17, hi18⟩ := atI_im hM15 hx12
    refine r_ixSq hq14 hu17 _ ?_
    have hS := hS.addIm (v := u16) (x := (x12 : Any)) hi18
    refine c_set (σ' := [some (.ref a_v_law_state), some a_v_law_parts_here, some (.int (y2)), some u16, none]) rfl ?_
    refine sq_nx ?_
    refine f_seq ?_
    refine f_if ?_
    obtain ⟨b20, hb20, hm⟩ := wp_eqA hm
    refine et_to (et_test (ev_eqA (ev_var rfl) ev_c (hS.im (i := 0) rfl) (any_str.mpr rfl) hb20)) ?_
    refine ifK_J (τ := Any) (fun (s21 : Any) (σ : L2.St) (H : Hp) => ∃ (a22 : V), σ = [some (.ref a_v_law_state), some a_v_law_parts_here, some (.int (y2)), some a22, none] ∧ Sep H ([imA a22 (s21 : Any), imA u16 (x12 : Any), lstA p11 ([r3.1, (Any.str (repS ("t" : Str) (61 : Int).toNat)), (Any.str (repS ("b" : Str) (401 : Int).toNat)), (Any.int 10000), r8.1] : (List Any)), imA p9 (r8.1 : Any), stA a_v_law_state (r8.2 : T3 Int Script Int), imA p4 (r3.1 : Any), imA a_v_law_parts_here (v_law_parts_here : Any), F] : List (Asn G))) hm (fun hb q hm nx => ?_) (fun hb q hm nx => ?_) (fun s21 σ H hm hI => ?_)
    ·
      refine c_asg ?_
      refine ev_to ev_c ?_
      have hS := hS.addIm (v := (.str (("-" : Str)))) (x := ((Any.str ("-" : Str)) : Any)) (any_str.mpr rfl)
      refine c_set (σ' := [some (.ref a_v_law_state), some a_v_law_parts_here, some (.int (y2)), some (.str (("-" : Str))), none]) rfl ?_
      exact nx _ _ _ hm ⟨_, rfl, hS.sel [0, 1, 2, 3, 4, 5, 6, 7] (by decide) rfl⟩
    ·
      refine st_nx ?_
      have hS := hS.addIm (hS.im (i := 0) rfl)
      exact nx _ _ _ hm ⟨_, rfl, hS.sel [1, 0, 2, 3, 4, 5, 6, 7] (by decide) rfl⟩
    · obtain ⟨a22, rfl, hS⟩ := hI
      refine sq_nx ?_
      refine f_seq ?_
      refine c_asg ?_
      refine c_fz ?_
      refine c_lst ?_
      refine c_cons ?_
      refine c_op ?_
      refine c_op ?_
      refine c_sl ?_
      refine ev_to (ev_var rfl) ?_
      obtain ⟨xs26, h27, hm⟩ := Ml.wp_asTup hm
      obtain ⟨h28, hm⟩ := R.wp_need hm
      refine eo_to eo_no ?_
      refine eo_to (eo_some (ev_var rfl)) ?_
      refine k_slA (xs := xs26) hS (tupE (hS.im (i := 6) rfl) h27) h28 fun p29 H hS => ?_
      refine c_tup ?_
      refine ea_to (ea_cons (ev_var rfl) ea_nil) ?_
      refine k_tupP (x := ((⟨s21⟩ : T1 _) : (T1 Any))) hS (fun H' p h s => mk1 (hS.im (i := 1) rfl) h s) (by show 1 ≤ sizeLine; decide) fun p31 H hS => ?_
      obtain ⟨xs33, h34, hm⟩ := Ml.wp_asTup hm
      obtain ⟨u35, hT37, h36⟩ := im1 (hS.im (i := 0) rfl)
      obtain ⟨h38, hm⟩ := R.wp_need hm
      refine k_catA (xs := xs33) (ys := [(⟨s21⟩ : T1 _).a]) hS (tupE (hS.im (i := 1) rfl) h34) ((any_tup (xs := [(⟨s21⟩ : T1 _).a])).mpr ⟨_, _, rfl, hT37, ⟨h36, True.intro⟩⟩) h38 fun p39 H hS => ?_
      refine c_sl ?_
      refine ev_to (ev_var rfl) ?_
      obtain ⟨xs41, h42, hm⟩ := Ml.wp_asTup hm
      obtain ⟨h43, hm⟩ := R.wp_need hm
      refine eo_to (eo_some (ev_add (ev_var rfl) ev_c)) ?_
      refine eo_to eo_no ?_
      refine k_slA (xs := xs41) hS (tupE (hS.im (i := 9) rfl) h42) h43 fun p44 H hS => ?_
      obtain ⟨xs46, h47, hm⟩ := Ml.wp_asTup hm
      obtain ⟨xs48, h49, hm⟩ := Ml.wp_asTup hm
      obtain ⟨h50, hm⟩ := R.wp_need hm
      refine k_catA (xs := xs46) (ys := xs48) hS (tupE (hS.im (i := 1) rfl) h47) (tupE (hS.im (i := 0) rfl) h49) h50 fun p51 H hS => ?_
      refine c_cons ?_
      refine c_fz ?_
      refine c_cb ?_
      refine ea_to (ea_cons (ev_var rfl) ea_nil) ?_
      obtain ⟨xs54, h55, hm⟩ := Ml.wp_asTup hm
      refine k_listA (xs := xs54) hS (tupE (hS.im (i := 11) rfl) h55) fun p53 H hS => ?_
      refine fz_no ?_
      refine c_cons ?_
      refine c_op ?_
      refine ev_to (ev_var rfl) ?_
      refine c_tup ?_
      refine ea_to (ea_cons ev_c ea_nil) ?_
      refine k_tupP (x := ((⟨("" : Str)⟩ : T1 _) : (T1 Str))) hS (fun H' p h s => mk1 rfl h s) (by show 1 ≤ sizeLine; decide) fun p56 H hS => ?_
      obtain ⟨xs58, h59, hm⟩ := Ml.wp_asTup hm
      obtain ⟨u60, hT62, h61⟩ := im1 (hS.im (i := 0) rfl)
      obtain rfl : u60 = (.str ((⟨("" : Str)⟩ : T1 _).a)) := h61
      obtain ⟨h63, hm⟩ := R.wp_need hm
      refine k_catA (xs := xs58) (ys := [(Any.str ((⟨("" : Str)⟩ : T1 _).a))]) hS (tupE (hS.im (i := 13) rfl) h59) ((any_tup (xs := [(Any.str ((⟨("" : Str)⟩ : T1 _).a))])).mpr ⟨_, _, rfl, hT62, ⟨(any_str.mpr rfl), True.intro⟩⟩) h63 fun p64 H hS => ?_
      refine c_cons ?_
      refine c_sl ?_
      refine ev_to (ev_var rfl) ?_
      obtain ⟨xs66, h67, hm⟩ := Ml.wp_asTup hm
      obtain ⟨h68, hm⟩ := R.wp_need hm
      refine eo_to eo_no ?_
      refine eo_to (eo_some ev_c) ?_
      refine k_slA (xs := xs66) hS (tupE (hS.im (i := 14) rfl) h67) h68 fun p69 H hS => ?_
      refine c_cons ?_
      refine ev_to ev_c ?_
      refine c_cons ?_
      refine c_tup ?_
      refine ea_to (ea_cons ev_c (ea_cons ev_c (ea_cons ev_c (ea_cons ev_c (ea_cons ev_c ea_nil))))) ?_
      refine k_tupA (vs := [(.str (("" : Str))), (.str (("" : Str))), (.str (("" : Str))), (.int (0)), (.str (("" : Str)))]) (xs := [(Any.str ("" : Str)), (Any.str ("" : Str)), (Any.str ("" : Str)), (Any.int 0), (Any.str ("" : Str))]) hS ⟨(any_str.mpr rfl), ⟨(any_str.mpr rfl), ⟨(any_str.mpr rfl), ⟨(any_int.mpr rfl), ⟨(any_str.mpr rfl), True.intro⟩⟩⟩⟩⟩ (by show 5 ≤ sizeLine; decide) fun p71 H hS => ?_
      refine c_nil ?_
      refine k_lst (α := Any) (vs := [p51, (.ref p53), p64, p69, .non, (.ref p71)]) (xs := [(Any.tup (xs46 ++ xs48)), (Any.oth 0), (Any.tup (xs58 ++ [(Any.str ((⟨("" : Str)⟩ : T1 _).a))])), (Any.tup (cutL xs66 none (some (4)))), Any.non, (Any.tup [(Any.str ("" : Str)), (Any.str ("" : Str)), (Any.str ("" : Str)), (Any.int 0), (Any.str ("" : Str))])]) hS ⟨(hS.im (i := 5) rfl), ⟨(any_lst hS (i := 4) rfl), ⟨(hS.im (i := 2) rfl), ⟨(hS.im (i := 1) rfl), ⟨(any_non.mpr rfl), ⟨(hS.im (i := 0) rfl), True.intro⟩⟩⟩⟩⟩⟩ (by show 6 ≤ sizeLine; decide) fun p73 H hS => ?_
      refine fz_no ?_
      obtain ⟨y74, hy74, hm⟩ := wp_let hm
      have hS : Sep H ([lstA p73 (y74 : (List Any)), imA (.ref p71) ((Any.tup [(Any.str ("" : Str)), (Any.str ("" : Str)), (Any.str ("" : Str)), (Any.int 0), (Any.str ("" : Str))]) : Any), imA p69 ((Any.tup (cutL xs66 none (some (4)))) : Any), imA p64 ((Any.tup (xs58 ++ [(Any.str ((⟨("" : Str)⟩ : T1 _).a))])) : Any), imA (.ref p56) ((⟨("" : Str)⟩ : T1 _) : (T1 Str)), lstA p53 (xs54 : (List Any)), imA p51 ((Any.tup (xs46 ++ xs48)) : Any), imA p44 ((Any.tup (cutL xs41 (some (y2 + 1)) none)) : Any), imA p39 ((Any.tup (xs33 ++ [(⟨s21⟩ : T1 _).a])) : Any), imA (.ref p31) ((⟨s21⟩ : T1 _) : (T1 Any)), imA p29 ((Any.tup (cutL xs26 none (some (y2)))) : Any), imA a22 (s21 : Any), imA u16 (x12 : Any), lstA p11 ([r3.1, (Any.str (repS ("t" : Str) (61 : Int).toNat)), (Any.str (repS ("b" : Str) (401 : Int).toNat)), (Any.int 10000), r8.1] : (List Any)), imA p9 (r8.1 : Any), stA a_v_law_state (r8.2 : T3 Int Script Int), imA p4 (r3.1 : Any), imA a_v_law_parts_here (v_law_parts_here : Any), F] : List (Asn G)) := by rw [← hy74]; exact hS
      refine c_set (σ' := [some (.ref a_v_law_state), some a_v_law_parts_here, some (.int (y2)), some a22, some (.ref p73)]) rfl ?_
      refine sq_nx ?_
      refine c_ret ?_
      refine c_op ?_
      refine ev_to (ev_fz (ev_var rfl)) ?_
      refine c_op ?_
      refine c_call ?_
      refine ea_to (ea_cons (ev_var rfl) ea_nil) ?_
      refine ⟨a_v_law_state, (r8.2 : (T3 Int Script Int)), star [lstA p73 (y74 : (List Any)), imA (.ref p71) ((Any.tup [(Any.str ("" : Str)), (Any.str ("" : Str)), (Any.str ("" : Str)), (Any.int 0), (Any.str ("" : Str))]) : Any), imA p69 ((Any.tup (cutL xs66 none (some (4)))) : Any), imA p64 ((Any.tup (xs58 ++ [(Any.str ((⟨("" : Str)⟩ : T1 _).a))])) : Any), imA (.ref p56) ((⟨("" : Str)⟩ : T1 _) : (T1 Str)), lstA p53 (xs54 : (List Any)), imA p51 ((Any.tup (xs46 ++ xs48)) : Any), imA p44 ((Any.tup (cutL xs41 (some (y2 + 1)) none)) : Any), imA p39 ((Any.tup (xs33 ++ [(⟨s21⟩ : T1 _).a])) : Any), imA (.ref p31) ((⟨s21⟩ : T1 _) : (T1 Any)), imA p29 ((Any.tup (cutL xs26 none (some (y2)))) : Any), imA a22 (s21 : Any), imA u16 (x12 : Any), lstA p11 ([r3.1, (Any.str (repS ("t" : Str) (61 : Int).toNat)), (Any.str (repS ("b" : Str) (401 : Int).toNat)), (Any.int 10000), r8.1] : (List Any)), imA p9 (r8.1 : Any), imA p4 (r3.1 : Any), imA a_v_law_parts_here (v_law_parts_here : Any), F], rfl, Sep.unstar (M := [stA a_v_law_state (r8.2 : T3 Int Script Int)]) (hS.sel [15, 0, 1, 2, 3, 4, 5, 6, 7, 8, 9, 10, 11, 12, 13, 14, 16, 17, 18] (by decide) rfl : Sep H (([stA a_v_law_state (r8.2 : T3 Int Script Int)] ++ [lstA p73 (y74 : (List Any)), imA (.ref p71) ((Any.tup [(Any.str ("" : Str)), (Any.str ("" : Str)), (Any.str ("" : Str)), (Any.int 0), (Any.str ("" : Str))]) : Any), imA p69 ((Any.tup (cutL xs66 none (some (4)))) : Any), imA p64 ((Any.tup (xs58 ++ [(Any.str ((⟨("" : Str)⟩ : T1 _).a))])) : Any), imA (.ref p56) ((⟨("" : Str)⟩ : T1 _) : (T1 Str)), lstA p53 (xs54 : (List Any)), imA p51 ((Any.tup (xs46 ++ xs48)) : Any), imA p44 ((Any.tup (cutL xs41 (some (y2 + 1)) none)) : Any), imA p39 ((Any.tup (xs33 ++ [(⟨s21⟩ : T1 _).a])) : Any), imA (.ref p31) ((⟨s21⟩ : T1 _) : (T1 Any)), imA p29 ((Any.tup (cutL xs26 none (some (y2)))) : Any), imA a22 (s21 : Any), imA u16 (x12 : Any), lstA p11 ([r3.1, (Any.str (repS ("t" : Str) (61 : Int).toNat)), (Any.str (repS ("b" : Str) (401 : Int).toNat)), (Any.int 10000), r8.1] : (List Any)), imA p9 (r8.1 : Any), imA p4 (r3.1 : Any), imA a_v_law_parts_here (v_law_parts_here : Any), F] : List (Asn G)))), R.wp_mono (R.wp_bind hm) (fun r75 hm H hS => ?_) (fun _ z => z)⟩
      have hS : Sep H ([stA a_v_law_state (r75.2 : T3 Int Script Int), lstA p73 (y74 : (List Any)), imA (.ref p71) ((Any.tup [(Any.str ("" : Str)), (Any.str ("" : Str)), (Any.str ("" : Str)), (Any.int 0), (Any.str ("" : Str))]) : Any), imA p69 ((Any.tup (cutL xs66 none (some (4)))) : Any), imA p64 ((Any.tup (xs58 ++ [(Any.str ((⟨("" : Str)⟩ : T1 _).a))])) : Any), imA (.ref p56) ((⟨("" : Str)⟩ : T1 _) : (T1 Str)), lstA p53 (xs54 : (List Any)), imA p51 ((Any.tup (xs46 ++ xs48)) : Any), imA p44 ((Any.tup (cutL xs41 (some (y2 + 1)) none)) : Any), imA p39 ((Any.tup (xs33 ++ [(⟨s21⟩ : T1 _).a])) : Any), imA (.ref p31) ((⟨s21⟩ : T1 _) : (T1 Any)), imA p29 ((Any.tup (cutL xs26 none (some (y2)))) : Any), imA a22 (s21 : Any), imA u16 (x12 : Any), lstA p11 ([r3.1, (Any.str (repS ("t" : Str) (61 : Int).toNat)), (Any.str (repS ("b" : Str) (401 : Int).toNat)), (Any.int 10000), r8.1] : (List Any)), imA p9 (r8.1 : Any), imA p4 (r3.1 : Any), imA a_v_law_parts_here (v_law_parts_here : Any), F] : List (Asn G)) := Sep.star (M := [stA a_v_law_state (r75.2 : T3 Int Script Int)]) hS
      refine ev_to ev_c ?_
      refine r_mod (by decide) ?_
      obtain ⟨x76, hx76, hm⟩ := wp_idx hm
      obtain ⟨vs77, hq78, hM79⟩ := hS.sq (i := 1) rfl
      obtain ⟨u80, hu81, hi82⟩ := atI_im hM79 hx76
      refine r_ixSq hq78 hu81 _ ?_
      have hS := hS.addIm (v := u80) (x := (x76 : Any)) hi82
      exact hm _ _ (hS.sel [0, 1, 19] (by decide) rfl)
def sp_law_no_deed (G : Gx) : Sp := fun vs H Q E => ∃ (a_v_law_state : Addr) (v_law_state : (T3 Int Script Int)) (a_v_law_deed_here : V) (v_law_deed_here : Any) (F : Asn G), vs = [.ref a_v_law_state, a_v_law_deed_here] ∧ Im.im G H a_v_law_deed_here v_law_deed_here ∧ Sep H ([stA a_v_law_state (v_law_state : T3 Int Script Int), F] : List (Asn G)) ∧ R.wp (m_law_no_deed v_law_state v_law_deed_here) (fun r => ∀ (p : V) H', Sep H' ([imA p (r.1 : Any), stA a_v_law_state (r.2 : T3 Int Script Int), F] : List (Asn G)) → Q p H') (fun _ => False)
abbrev N_law_no_deed : List Str := ["_law_state", "_law_deed_here", "_law_k"]
theorem sc_law_no_deed : FnScope N_law_no_deed ["_law_state", "_law_deed_here"] (defScope s_law_no_deed) := ⟨rfl, rfl, rfl, by decide +kernel, rfl, by decide +kernel, by decide +kernel⟩
theorem ok_law_no_deed (T : Txt G mg) : FnOk P w G.K mg base CX0 6 T.a_law_no_deed T.fd_law_no_deed ["_law_state", "_law_deed_here"] (sp_law_no_deed G) := by
  have nd := sc_law_no_deed.nd
  refine Fun.ok T.F_law_no_deed sc_law_no_deed (fun vs H Q E h => ?_) (fun cdv A outer s H vs Q E hr h => ?_)
  · obtain ⟨a_v_law_state, v_law_state, a_v_law_deed_here, v_law_deed_here, F, rfl, _⟩ := h; rfl
  · obtain ⟨a_v_law_state, v_law_state, a_v_law_deed_here, v_law_deed_here, F, rfl, him_v_law_deed_here, hS, hm⟩ := h
    have hS := hS.addIm him_v_law_deed_here
    refine ⟨_, (pss_cons (ps_set (i := 2) nd rfl (Or.inl rfl) (pe_op op_mod (pe_call (ok_law_next T) (hr.mono (by decide)) rfl T.g_law_next T.kp_law_next T.b_law_next .nil pass0 (pa_cons (pv 0) pa_nil)) (pe_callB (lenAnyK G.K) (by rfl) T.z_len PySem.boot_len (pa_cons (pv 1) pa_nil))))
      (pss_cons (ps_if (pt_cmpR op_eq (pv 2) pe_int (nomark _)) (pss_one (ps_ret (pe_op (catAK G.K) (pe_tup (pa_cons (pe_ix (ix_listK G.K) (pe_fz (pe_lst (pa_cons pe_str (pa_cons pe_str (pa_cons pe_str (pa_cons pe_str (pa_cons pe_non (pa_cons pe_int (pa_cons (pe_fz (pe_lst (pa_cons (pe_ix (ix_tupK G.K) (pv 1) pe_int (fun _ _ => rfl)) pa_nil))) (pa_cons pe_dnewK (pa_cons (pe_tup pa_nil) pa_nil))))))))))) (pe_op op_mod (pe_call (ok_law_next T) (hr.mono (by decide)) rfl T.g_law_next T.kp_law_next T.b_law_next .nil pass0 (pa_cons (pv 0) pa_nil)) pe_int) (fun _ _ => rfl)) pa_nil)) (pe_slice (sl_tupK G.K) (pv 1) (po_some pe_int) po_none)))) pss_nil)
      (pss_cons (ps_if (pt_cmpR op_eq (pv 2) pe_int (nomark _)) (pss_one (ps_ret (pe_op (catAK G.K) (pe_tup (pa_cons (pe_ix (ix_tupK G.K) (pv 1) pe_int (fun _ _ => rfl)) (pa_cons (pe_call (ok_law_no_word T) (hr.mono (by decide)) rfl T.g_law_no_word T.kp_law_no_word T.b_law_no_word .nil pass0 (pa_cons (pv 0) pa_nil)) pa_nil))) (pe_slice (sl_tupK G.K) (pv 1) (po_some pe_int) po_none)))) pss_nil)
      (pss_cons (ps_if (pt_cmpR op_eq (pv 2) pe_int (nomark _)) (pss_one (ps_ret (pe_op (catAK G.K) (pe_slice (sl_tupK G.K) (pv 1) po_none (po_some pe_int)) (pe_tup (pa_cons (pe_ix (ix_listK G.K) (pe_fz (pe_lst (pa_cons pe_int (pa_cons pe_int (pa_cons pe_non (pa_cons pe_str pa_nil)))))) (pe_op op_mod (pe_call (ok_law_next T) (hr.mono (by decide)) rfl T.g_law_next T.kp_law_next T.b_law_next .nil pass0 (pa_cons (pv 0) pa_nil)) pe_int) (fun _ _ => rfl)) pa_nil))))) pss_nil)
      (pss_cons (ps_if (pt_cmpR (eqDK G.K hr.units) (pe_ix (ix_tupK G.K) (pv 1) pe_int (fun _ _ => rfl)) pe_str (nomark _)) (pss_one (ps_ret (pe_op (catAK G.K) (pe_slice (sl_tupK G.K) (pv 1) po_none (po_some pe_int)) (pe_tup (pa_cons (pe_call (ok_law_no_parts T) (hr.mono (by decide)) rfl T.g_law_no_parts T.kp_law_no_parts T.b_law_no_parts .nil pass0 (pa_cons (pv 0) (pa_cons (pe_ix (ix_tupK G.K) (pv 1) pe_int (fun _ _ => rfl)) pa_nil))) pa_nil))))) pss_nil)
      (pss_one (ps_ret (pe_op (catAK G.K) (pe_op (catAK G.K) (pe_slice (sl_tupK G.K) (pv 1) po_none (po_some pe_int)) (pe_tup (pa_cons (pe_call (ok_law_no_word T) (hr.mono (by decide)) rfl T.g_law_no_word T.kp_law_no_word T.b_law_no_word .nil pass0 (pa_cons (pv 0) pa_nil)) pa_nil))) (pe_slice (sl_tupK G.K) (pv 1) (po_some pe_int) po_none))))))))), ?_⟩
    unfold m_law_no_deed at hm
    refine f_seq ?_
    refine c_asg ?_
    refine c_op ?_
    refine c_call ?_
    refine ea_to (ea_cons (ev_var rfl) ea_nil) ?_
    refine ⟨a_v_law_state, (v_law_state : (T3 Int Script Int)), star [imA a_v_law_deed_here (v_law_deed_here : Any), F], rfl, Sep.unstar (M := [stA a_v_law_state (v_law_state : T3 Int Script Int)]) (hS.sel [1, 0, 2] (by decide) rfl : Sep H (([stA a_v_law_state (v_law_state : T3 Int Script Int)] ++ [imA a_v_law_deed_here (v_law_deed_here : Any), F] : List (Asn G)))), R.wp_mono (R.wp_bind hm) (fun r1 hm H hS => ?_) (fun _ z => z)⟩
    have hS : Sep H ([stA a_v_law_state (r1.2 : T3 Int Script Int), imA a_v_law_deed_here (v_law_deed_here : Any), F] : List (Asn G)) := Sep.star (M := [stA a_v_law_state (r1.2 : T3 Int Script Int)]) hS
    obtain ⟨n2, hn2, hm⟩ := wp_lenA hm
    refine ev_to (ev_lenA (ev_var rfl) (hS.im (i := 1) rfl) hn2) ?_
    obtain ⟨h3, hm⟩ := R.wp_need hm
    refine r_mod h3 ?_
    obtain ⟨y4, hy4, hm⟩ := wp_let hm
    refine n_is (w := (.int (y4))) (by rw [hy4]) ?_
    refine c_set (σ' := [some (.ref a_v_law_state), some a_v_law_deed_here, some (.int (y4))]) rfl ?_
    refine sq_nx ?_
    refine f_seq ?_
    refine f_if ?_
    refine et_to (et_test (ev_eqI (ev_var rfl) ev_c)) ?_
    obtain ⟨hy, hn⟩ := R.wp_if hm
    refine ifK_2 (fun hb5 => ?_) (fun hb5 => ?_)
    · have hm := hy hb5
      refine c_ret ?_
      refine c_op ?_
      refine c_tup ?_
      refine c_cons ?_
      refine c_op ?_
      refine c_fz ?_
      refine c_lst ?_
      refine c_cons ?_
      refine ev_to ev_c ?_
      refine c_cons ?_
      refine ev_to ev_c ?_
      refine c_cons ?_
      refine ev_to ev_c ?_
      refine c_cons ?_
      refine ev_to ev_c ?_
      refine c_cons ?_
      refine ev_to ev_c ?_
      refine c_cons ?_
      refine ev_to ev_c ?_
      refine c_cons ?_
      refine c_fz ?_
      refine c_lst ?_
      obtain ⟨xs6, h7, hm⟩ := Ml.wp_asTup hm
      obtain ⟨x8, hx8, hm⟩ := wp_idx hm
      obtain ⟨a9, vs10, he11, hg12, hM13⟩ := any_tupE (hS.im (i := 1) rfl) h7
      obtain ⟨u14, hu15, hi16⟩ := atI_im hM13 hx8
      refine ea_to (ea_cons (ev_ixT (ev_is (ev_var rfl) he11) ev_c hg12 hu15) ea_nil) ?_
      have hS := hS.addIm (v := u14) (x := (x8 : Any)) hi16
      refine k_lst (α := Any) (vs := [u14]) (xs := [x8]) hS ⟨(hS.im (i := 0) rfl), True.intro⟩ (by show 1 ≤ sizeLine; decide) fun p18 H hS => ?_
      refine fz_yes (xs := ([x8] : (List Any))) hS (i := 0) rfl fun H hS => ?_
      have hS : Sep H ([imA (.ref p18) ([x8] : (List Any)), imA u14 (x8 : Any), stA a_v_law_state (r1.2 : T3 Int Script Int), imA a_v_law_deed_here (v_law_deed_here : Any), F] : List (Asn G)) := hS
      refine c_cons ?_
      refine k_dnew (κ := Str) (β := Bool) hS fun p20 H hS => ?_
      refine c_cons ?_
      refine c_tup ?_
      refine ea_to ea_nil ?_
      refine k_tupA (vs := []) (xs := []) hS True.intro (by show 0 ≤ sizeLine; decide) fun p21 H hS => ?_
      refine c_nil ?_
      refine k_lst (α := Any) (vs := [(.str (("puts" : Str))), (.str (("Place" : Str))), (.str (("" : Str))), (.str (("marked" : Str))), .non, (.int (3)), (.ref p18), (.ref p20), (.ref p21)]) (xs := [(Any.str ("puts" : Str)), (Any.str ("Place" : Str)), (Any.str ("" : Str)), (Any.str ("marked" : Str)), Any.non, (Any.int 3), (Any.lst ([x8])), (Any.oth 1), (Any.tup [])]) hS ⟨(any_str.mpr rfl), ⟨(any_str.mpr rfl), ⟨(any_str.mpr rfl), ⟨(any_str.mpr rfl), ⟨(any_non.mpr rfl), ⟨(any_int.mpr rfl), ⟨(any_lstA (hS.im (i := 2) rfl)), ⟨(any_dict hS (i := 1) rfl), ⟨(hS.im (i := 0) rfl), True.intro⟩⟩⟩⟩⟩⟩⟩⟩⟩ (by show 9 ≤ sizeLine; decide) fun p23 H hS => ?_
      refine fz_no ?_
      refine c_op ?_
      refine c_call ?_
      refine ea_to (ea_cons (ev_var rfl) ea_nil) ?_
      refine ⟨a_v_law_state, (r1.2 : (T3 Int Script Int)), star [lstA p23 ([(Any.str ("puts" : Str)), (Any.str ("Place" : Str)), (Any.str ("" : Str)), (Any.str ("marked" : Str)), Any.non, (Any.int 3), (Any.lst ([x8])), (Any.oth 1), (Any.tup [])] : (List Any)), imA (.ref p21) ((Any.tup []) : Any), dictA p20 (([] : (List (Str × Bool))) : (List (Str × Bool))), imA (.ref p18) ([x8] : (List Any)), imA u14 (x8 : Any), imA a_v_law_deed_here (v_law_deed_here : Any), F], rfl, Sep.unstar (M := [stA a_v_law_state (r1.2 : T3 Int Script Int)]) (hS.sel [5, 0, 1, 2, 3, 4, 6, 7] (by decide) rfl : Sep H (([stA a_v_law_state (r1.2 : T3 Int Script Int)] ++ [lstA p23 ([(Any.str ("puts" : Str)), (Any.str ("Place" : Str)), (Any.str ("" : Str)), (Any.str ("marked" : Str)), Any.non, (Any.int 3), (Any.lst ([x8])), (Any.oth 1), (Any.tup [])] : (List Any)), imA (.ref p21) ((Any.tup []) : Any), dictA p20 (([] : (List (Str × Bool))) : (List (Str × Bool))), imA (.ref p18) ([x8] : (List Any)), imA u14 (x8 : Any), imA a_v_law_deed_here (v_law_deed_here : Any), F] : List (Asn G)))), R.wp_mono (R.wp_bind hm) (fun r24 hm H hS => ?_) (fun _ z => z)⟩
      have hS : Sep H ([stA a_v_law_state (r24.2 : T3 Int Script Int), lstA p23 ([(Any.str ("puts" : Str)), (Any.str ("Place" : Str)), (Any.str ("" : Str)), (Any.str ("marked" : Str)), Any.non, (Any.int 3), (Any.lst ([x8])), (Any.oth 1), (Any.tup [])] : (List Any)), imA (.ref p21) ((Any.tup []) : Any), dictA p20 (([] : (List (Str × Bool))) : (List (Str × Bool))), imA (.ref p18) ([x8] : (List Any)), imA u14 (x8 : Any), imA a_v_law_deed_here (v_law_deed_here : Any), F] : List (Asn G)) := Sep.star (M := [stA a_v_law_state (r24.2 : T3 Int Script Int)]) hS
      refine ev_to ev_c ?_
      refine r_mod (by decide) ?_
      obtain ⟨x25, hx25, hm⟩ := wp_idx hm
      obtain ⟨vs26, hq27, hM28⟩ := hS.sq (i := 1) rfl
      obtain ⟨u29, hu30, hi31⟩ := atI_im hM28 hx25
      refine r_ixSq hq27 hu30 _ ?_
      have hS := hS.addIm (v := u29) (x := (x25 : Any)) hi31
      refine c_nil ?_
      refine k_tupP (x := ((⟨x25⟩ : T1 _) : (T1 Any))) hS (fun H' p h s => mk1 (hS.im (i := 0) rfl) h s) (by show 1 ≤ sizeLine; decide) fun p33 H hS => ?_
      refine c_sl ?_
      refine ev_to (ev_var rfl) ?_
      obtain ⟨xs35, h36, hm⟩ := Ml.wp_asTup hm
      obtain ⟨h37, hm⟩ := R.wp_need hm
      refine eo_to (eo_some ev_c) ?_
      refine eo_to eo_no ?_
      refine k_slA (xs := xs35) hS (tupE (hS.im (i := 8) rfl) h36) h37 fun p38 H hS => ?_
      obtain ⟨u40, hT42, h41⟩ := im1 (hS.im (i := 1) rfl)
      obtain ⟨xs43, h44, hm⟩ := Ml.wp_asTup hm
      obtain ⟨h45, hm⟩ := R.wp_need hm
      refine k_catA (xs := [(⟨x25⟩ : T1 _).a]) (ys := xs43) hS ((any_tup (xs := [(⟨x25⟩ : T1 _).a])).mpr ⟨_, _, rfl, hT42, ⟨h41, True.intro⟩⟩) (tupE (hS.im (i := 0) rfl) h44) h45 fun p46 H hS => ?_
      exact hm _ _ (hS.sel [0, 4, 11] (by decide) rfl)
    · have hm := hn (by rw [hb5]; decide)
      refine st_nx ?_
      refine sq_nx ?_
      refine f_seq ?_
      refine f_if ?_
      refine et_to (et_test (ev_eqI (ev_var rfl) ev_c)) ?_
      obtain ⟨hy, hn⟩ := R.wp_if hm
      refine ifK_2 (fun hb48 => ?_) (fun hb48 => ?_)
      · have hm := hy hb48
        refine c_ret ?_
        refine c_op ?_
        refine c_tup ?_
        refine c_cons ?_
        obtain ⟨xs49, h50, hm⟩ := Ml.wp_asTup hm
        obtain ⟨x51, hx51, hm⟩ := wp_idx hm
        obtain ⟨a52, vs53, he54, hg55, hM56⟩ := any_tupE (hS.im (i := 1) rfl) h50
        obtain ⟨u57, hu58, hi59⟩ := atI_im hM56 hx51
        refine ev_to (ev_ixT (ev_is (ev_var rfl) he54) ev_c hg55 hu58) ?_
        have hS := hS.addIm (v := u57) (x := (x51 : Any)) hi59
        refine c_cons ?_
        refine c_call ?_
        refine ea_to (ea_cons (ev_var rfl) ea_nil) ?_
        refine ⟨a_v_law_state, (r1.2 : (T3 Int Script Int)), star [imA u57 (x51 : Any), imA a_v_law_deed_here (v_law_deed_here : Any), F], rfl, Sep.unstar (M := [stA a_v_law_state (r1.2 : T3 Int Script Int)]) (hS.sel [1, 0, 2, 3] (by decide) rfl : Sep H (([stA a_v_law_state (r1.2 : T3 Int Script Int)] ++ [imA u57 (x51 : Any), imA a_v_law_deed_here (v_law_deed_here : Any), F] : List (Asn G)))), R.wp_mono (R.wp_bind hm) (fun r61 hm p62 H hS => ?_) (fun _ z => z)⟩
        have hS : Sep H ([imA p62 (r61.1 : Any), stA a_v_law_state (r61.2 : T3 Int Script Int), imA u57 (x51 : Any), imA a_v_law_deed_here (v_law_deed_here : Any), F] : List (Asn G)) := Sep.star (M := [imA p62 (r61.1 : Any), stA a_v_law_state (r61.2 : T3 Int Script Int)]) hS
        refine c_nil ?_
        refine k_tupP (x := ((x51, r61.1) : (Any × Any))) hS (fun H' p h s => mk2 (hS.im (i := 2) rfl) (hS.im (i := 0) rfl) h s) (by show 2 ≤ sizeLine; decide) fun p64 H hS => ?_
        refine c_sl ?_
        refine ev_to (ev_var rfl) ?_
        obtain ⟨xs66, h67, hm⟩ := Ml.wp_asTup hm
        obtain ⟨h68, hm⟩ := R.wp_need hm
        refine eo_to (eo_some ev_c) ?_
        refine eo_to eo_no ?_
        refine k_slA (xs := xs66) hS (tupE (hS.im (i := 4) rfl) h67) h68 fun p69 H hS => ?_
        obtain ⟨u71, u72, hT75, h73, h74⟩ := im2 (hS.im (i := 1) rfl)
        obtain ⟨xs76, h77, hm⟩ := Ml.wp_asTup hm
        obtain ⟨h78, hm⟩ := R.wp_need hm
        refine k_catA (xs := [(x51, r61.1).1, (x51, r61.1).2]) (ys := xs76) hS ((any_tup (xs := [(x51, r61.1).1, (x51, r61.1).2])).mpr ⟨_, _, rfl, hT75, ⟨h73, ⟨h74, True.intro⟩⟩⟩) (tupE (hS.im (i := 0) rfl) h77) h78 fun p79 H hS => ?_
        exact hm _ _ (hS.sel [0, 4, 7] (by decide) rfl)
      · have hm := hn (by rw [hb48]; decide)
        refine st_nx ?_
        refine sq_nx ?_
        refine f_seq ?_
        refine f_if ?_
        refine et_to (et_test (ev_eqI (ev_var rfl) ev_c)) ?_
        obtain ⟨hy, hn⟩ := R.wp_if hm
        refine ifK_2 (fun hb81 => ?_) (fun hb81 => ?_)
        · have hm := hy hb81
          refine c_ret ?_
          refine c_op ?_
          refine c_sl ?_
          refine ev_to (ev_var rfl) ?_
          obtain ⟨xs82, h83, hm⟩ := Ml.wp_asTup hm
          obtain ⟨h84, hm⟩ := R.wp_need hm
          refine eo_to eo_no ?_
          refine eo_to (eo_some ev_c) ?_
          refine k_slA (xs := xs82) hS (tupE (hS.im (i := 1) rfl) h83) h84 fun p85 H hS => ?_
          refine c_tup ?_
          refine c_cons ?_
          refine c_op ?_
          refine c_fz ?_
          refine c_lst ?_
          refine ea_to (ea_cons ev_c (ea_cons ev_c (ea_cons ev_c (ea_cons ev_c ea_nil)))) ?_
          refine k_lst (α := Any) (vs := [(.int (1)), (.int (0)), .non, (.str (("True" : Str)))]) (xs := [(Any.int 1), (Any.int 0), Any.non, (Any.str ("True" : Str))]) hS ⟨(any_int.mpr rfl), ⟨(any_int.mpr rfl), ⟨(any_non.mpr rfl), ⟨(any_str.mpr rfl), True.intro⟩⟩⟩⟩ (by show 4 ≤ sizeLine; decide) fun p87 H hS => ?_
          refine fz_no ?_
          refine c_op ?_
          refine c_call ?_
          refine ea_to (ea_cons (ev_var rfl) ea_nil) ?_
          refine ⟨a_v_law_state, (r1.2 : (T3 Int Script Int)), star [lstA p87 ([(Any.int 1), (Any.int 0), Any.non, (Any.str ("True" : Str))] : (List Any)), imA p85 ((Any.tup (cutL xs82 none (some (3)))) : Any), imA a_v_law_deed_here (v_law_deed_here : Any), F], rfl, Sep.unstar (M := [stA a_v_law_state (r1.2 : T3 Int Script Int)]) (hS.sel [2, 0, 1, 3, 4] (by decide) rfl : Sep H (([stA a_v_law_state (r1.2 : T3 Int Script Int)] ++ [lstA p87 ([(Any.int 1), (Any.int 0), Any.non, (Any.str ("True" : Str))] : (List Any)), imA p85 ((Any.tup (cutL xs82 none (some (3)))) : Any), imA a_v_law_deed_here (v_law_deed_here : Any), F] : List (Asn G)))), R.wp_mono (R.wp_bind hm) (fun r88 hm H hS => ?_) (fun _ z => z)⟩
          have hS : Sep H ([stA a_v_law_state (r88.2 : T3 Int Script Int), lstA p87 ([(Any.int 1), (Any.int 0), Any.non, (Any.str ("True" : Str))] : (List Any)), imA p85 ((Any.tup (cutL xs82 none (some (3)))) : Any), imA a_v_law_deed_here (v_law_deed_here : Any), F] : List (Asn G)) := Sep.star (M := [stA a_v_law_state (r88.2 : T3 Int Script Int)]) hS
          refine ev_to ev_c ?_
          refine r_mod (by decide) ?_
          obtain ⟨x89, hx89, hm⟩ := wp_idx hm
          obtain ⟨vs90, hq91, hM92⟩ := hS.sq (i := 1) rfl
          obtain ⟨u93, hu94, hi95⟩ := atI_im hM92 hx89
          refine r_ixSq hq91 hu94 _ ?_
          have hS := hS.addIm (v := u93) (x := (x89 : Any)) hi95
          refine c_nil ?_
          refine k_tupP (x := ((⟨x89⟩ : T1 _) : (T1 Any))) hS (fun H' p h s => mk1 (hS.im (i := 0) rfl) h s) (by show 1 ≤ sizeLine; decide) fun p97 H hS => ?_
          obtain ⟨xs99, h100, hm⟩ := Ml.wp_asTup hm
          obtain ⟨u101, hT103, h102⟩ := im1 (hS.im (i := 0) rfl)
          obtain ⟨h104, hm⟩ := R.wp_need hm
          refine k_catA (xs := xs99) (ys := [(⟨x89⟩ : T1 _).a]) hS (tupE (hS.im (i := 4) rfl) h100) ((any_tup (xs := [(⟨x89⟩ : T1 _).a])).mpr ⟨_, _, rfl, hT103, ⟨h102, True.intro⟩⟩) h104 fun p105 H hS => ?_
          exact hm _ _ (hS.sel [0, 3, 7] (by decide) rfl)
        · have hm := hn (by rw [hb81]; decide)
          refine st_nx ?_
          refine sq_nx ?_
          refine f_seq ?_
          refine f_if ?_
          obtain ⟨xs107, h108, hm⟩ := Ml.wp_asTup hm
          obtain ⟨x109, hx109, hm⟩ := wp_idx hm
          obtain ⟨a110, vs111, he112, hg113, hM114⟩ := any_tupE (hS.im (i := 1) rfl) h108
          obtain ⟨u115, hu116, hi117⟩ := atI_im hM114 hx109
          obtain ⟨b118, hb118, hm⟩ := wp_eqA hm
          refine et_to (et_test (ev_eqA (ev_ixT (ev_is (ev_var rfl) he112) ev_c hg113 hu116) ev_c hi117 (any_str.mpr rfl) hb118)) ?_
          obtain ⟨hy, hn⟩ := R.wp_if hm
          refine ifK_2 (fun hb119 => ?_) (fun hb119 => ?_)
          · have hm := hy hb119
            refine c_ret ?_
            refine c_op ?_
            refine c_sl ?_
            refine ev_to (ev_var rfl) ?_
            obtain ⟨xs120, h121, hm⟩ := Ml.wp_asTup hm
            obtain ⟨h122, hm⟩ := R.wp_need hm
            refine eo_to eo_no ?_
            refine eo_to (eo_some ev_c) ?_
            refine k_slA (xs := xs120) hS (tupE (hS.im (i := 1) rfl) h121) h122 fun p123 H hS => ?_
            refine c_tup ?_
            refine c_cons ?_
            refine c_call ?_
            obtain ⟨xs125, h126, hm⟩ := Ml.wp_asTup hm
            obtain ⟨x127, hx127, hm⟩ := wp_idx hm
            obtain ⟨a128, vs129, he130, hg131, hM132⟩ := any_tupE (hS.im (i := 2) rfl) h126
            obtain ⟨u133, hu134, hi135⟩ := atI_im hM132 hx127
            refine ea_to (ea_cons (ev_var rfl) (ea_cons (ev_ixT (ev_is (ev_var rfl) he130) ev_c hg131 hu134) ea_nil)) ?_
            have hS := hS.addIm (v := u133) (x := (x127 : Any)) hi135
            refine ⟨a_v_law_state, (r1.2 : (T3 Int Script Int)), u133, (x127 : Any), star [imA u133 (x127 : Any), imA p123 ((Any.tup (cutL xs120 none (some (2)))) : Any), imA a_v_law_deed_here (v_law_deed_here : Any), F], rfl, (hS.im (i := 0) rfl), Sep.unstar (M := [stA a_v_law_state (r1.2 : T3 Int Script Int)]) (hS.sel [2, 0, 1, 3, 4] (by decide) rfl : Sep H (([stA a_v_law_state (r1.2 : T3 Int Script Int)] ++ [imA u133 (x127 : Any), imA p123 ((Any.tup (cutL xs120 none (some (2)))) : Any), imA a_v_law_deed_here (v_law_deed_here : Any), F] : List (Asn G)))), R.wp_mono (R.wp_bind hm) (fun r137 hm p138 H hS => ?_) (fun _ z => z)⟩
            have hS : Sep H ([imA p138 (r137.1 : Any), stA a_v_law_state (r137.2 : T3 Int Script Int), imA u133 (x127 : Any), imA p123 ((Any.tup (cutL xs120 none (some (2)))) : Any), imA a_v_law_deed_here (v_law_deed_here : Any), F] : List (Asn G)) := Sep.star (M := [imA p138 (r137.1 : Any), stA a_v_law_state (r137.2 : T3 Int Script Int)]) hS
            refine c_nil ?_
            refine k_tupP (x := ((⟨r137.1⟩ : T1 _) : (T1 Any))) hS (fun H' p h s => mk1 (hS.im (i := 0) rfl) h s) (by show 1 ≤ sizeLine; decide) fun p140 H hS => ?_
            obtain ⟨xs142, h143, hm⟩ := Ml.wp_asTup hm
            obtain ⟨u144, hT146, h145⟩ := im1 (hS.im (i := 0) rfl)
            obtain ⟨h147, hm⟩ := R.wp_need hm
            refine k_catA (xs := xs142) (ys := [(⟨r137.1⟩ : T1 _).a]) hS (tupE (hS.im (i := 4) rfl) h143) ((any_tup (xs := [(⟨r137.1⟩ : T1 _).a])).mpr ⟨_, _, rfl, hT146, ⟨h145, True.intro⟩⟩) h147 fun p148 H hS => ?_
            exact hm _ _ (hS.sel [0, 3, 7] (by decide) rfl)
          · have hm := hn (by rw [hb119]; decide)
            refine st_nx ?_
            refine sq_nx ?_
            refine c_ret ?_
            refine c_op ?_
            refine c_op ?_
            refine c_sl ?_
            refine ev_to (ev_var rfl) ?_
            obtain ⟨xs150, h151, hm⟩ := Ml.wp_asTup hm
            obtain ⟨h152, hm⟩ := R.wp_need hm
            refine eo_to eo_no ?_
            refine eo_to (eo_some ev_c) ?_
            refine k_slA (xs := xs150) hS (tupE (hS.im (i := 1) rfl) h151) h152 fun p153 H hS => ?_
            refine c_tup ?_
            refine c_cons ?_
            refine c_call ?_
            refine ea_to (ea_cons (ev_var rfl) ea_nil) ?_
            refine ⟨a_v_law_state, (r1.2 : (T3 Int Script Int)), star [imA p153 ((Any.tup (cutL xs150 none (some (2)))) : Any), imA a_v_law_deed_here (v_law_deed_here : Any), F], rfl, Sep.unstar (M := [stA a_v_law_state (r1.2 : T3 Int Script Int)]) (hS.sel [1, 0, 2, 3] (by decide) rfl : Sep H (([stA a_v_law_state (r1.2 : T3 Int Script Int)] ++ [imA p153 ((Any.tup (cutL xs150 none (some (2)))) : Any), imA a_v_law_deed_here (v_law_deed_here : Any), F] : List (Asn G)))), R.wp_mono (R.wp_bind hm) (fun r155 hm p156 H hS => ?_) (fun _ z => z)⟩
            have hS : Sep H ([imA p156 (r155.1 : Any), stA a_v_law_state (r155.2 : T3 Int Script Int), imA p153 ((Any.tup (cutL xs150 none (some (2)))) : Any), imA a_v_law_deed_here (v_law_deed_here : Any), F] : List (Asn G)) := Sep.star (M := [imA p156 (r155.1 : Any), stA a_v_law_state (r155.2 : T3 Int Script Int)]) hS
            refine c_nil ?_
            refine k_tupP (x := ((⟨r155.1⟩ : T1 _) : (T1 Any))) hS (fun H' p h s => mk1 (hS.im (i := 0) rfl) h s) (by show 1 ≤ sizeLine; decide) fun p158 H hS => ?_
            obtain ⟨xs160, h161, hm⟩ := Ml.wp_asTup hm
            obtain ⟨u162, hT164, h163⟩ := im1 (hS.im (i := 0) rfl)
            obtain ⟨h165, hm⟩ := R.wp_need hm
            refine k_catA (xs := xs160) (ys := [(⟨r155.1⟩ : T1 _).a]) hS (tupE (hS.im (i := 3) rfl) h161) ((any_tup (xs := [(⟨r155.1⟩ : T1 _).a])).mpr ⟨_, _, rfl, hT164, ⟨h163, True.intro⟩⟩) h165 fun p166 H hS => ?_
            refine c_sl ?_
            refine ev_to (ev_var rfl) ?_
            obtain ⟨xs168, h169, hm⟩ := Ml.wp_asTup hm
            obtain ⟨h170, hm⟩ := R.wp_need hm
            refine eo_to (eo_some ev_c) ?_
            refine eo_to eo_no ?_
            refine k_slA (xs := xs168) hS (tupE (hS.im (i := 5) rfl) h169) h170 fun p171 H hS => ?_
            obtain ⟨xs173, h174, hm⟩ := Ml.wp_asTup hm
            obtain ⟨xs175, h176, hm⟩ := Ml.wp_asTup hm
            obtain ⟨h177, hm⟩ := R.wp_need hm
            refine k_catA (xs := xs173) (ys := xs175) hS (tupE (hS.im (i := 1) rfl) h174) (tupE (hS.im (i := 0) rfl) h176) h177 fun p178 H hS => ?_
            exact hm _ _ (hS.sel [0, 5, 8] (by decide) rfl)
def sp_law_no_stamped (G : Gx) : Sp := fun vs H Q E => ∃ (a_v_law_state : Addr) (v_law_state : (T3 Int Script Int)) (a_v_law_stamped : Addr) (v_law_stamped : (T4 Int Str Int Any)) (F : Asn G), vs = [.ref a_v_law_state, (.ref a_v_law_stamped)] ∧ Im.im G H (.ref a_v_law_stamped) v_law_stamped ∧ Sep H ([stA a_v_law_state (v_law_state : T3 Int Script Int), F] : List (Asn G)) ∧ R.wp (m_law_no_stamped v_law_state v_law_stamped) (fun r => ∀ (p : V) H', Sep H' ([imA p (r.1 : Any), stA a_v_law_state (r.2 : T3 Int Script Int), F] : List (Asn G)) → Q p H') (fun _ => False)
abbrev N_law_no_stamped : List Str := ["_law_state", "_law_stamped", "_law_k", "_law_hand", "_law_odd"]
theorem sc_law_no_stamped : FnScope N_law_no_stamped ["_law_state", "_law_stamped"] (defScope s_law_no_stamped) := ⟨rfl, rfl, rfl, by decide +kernel, rfl, by decide +kernel, by decide +kernel⟩
theorem ok_law_no_stamped (T : Txt G mg) : FnOk P w G.K mg base CX0 2 T.a_law_no_stamped T.fd_law_no_stamped ["_law_state", "_law_stamped"] (sp_law_no_stamped G) := by
  have nd := sc_law_no_stamped.nd
  refine Fun.ok T.F_law_no_stamped sc_law_no_stamped (fun vs H Q E h => ?_) (fun cdv A outer s H vs Q E hr h => ?_)
  · obtain ⟨a_v_law_state, v_law_state, a_v_law_stamped, v_law_stamped, F, rfl, _⟩ := h; rfl
  · obtain ⟨a_v_law_state, v_law_state, a_v_law_stamped, v_law_stamped, F, rfl, him_v_law_stamped, hS, hm⟩ := h
    have hS := hS.addIm him_v_law_stamped
    refine ⟨_, (pss_cons (ps_set (i := 2) nd rfl (Or.inl rfl) (pe_op op_mod (pe_call (ok_law_next T) (hr.mono (by decide)) rfl T.g_law_next T.kp_law_next T.b_law_next .nil pass0 (pa_cons (pv 0) pa_nil)) pe_int))
      (pss_cons (ps_if (pt_cmpR op_eq (pv 2) pe_int (nomark _)) (pss_cons (ps_set (i := 3) nd rfl (Or.inl rfl) (pe_ix (ix_tupK G.K) (pv 1) pe_int (fun _ _ => rfl)))
      (pss_cons (ps_set (i := 4) nd rfl (Or.inl rfl) (pe_ix (ix_listK G.K) (pe_fz (pe_lst (pa_cons pe_str (pa_cons (pe_op op_catS (pv 3) pe_str) (pa_cons (pe_op op_catS pe_str (pe_slice sl_str (pv 3) (po_some pe_int) po_none)) (pa_cons (pe_op op_repS (pv 3) pe_int) (pa_cons pe_non (pa_cons pe_int (pa_cons (pe_fz (pe_lst (pa_cons (pv 3) pa_nil))) pa_nil))))))))) (pe_op op_mod (pe_call (ok_law_next T) (hr.mono (by decide)) rfl T.g_law_next T.kp_law_next T.b_law_next .nil pass0 (pa_cons (pv 0) pa_nil)) pe_int) (fun _ _ => rfl)))
      (pss_one (ps_ret (pe_tup (pa_cons (pe_ix (ix_tupK G.K) (pv 1) pe_int (fun _ _ => rfl)) (pa_cons (pv 4) (pa_cons (pe_ix (ix_tupK G.K) (pv 1) pe_int (fun _ _ => rfl)) (pa_cons (pe_ix (ix_tupK G.K) (pv 1) pe_int (fun _ _ => rfl)) pa_nil))))))))) pss_nil)
      (pss_cons (ps_set (i := 4) nd rfl (Or.inl rfl) (pe_ix (ix_listK G.K) (pe_fz (pe_lst (pa_cons pe_int (pa_cons (pe_op op_sub (pe_un un_neg pe_int) (pe_call (ok_law_next T) (hr.mono (by decide)) rfl T.g_law_next T.kp_law_next T.b_law_next .nil pass0 (pa_cons (pv 0) pa_nil))) (pa_cons pe_bl (pa_cons pe_str (pa_cons pe_non pa_nil))))))) (pe_op op_mod (pe_call (ok_law_next T) (hr.mono (by decide)) rfl T.g_law_next T.kp_law_next T.b_law_next .nil pass0 (pa_cons (pv 0) pa_nil)) pe_int) (fun _ _ => rfl)))
      (pss_one (ps_ret (pe_op (catAK G.K) (pe_op (catAK G.K) (pe_slice (sl_tupK G.K) (pv 1) po_none (po_some (pv 2))) (pe_tup (pa_cons (pv 4) pa_nil))) (pe_slice (sl_tupK G.K) (pv 1) (po_some (pe_op op_add (pv 2) pe_int)) po_none))))))), ?_⟩
    unfold m_law_no_stamped at hm
    refine f_seq ?_
    refine c_asg ?_
    refine c_op ?_
    refine c_call ?_
    refine ea_to (ea_cons (ev_var rfl) ea_nil) ?_
    refine ⟨a_v_law_state, (v_law_state : (T3 Int Script Int)), star [imA (.ref a_v_law_stamped) (v_law_stamped : (T4 Int Str Int Any)), F], rfl, Sep.unstar (M := [stA a_v_law_state (v_law_state : T3 Int Script Int)]) (hS.sel [1, 0, 2] (by decide) rfl : Sep H (([stA a_v_law_state (v_law_state : T3 Int Script Int)] ++ [imA (.ref a_v_law_stamped) (v_law_stamped : (T4 Int Str Int Any)), F] : List (Asn G)))), R.wp_mono (R.wp_bind hm) (fun r1 hm H hS => ?_) (fun _ z => z)⟩
    have hS : Sep H ([stA a_v_law_state (r1.2 : T3 Int Script Int), imA (.ref a_v_law_stamped) (v_law_stamped : (T4 Int Str Int Any)), F] : List (Asn G)) := Sep.star (M := [stA a_v_law_state (r1.2 : T3 Int Script Int)]) hS
    refine ev_to ev_c ?_
    refine r_mod (by decide) ?_
    obtain ⟨y2, hy2, hm⟩ := wp_let hm
    refine n_is (w := (.int (y2))) (by rw [hy2]) ?_
    refine c_set (σ' := [some (.ref a_v_law_state), some (.ref a_v_law_stamped), some (.int (y2)), none, none]) rfl ?_
    refine sq_nx ?_
    refine f_seq ?_
    refine f_if ?_
    refine et_to (et_test (ev_eqI (ev_var rfl) ev_c)) ?_
    obtain ⟨hy, hn⟩ := R.wp_if hm
    refine ifK_2 (fun hb3 => ?_) (fun hb3 => ?_)
    · have hm := hy hb3
      refine f_seq ?_
      refine c_asg ?_
      obtain ⟨u4, u5, u6, u7, hT12, h8, h9, h10, h11⟩ := im4 (hS.im (i := 1) rfl)
      obtain rfl : u4 = (.int (v_law_stamped.a)) := h8
      obtain rfl : u5 = (.str (v_law_stamped.b)) := h9
      obtain rfl : u6 = (.int (v_law_stamped.c)) := h10
      refine ev_to (ev_ixT (ev_var rfl) ev_c hT12 rfl) ?_
      refine c_set (σ' := [some (.ref a_v_law_state), some (.ref a_v_law_stamped), some (.int (y2)), some (.str (v_law_stamped.b)), none]) rfl ?_
      refine sq_nx ?_
      refine f_seq ?_
      refine c_asg ?_
      refine c_op ?_
      refine c_fz ?_
      refine c_lst ?_
      refine c_cons ?_
      refine ev_to ev_c ?_
      refine c_cons ?_
      obtain ⟨h13, hm⟩ := R.wp_need hm
      refine ev_to (ev_catS (ev_var rfl) ev_c h13) ?_
      refine c_cons ?_
      obtain ⟨h14, hm⟩ := R.wp_need hm
      obtain ⟨h15, hm⟩ := R.wp_need hm
      refine ev_to (ev_catS ev_c (ev_slS (ev_var rfl) (eo_some ev_c) eo_no h14) h15) ?_
      refine c_cons ?_
      obtain ⟨h16, hm⟩ := R.wp_need hm
      refine ev_to (ev_repS (ev_var rfl) ev_c h16) ?_
      refine c_cons ?_
      refine ev_to ev_c ?_
      refine c_cons ?_
      refine ev_to ev_c ?_
      refine c_cons ?_
      refine c_fz ?_
      refine c_lst ?_
      refine ea_to (ea_cons (ev_var rfl) ea_nil) ?_
      refine k_lst (α := Str) (vs := [(.str (v_law_stamped.b))]) (xs := [v_law_stamped.b]) hS ⟨rfl, True.intro⟩ (by show 1 ≤ sizeLine; decide) fun p17 H hS => ?_
      refine fz_yes (xs := ([v_law_stamped.b] : (List Str))) hS (i := 0) rfl fun H hS => ?_
      have hS : Sep H ([imA (.ref p17) ([v_law_stamped.b] : (List Str)), stA a_v_law_state (r1.2 : T3 Int Script Int), imA (.ref a_v_law_stamped) (v_law_stamped : (T4 Int Str Int Any)), F] : List (Asn G)) := hS
      refine c_nil ?_
      refine k_lst (α := Any) (vs := [(.str (("" : Str))), (.str (v_law_stamped.b ++ ("1" : Str))), (.str (("A" : Str) ++ (cutS v_law_stamped.b (some (1)) none))), (.str (repS v_law_stamped.b (9 : Int).toNat)), .non, (.int (4)), (.ref p17)]) (xs := [(Any.str ("" : Str)), (Any.str (v_law_stamped.b ++ ("1" : Str))), (Any.str (("A" : Str) ++ (cutS v_law_stamped.b (some (1)) none))), (Any.str (repS v_law_stamped.b (9 : Int).toNat)), Any.non, (Any.int 4), (Any.lst (([v_law_stamped.b]).map Any.str))]) hS ⟨(any_str.mpr rfl), ⟨(any_str.mpr rfl), ⟨(any_str.mpr rfl), ⟨(any_str.mpr rfl), ⟨(any_non.mpr rfl), ⟨(any_int.mpr rfl), ⟨(any_lstS (hS.im (i := 0) rfl)), True.intro⟩⟩⟩⟩⟩⟩⟩ (by show 7 ≤ sizeLine; decide) fun p19 H hS => ?_
      refine fz_no ?_
      refine c_op ?_
      refine c_call ?_
      refine ea_to (ea_cons (ev_var rfl) ea_nil) ?_
      refine ⟨a_v_law_state, (r1.2 : (T3 Int Script Int)), star [lstA p19 ([(Any.str ("" : Str)), (Any.str (v_law_stamped.b ++ ("1" : Str))), (Any.str (("A" : Str) ++ (cutS v_law_stamped.b (some (1)) none))), (Any.str (repS v_law_stamped.b (9 : Int).toNat)), Any.non, (Any.int 4), (Any.lst (([v_law_stamped.b]).map Any.str))] : (List Any)), imA (.ref p17) ([v_law_stamped.b] : (List Str)), imA (.ref a_v_law_stamped) (v_law_stamped : (T4 Int Str Int Any)), F], rfl, Sep.unstar (M := [stA a_v_law_state (r1.2 : T3 Int Script Int)]) (hS.sel [2, 0, 1, 3, 4] (by decide) rfl : Sep H (([stA a_v_law_state (r1.2 : T3 Int Script Int)] ++ [lstA p19 ([(Any.str ("" : Str)), (Any.str (v_law_stamped.b ++ ("1" : Str))), (Any.str (("A" : Str) ++ (cutS v_law_stamped.b (some (1)) none))), (Any.str (repS v_law_stamped.b (9 : Int).toNat)), Any.non, (Any.int 4), (Any.lst (([v_law_stamped.b]).map Any.str))] : (List Any)), imA (.ref p17) ([v_law_stamped.b] : (List Str)), imA (.ref a_v_law_stamped) (v_law_stamped : (T4 Int Str Int Any)), F] : List (Asn G)))), R.wp_mono (R.wp_bind hm) (fun r20 hm H hS => ?_) (fun _ z => z)⟩
      have hS : Sep H ([stA a_v_law_state (r20.2 : T3 Int Script Int), lstA p19 ([(Any.str ("" : Str)), (Any.str (v_law_stamped.b ++ ("1" : Str))), (Any.str (("A" : Str) ++ (cutS v_law_stamped.b (some (1)) none))), (Any.str (repS v_law_stamped.b (9 : Int).toNat)), Any.non, (Any.int 4), (Any.lst (([v_law_stamped.b]).map Any.str))] : (List Any)), imA (.ref p17) ([v_law_stamped.b] : (List Str)), imA (.ref a_v_law_stamped) (v_law_stamped : (T4 Int Str Int Any)), F] : List (Asn G)) := Sep.star (M := [stA a_v_law_state (r20.2 : T3 Int Script Int)]) hS
      refine ev_to ev_c ?_
      refine r_mod (by decide) ?_
      obtain ⟨x21, hx21, hm⟩ := wp_idx hm
      obtain ⟨vs22, hq23, hM24⟩ := hS.sq (i := 1) rfl
      obtain ⟨u25, hu26, hi27⟩ := atI_im hM24 hx21
      refine r_ixSq hq23 hu26 _ ?_
      have hS := hS.addIm (v := u25) (x := (x21 : Any)) hi27
      refine c_set (σ' := [some (.ref a_v_law_state), some (.ref a_v_law_stamped), some (.int (y2)), some (.str (v_law_stamped.b)), some u25]) rfl ?_
      refine sq_nx ?_
      refine c_ret ?_
      refine c_tup ?_
      obtain ⟨u29, u30, u31, u32, hT37, h33, h34, h35, h36⟩ := im4 (hS.im (i := 4) rfl)
      obtain rfl : u29 = (.int (v_law_stamped.a)) := h33
      obtain rfl : u30 = (.str (v_law_stamped.b)) := h34
      obtain rfl : u31 = (.int (v_law_stamped.c)) := h35
      obtain ⟨u38, u39, u40, u41, hT46, h42, h43, h44, h45⟩ := im4 (hS.im (i := 4) rfl)
      obtain rfl : u38 = (.int (v_law_stamped.a)) := h42
      obtain rfl : u39 = (.str (v_law_stamped.b)) := h43
      obtain rfl : u40 = (.int (v_law_stamped.c)) := h44
      obtain ⟨u47, u48, u49, u50, hT55, h51, h52, h53, h54⟩ := im4 (hS.im (i := 4) rfl)
      obtain rfl : u47 = (.int (v_law_stamped.a)) := h51
      obtain rfl : u48 = (.str (v_law_stamped.b)) := h52
      obtain rfl : u49 = (.int (v_law_stamped.c)) := h53
      refine ea_to (ea_cons (ev_ixT (ev_var rfl) ev_c hT37 rfl) (ea_cons (ev_var rfl) (ea_cons (ev_ixT (ev_var rfl) ev_c hT46 rfl) (ea_cons (ev_ixT (ev_var rfl) ev_c hT55 rfl) ea_nil)))) ?_
      have hS := hS.addIm (v := u50) (x := (v_law_stamped.d : Any)) h54
      refine k_tupA (vs := [(.int (v_law_stamped.a)), u25, (.int (v_law_stamped.c)), u50]) (xs := [(Any.int v_law_stamped.a), x21, (Any.int v_law_stamped.c), v_law_stamped.d]) hS ⟨(any_int.mpr rfl), ⟨(hS.im (i := 1) rfl), ⟨(any_int.mpr rfl), ⟨(hS.im (i := 0) rfl), True.intro⟩⟩⟩⟩ (by show 4 ≤ sizeLine; decide) fun p57 H hS => ?_
      exact hm _ _ (hS.sel [0, 3, 7] (by decide) rfl)
    · have hm := hn (by rw [hb3]; decide)
      refine st_nx ?_
      refine sq_nx ?_
      refine f_seq ?_
      refine c_asg ?_
      refine c_op ?_
      refine c_fz ?_
      refine c_lst ?_
      refine c_cons ?_
      refine ev_to ev_c ?_
      refine c_cons ?_
      refine c_op ?_
      refine ev_to (ev_un ev_c fun _ q => ⟨_, rfl, q⟩) ?_
      refine c_call ?_
      refine ea_to (ea_cons (ev_var rfl) ea_nil) ?_
      refine ⟨a_v_law_state, (r1.2 : (T3 Int Script Int)), star [imA (.ref a_v_law_stamped) (v_law_stamped : (T4 Int Str Int Any)), F], rfl, Sep.unstar (M := [stA a_v_law_state (r1.2 : T3 Int Script Int)]) (hS.sel [0, 1, 2] (by decide) rfl : Sep H (([stA a_v_law_state (r1.2 : T3 Int Script Int)] ++ [imA (.ref a_v_law_stamped) (v_law_stamped : (T4 Int Str Int Any)), F] : List (Asn G)))), R.wp_mono (R.wp_bind hm) (fun r59 hm H hS => ?_) (fun _ z => z)⟩
      have hS : Sep H ([stA a_v_law_state (r59.2 : T3 Int Script Int), imA (.ref a_v_law_stamped) (v_law_stamped : (T4 Int Str Int Any)), F] : List (Asn G)) := Sep.star (M := [stA a_v_law_state (r59.2 : T3 Int Script Int)]) hS
      refine r_I0 _ ?_
      refine c_cons ?_
      refine ev_to ev_c ?_
      refine c_cons ?_
      refine ev_to ev_c ?_
      refine c_cons ?_
      refine ev_to ev_c ?_
      refine c_nil ?_
      refine k_lst (α := Any) (vs := [(.int (0)), (.int ((-1) - r59.1)), (.bl (true)), (.str (("1" : Str))), .non]) (xs := [(Any.int 0), (Any.int ((-1) - r59.1)), (Any.bl true), (Any.str ("1" : Str)), Any.non]) hS ⟨(any_int.mpr rfl), ⟨(any_int.mpr rfl), ⟨(any_bl.mpr rfl), ⟨(any_str.mpr rfl), ⟨(any_non.mpr rfl), True.intro⟩⟩⟩⟩⟩ (by show 5 ≤ sizeLine; decide) fun p60 H hS => ?_
      refine fz_no ?_
      refine c_op ?_
      refine c_call ?_
      refine ea_to (ea_cons (ev_var rfl) ea_nil) ?_
      refine ⟨a_v_law_state, (r59.2 : (T3 Int Script Int)), star [lstA p60 ([(Any.int 0), (Any.int ((-1) - r59.1)), (Any.bl true), (Any.str ("1" : Str)), Any.non] : (List Any)), imA (.ref a_v_law_stamped) (v_law_stamped : (T4 Int Str Int Any)), F], rfl, Sep.unstar (M := [stA a_v_law_state (r59.2 : T3 Int Script Int)]) (hS.sel [1, 0, 2, 3] (by decide) rfl : Sep H (([stA a_v_law_state (r59.2 : T3 Int Script Int)] ++ [lstA p60 ([(Any.int 0), (Any.int ((-1) - r59.1)), (Any.bl true), (Any.str ("1" : Str)), Any.non] : (List Any)), imA (.ref a_v_law_stamped) (v_law_stamped : (T4 Int Str Int Any)), F] : List (Asn G)))), R.wp_mono (R.wp_bind hm) (fun r61 hm H hS => ?_) (fun _ z => z)⟩
      have hS : Sep H ([stA a_v_law_state (r61.2 : T3 Int Script Int), lstA p60 ([(Any.int 0), (Any.int ((-1) - r59.1)), (Any.bl true), (Any.str ("1" : Str)), Any.non] : (List Any)), imA (.ref a_v_law_stamped) (v_law_stamped : (T4 Int Str Int Any)), F] : List (Asn G)) := Sep.star (M := [stA a_v_law_state (r61.2 : T3 Int Script Int)]) hS
      refine ev_to ev_c ?_
      refine r_mod (by decide) ?_
      obtain ⟨x62, hx62, hm⟩ := wp_idx hm
      obtain ⟨vs63, hq64, hM65⟩ := hS.sq (i := 1) rfl
      obtain ⟨u66, hu67, hi68⟩ := atI_im hM65 hx62
      refine r_ixSq hq64 hu67 _ ?_
      have hS := hS.addIm (v := u66) (x := (x62 : Any)) hi68
      refine c_set (σ' := [some (.ref a_v_law_state), some (.ref a_v_law_stamped), some (.int (y2)), none, some u66]) rfl ?_
      refine sq_nx ?_
      refine c_ret ?_
      refine c_op ?_
      refine c_op ?_
      refine c_sl ?_
      refine ev_to (ev_var rfl) ?_
      obtain ⟨u70, u71, u72, u73, hT78, h74, h75, h76, h77⟩ := im4 (hS.im (i := 3) rfl)
      obtain rfl : u70 = (.int (v_law_stamped.a)) := h74
      obtain rfl : u71 = (.str (v_law_stamped.b)) := h75
      obtain rfl : u72 = (.int (v_law_stamped.c)) := h76
      obtain ⟨h79, hm⟩ := R.wp_need hm
      refine eo_to eo_no ?_
      refine eo_to (eo_some (ev_var rfl)) ?_
      refine k_slA (xs := [(Any.int v_law_stamped.a), (Any.str v_law_stamped.b), (Any.int v_law_stamped.c), v_law_stamped.d]) hS ((any_tup (xs := [(Any.int v_law_stamped.a), (Any.str v_law_stamped.b), (Any.int v_law_stamped.c), v_law_stamped.d])).mpr ⟨_, _, rfl, hT78, ⟨(any_int.mpr rfl), ⟨(any_str.mpr rfl), ⟨(any_int.mpr rfl), ⟨h77, True.intro⟩⟩⟩⟩⟩) h79 fun p80 H hS => ?_
      refine c_tup ?_
      refine ea_to (ea_cons (ev_var rfl) ea_nil) ?_
      refine k_tupP (x := ((⟨x62⟩ : T1 _) : (T1 Any))) hS (fun H' p h s => mk1 (hS.im (i := 1) rfl) h s) (by show 1 ≤ sizeLine; decide) fun p82 H hS => ?_
      obtain ⟨xs84, h85, hm⟩ := Ml.wp_asTup hm
      obtain ⟨u86, hT88, h87⟩ := im1 (hS.im (i := 0) rfl)
      obtain ⟨h89, hm⟩ := R.wp_need hm
      refine k_catA (xs := xs84) (ys := [(⟨x62⟩ : T1 _).a]) hS (tupE (hS.im (i := 1) rfl) h85) ((any_tup (xs := [(⟨x62⟩ : T1 _).a])).mpr ⟨_, _, rfl, hT88, ⟨h87, True.intro⟩⟩) h89 fun p90 H hS => ?_
      refine c_sl ?_
      refine ev_to (ev_var rfl) ?_
      obtain ⟨u92, u93, u94, u95, hT100, h96, h97, h98, h99⟩ := im4 (hS.im (i := 6) rfl)
      obtain rfl : u92 = (.int (v_law_stamped.a)) := h96
      obtain rfl : u93 = (.str (v_law_stamped.b)) := h97
      obtain rfl : u94 = (.int (v_law_stamped.c)) := h98
      obtain ⟨h101, hm⟩ := R.wp_need hm
      refine eo_to (eo_some (ev_add (ev_var rfl) ev_c)) ?_
      refine eo_to eo_no ?_
      refine k_slA (xs := [(Any.int v_law_stamped.a), (Any.str v_law_stamped.b), (Any.int v_law_stamped.c), v_law_stamped.d]) hS ((any_tup (xs := [(Any.int v_law_stamped.a), (Any.str v_law_stamped.b), (Any.int v_law_stamped.c), v_law_stamped.d])).mpr ⟨_, _, rfl, hT100, ⟨(any_int.mpr rfl), ⟨(any_str.mpr rfl), ⟨(any_int.mpr rfl), ⟨h99, True.intro⟩⟩⟩⟩⟩) h101 fun p102 H hS => ?_
      obtain ⟨xs104, h105, hm⟩ := Ml.wp_asTup hm
      obtain ⟨xs106, h107, hm⟩ := Ml.wp_asTup hm
      obtain ⟨h108, hm⟩ := R.wp_need hm
      refine k_catA (xs := xs104) (ys := xs106) hS (tupE (hS.im (i := 1) rfl) h105) (tupE (hS.im (i := 0) rfl) h107) h108 fun p109 H hS => ?_
      exact hm _ _ (hS.sel [0, 6, 9] (by decide) rfl)
def sp_law (G : Gx) : Sp := fun vs H Q E => ∃ (a_v_law_script : V) (v_law_script : Script) (F : Asn G), vs = [a_v_law_script] ∧ Im.im G H a_v_law_script v_law_script ∧ Sep H ([F] : List (Asn G)) ∧ R.wp (m_law v_law_script) (fun r => ∀ H', Sep H' ([F] : List (Asn G)) → Q (.bl (r)) H') (fun _ => False)
abbrev N_law : List Str := ["_law_script", "_law_state", "_law_hand", "_law_names", "_law_deed_here", "_law_clock", "_law_stamped", "_law_odd"]
theorem sc_law : FnScope N_law ["_law_script"] (defScope s_law) := ⟨rfl, rfl, rfl, by decide +kernel, rfl, by decide +kernel, by decide +kernel⟩
theorem ok_law (T : Txt G mg) : FnOk P w G.K mg base CX0 9 T.a_law T.fd_law ["_law_script"] (sp_law G) := by
  have nd := sc_law.nd
  refine Fun.ok T.F_law sc_law (fun vs H Q E h => ?_) (fun cdv A outer s H vs Q E hr h => ?_)
  · obtain ⟨a_v_law_script, v_law_script, F, rfl, _⟩ := h; rfl
  · obtain ⟨a_v_law_script, v_law_script, F, rfl, him_v_law_script, hS, hm⟩ := h
    obtain ⟨ad_v_law_script, rfl, _⟩ := im_script him_v_law_script
    have hS := hS.addIm him_v_law_script
    refine ⟨_, (pss_cons (ps_set (i := 1) nd rfl (Or.inl rfl) (pe_call (ok_law_begin T) (hr.mono (by decide)) rfl T.g_law_begin T.kp_law_begin T.b_law_begin .nil pass0 (pa_cons (pv 0) pa_nil)))
      (pss_cons (ps_set (i := 2) nd rfl (Or.inl rfl) (pe_ix (ix_listK G.K) (pe_fz (pe_call (ok_law_hands T) (hr.mono (by decide)) rfl T.g_law_hands T.kp_law_hands T.b_law_hands .nil pass0 (pa_cons (pv 1) (pa_cons pe_int pa_nil)))) pe_int (fun _ _ => rfl)))
      (pss_cons (ps_set (i := 3) nd rfl (Or.inl rfl) (pe_fz (pe_lst (pa_cons (pe_call (ok_law_any_word T) (hr.mono (by decide)) rfl T.g_law_any_word T.kp_law_any_word T.b_law_any_word .nil pass0 (pa_cons (pv 1) pa_nil)) pa_nil))))
      (pss_cons (ps_set (i := 4) nd rfl (Or.inl rfl) (pe_call (ok_law_deed T) (hr.mono (by decide)) rfl T.g_law_deed T.kp_law_deed T.b_law_deed .nil pass0 (pa_cons (pv 1) (pa_cons (pe_fz (pv 3)) (pa_cons (pv 2) (pa_cons (pe_op op_mod (pe_call (ok_law_next T) (hr.mono (by decide)) rfl T.g_law_next T.kp_law_next T.b_law_next .nil pass0 (pa_cons (pv 1) pa_nil)) pe_int) pa_nil))))))
      (pss_cons (ps_set (i := 5) nd rfl (Or.inl rfl) (pe_op op_add pe_int (pe_op op_mod (pe_call (ok_law_next T) (hr.mono (by decide)) rfl T.g_law_next T.kp_law_next T.b_law_next .nil pass0 (pa_cons (pv 1) pa_nil)) (pe_ix (ix_listK G.K) (pe_fz (pe_lst (pa_cons pe_int (pa_cons (pe_op op_pow pe_int pe_int) pa_nil)))) (pe_op op_mod (pe_call (ok_law_next T) (hr.mono (by decide)) rfl T.g_law_next T.kp_law_next T.b_law_next .nil pass0 (pa_cons (pv 1) pa_nil)) pe_int) (fun _ _ => rfl)))))
      (pss_cons (ps_set (i := 6) nd rfl (Or.inl rfl) (pe_tup (pa_cons (pv 5) (pa_cons (pv 2) (pa_cons (pe_op op_add pe_int (pe_op op_mod (pe_call (ok_law_next T) (hr.mono (by decide)) rfl T.g_law_next T.kp_law_next T.b_law_next .nil pass0 (pa_cons (pv 1) pa_nil)) pe_int)) (pa_cons (pv 4) pa_nil))))))
      (pss_cons (ps_if (PW.pt (pw_or (pt_cmpR op_isnB (pe_call (ok_is_deed T) (hr.mono (by decide)) rfl T.g_is_deed T.kp_is_deed T.b_is_deed .nil pass0 (pa_cons (pv 4) pa_nil)) pe_bl (nobehind _ (by decide) (by decide))) (pw_or (pt_cmpR op_isnB (pe_call (ok_is_stamped T) (hr.mono (by decide)) rfl T.g_is_stamped T.kp_is_stamped T.b_is_stamped .nil pass0 (pa_cons (pv 6) pa_nil)) pe_bl (nobehind _ (by decide) (by decide))) (pw_or1 (pt_cmpR op_isnB (pe_call (ok_is_hand T) (hr.mono (by decide)) rfl T.g_is_hand T.kp_is_hand T.b_is_hand .nil pass0 (pa_cons (pv 2) pa_nil)) pe_bl (nobehind _ (by decide) (by decide))))))) (pss_one (ps_ret pe_bl)) pss_nil)
      (pss_cons (ps_if (PW.pt (pw_or (pt_cmpR op_isnB (pe_call (ok_is_deed T) (hr.mono (by decide)) rfl T.g_is_deed T.kp_is_deed T.b_is_deed .nil pass0 (pa_cons (pe_tup pa_nil) pa_nil)) pe_bl (nobehind _ (by decide) (by decide))) (pw_or (pt_cmpR op_isnB (pe_call (ok_is_stamped T) (hr.mono (by decide)) rfl T.g_is_stamped T.kp_is_stamped T.b_is_stamped .nil pass0 (pa_cons (pe_tup pa_nil) pa_nil)) pe_bl (nobehind _ (by decide) (by decide))) (pw_or1 (pt_cmpR op_isnB (pe_call (ok_is_hand T) (hr.mono (by decide)) rfl T.g_is_hand T.kp_is_hand T.b_is_hand .nil pass0 (pa_cons (pe_fz (pe_lst (pa_cons (pv 2) pa_nil))) pa_nil)) pe_bl (nobehind _ (by decide) (by decide))))))) (pss_one (ps_ret pe_bl)) pss_nil)
      (pss_cons (ps_if (PW.pt (pw_or (pt_cmpR (neDK G.K hr.units) (pe_call (ok_stamp_of T) (hr.mono (by decide)) rfl T.g_stamp_of T.kp_stamp_of T.b_stamp_of .nil pass0 (pa_cons (pv 6) pa_nil)) (pe_tup (pa_cons (pv 5) (pa_cons (pv 2) pa_nil))) (nomark _)) (pw_or (pt_cmpR op_isnB (pe_call (ok_is_deed T) (hr.mono (by decide)) rfl T.g_is_deed T.kp_is_deed T.b_is_deed .nil pass0 (pa_cons (pe_fz (pe_callTy (listSqK G.K) (by rfl) T.z_list (by decide +kernel) (pa_cons (pv 4) pa_nil))) pa_nil)) pe_bl (nobehind _ (by decide) (by decide))) (pw_or1 (pt_cmpR op_isnB (pe_call (ok_is_deed T) (hr.mono (by decide)) rfl T.g_is_deed T.kp_is_deed T.b_is_deed .nil pass0 (pa_cons (pe_op (catAK G.K) (pv 4) (pe_tup (pa_cons pe_str pa_nil))) pa_nil)) pe_bl (nobehind _ (by decide) (by decide))))))) (pss_one (ps_ret pe_bl)) pss_nil)
      (pss_cons (ps_if (PW.pt (pw_or (pt_cmpR op_isnB (pe_call (ok_is_deed T) (hr.mono (by decide)) rfl T.g_is_deed T.kp_is_deed T.b_is_deed .nil pass0 (pa_cons (pe_slice (sl_tupK G.K) (pv 4) po_none (po_some (pe_un un_neg pe_int))) pa_nil)) pe_bl (nobehind _ (by decide) (by decide))) (pw_or (pt_cmpR op_isnB (pe_call (ok_is_stamped T) (hr.mono (by decide)) rfl T.g_is_stamped T.kp_is_stamped T.b_is_stamped .nil pass0 (pa_cons (pe_fz (pe_callTy (listSqK G.K) (by rfl) T.z_list (by decide +kernel) (pa_cons (pv 6) pa_nil))) pa_nil)) pe_bl (nobehind _ (by decide) (by decide))) (pw_or1 (pt_cmpR op_isnB (pe_call (ok_is_stamped T) (hr.mono (by decide)) rfl T.g_is_stamped T.kp_is_stamped T.b_is_stamped .nil pass0 (pa_cons (pv 4) pa_nil)) pe_bl (nobehind _ (by decide) (by decide))))))) (pss_one (ps_ret pe_bl)) pss_nil)
      (pss_cons (ps_set (i := 7) nd rfl (Or.inl rfl) (pe_call (ok_law_no_deed T) (hr.mono (by decide)) rfl T.g_law_no_deed T.kp_law_no_deed T.b_law_no_deed .nil pass0 (pa_cons (pv 1) (pa_cons (pv 4) pa_nil))))
      (pss_cons (ps_if (PW.pt (pw_or (pt_cmpR op_isnB (pe_call (ok_is_deed T) (hr.mono (by decide)) rfl T.g_is_deed T.kp_is_deed T.b_is_deed .nil pass0 (pa_cons (pv 7) pa_nil)) pe_bl (nobehind _ (by decide) (by decide))) (pw_or1 (pt_cmpR op_isnB (pe_call (ok_is_stamped T) (hr.mono (by decide)) rfl T.g_is_stamped T.kp_is_stamped T.b_is_stamped .nil pass0 (pa_cons (pe_op (catTK G.K) (pe_slice (sl_tupK G.K) (pv 6) po_none (po_some pe_int)) (pe_tup (pa_cons (pv 7) pa_nil))) pa_nil)) pe_bl (nobehind _ (by decide) (by decide)))))) (pss_one (ps_ret pe_bl)) pss_nil)
      (pss_cons (ps_set (i := 7) nd rfl (Or.inl rfl) (pe_call (ok_law_no_stamped T) (hr.mono (by decide)) rfl T.g_law_no_stamped T.kp_law_no_stamped T.b_law_no_stamped .nil pass0 (pa_cons (pv 1) (pa_cons (pv 6) pa_nil))))
      (pss_cons (ps_if (PW.pt (pw_or (pt_cmpR op_isnB (pe_call (ok_is_stamped T) (hr.mono (by decide)) rfl T.g_is_stamped T.kp_is_stamped T.b_is_stamped .nil pass0 (pa_cons (pv 7) pa_nil)) pe_bl (nobehind _ (by decide) (by decide))) (pw_or (pt_cmpR op_isnB (pe_call (ok_is_stamped T) (hr.mono (by decide)) rfl T.g_is_stamped T.kp_is_stamped T.b_is_stamped .nil pass0 (pa_cons (pe_op (catTK G.K) (pv 6) (pe_tup (pa_cons pe_int pa_nil))) pa_nil)) pe_bl (nobehind _ (by decide) (by decide))) (pw_or1 (pt_cmpR op_isnB (pe_call (ok_is_stamped T) (hr.mono (by decide)) rfl T.g_is_stamped T.kp_is_stamped T.b_is_stamped .nil pass0 (pa_cons (pe_slice (sl_tupK G.K) (pv 6) po_none (po_some pe_int)) pa_nil)) pe_bl (nobehind _ (by decide) (by decide))))))) (pss_one (ps_ret pe_bl)) pss_nil)
      (pss_one (ps_ret (pe_cmpR op_isB (pe_call (ok_is_hand T) (hr.mono (by decide)) rfl T.g_is_hand T.kp_is_hand T.b_is_hand .nil pass0 (pa_cons (pe_ix (ix_listK G.K) (pe_fz (pe_lst (pa_cons pe_str (pa_cons (pe_op op_repS (pv 2) pe_int) (pa_cons (pe_op op_catS (pv 2) pe_str) (pa_cons (pe_m0 PySem.F.slot_str_upper PySem.F.type_str_upper mt_upper (pv 2)) (pa_cons pe_non (pa_cons pe_int (pa_cons pe_str pa_nil))))))))) (pe_op op_mod (pe_call (ok_law_next T) (hr.mono (by decide)) rfl T.g_law_next T.kp_law_next T.b_law_next .nil pass0 (pa_cons (pv 1) pa_nil)) pe_int) (fun _ _ => rfl)) pa_nil)) pe_bl (nobehind _ (by decide) (by decide))))))))))))))))))), ?_⟩
    unfold m_law at hm
    refine f_seq ?_
    refine c_asg ?_
    refine c_call ?_
    refine ea_to (ea_cons (ev_var rfl) ea_nil) ?_
    refine ⟨_, v_law_script, star [imA (.ref ad_v_law_script) v_law_script, F], rfl, (hS.im (i := 0) rfl), Sep.unstar (M := []) (hS.sel [0, 1] (by decide) rfl : Sep H (([] ++ [imA (.ref ad_v_law_script) v_law_script, F] : List (Asn G)))), R.wp_mono (R.wp_bind hm) (fun r1 hm p2 H hS => ?_) (fun _ z => z)⟩
    have hS : Sep H ([stA p2 (r1 : T3 Int Script Int), imA (.ref ad_v_law_script) v_law_script, F] : List (Asn G)) := Sep.star (M := [stA p2 (r1 : T3 Int Script Int)]) hS
    refine c_set (σ' := [some (.ref ad_v_law_script), some (.ref p2), none, none, none, none, none, none]) rfl ?_
    refine sq_nx ?_
    refine f_seq ?_
    refine c_asg ?_
    refine c_op ?_
    refine c_fz ?_
    refine c_call ?_
    refine ea_to (ea_cons (ev_var rfl) (ea_cons ev_c ea_nil)) ?_
    refine ⟨p2, (r1 : (T3 Int Script Int)), 1, star [imA (.ref ad_v_law_script) v_law_script, F], rfl, Sep.unstar (M := [stA p2 (r1 : T3 Int Script Int)]) (hS.sel [0, 1, 2] (by decide) rfl : Sep H (([stA p2 (r1 : T3 Int Script Int)] ++ [imA (.ref ad_v_law_script) v_law_script, F] : List (Asn G)))), R.wp_mono (R.wp_bind hm) (fun r3 hm p4 H hS => ?_) (fun _ z => z)⟩
    have hS : Sep H ([lstA p4 (r3.1 : (List Str)), stA p2 (r3.2 : T3 Int Script Int), imA (.ref ad_v_law_script) v_law_script, F] : List (Asn G)) := Sep.star (M := [lstA p4 (r3.1 : (List Str)), stA p2 (r3.2 : T3 Int Script Int)]) hS
    refine fz_no ?_
    refine ev_to ev_c ?_
    obtain ⟨x5, hx5, hm⟩ := wp_idx hm
    refine r_ixSq (hS.sqF (i := 0) rfl) (atI_map hx5) _ ?_
    refine c_set (σ' := [some (.ref ad_v_law_script), some (.ref p2), some (.str (x5)), none, none, none, none, none]) rfl ?_
    refine sq_nx ?_
    refine f_seq ?_
    refine c_asg ?_
    refine c_fz ?_
    refine c_lst ?_
    refine c_cons ?_
    refine c_call ?_
    refine ea_to (ea_cons (ev_var rfl) ea_nil) ?_
    refine ⟨p2, (r3.2 : (T3 Int Script Int)), star [lstA p4 (r3.1 : (List Str)), imA (.ref ad_v_law_script) v_law_script, F], rfl, Sep.unstar (M := [stA p2 (r3.2 : T3 Int Script Int)]) (hS.sel [1, 0, 2, 3] (by decide) rfl : Sep H (([stA p2 (r3.2 : T3 Int Script Int)] ++ [lstA p4 (r3.1 : (List Str)), imA (.ref ad_v_law_script) v_law_script, F] : List (Asn G)))), R.wp_mono (R.wp_bind hm) (fun r6 hm H hS => ?_) (fun _ z => z)⟩
    have hS : Sep H ([stA p2 (r6.2 : T3 Int Script Int), lstA p4 (r3.1 : (List Str)), imA (.ref ad_v_law_script) v_law_script, F] : List (Asn G)) := Sep.star (M := [stA p2 (r6.2 : T3 Int Script Int)]) hS
    refine c_nil ?_
    refine k_lst (α := Str) (vs := [(.str (r6.1))]) (xs := [r6.1]) hS ⟨rfl, True.intro⟩ (by show 1 ≤ sizeLine; decide) fun p7 H hS => ?_
    refine fz_no ?_
    obtain ⟨y8, hy8, hm⟩ := wp_let hm
    have hS : Sep H ([lstA p7 (y8 : (List Str)), stA p2 (r6.2 : T3 Int Script Int), lstA p4 (r3.1 : (List Str)), imA (.ref ad_v_law_script) v_law_script, F] : List (Asn G)) := by rw [← hy8]; exact hS
    refine c_set (σ' := [some (.ref ad_v_law_script), some (.ref p2), some (.str (x5)), some (.ref p7), none, none, none, none]) rfl ?_
    refine sq_nx ?_
    refine f_seq ?_
    refine c_asg ?_
    refine c_call ?_
    refine c_cons ?_
    refine ev_to (ev_var rfl) ?_
    refine c_cons ?_
    refine ev_to (ev_fz (ev_var rfl)) ?_
    refine c_cons ?_
    refine ev_to (ev_var rfl) ?_
    refine c_cons ?_
    refine c_op ?_
    refine c_call ?_
    refine ea_to (ea_cons (ev_var rfl) ea_nil) ?_
    refine ⟨p2, (r6.2 : (T3 Int Script Int)), star [lstA p7 (y8 : (List Str)), lstA p4 (r3.1 : (List Str)), imA (.ref ad_v_law_script) v_law_script, F], rfl, Sep.unstar (M := [stA p2 (r6.2 : T3 Int Script Int)]) (hS.sel [1, 0, 2, 3, 4] (by decide) rfl : Sep H (([stA p2 (r6.2 : T3 Int Script Int)] ++ [lstA p7 (y8 : (List Str)), lstA p4 (r3.1 : (List Str)), imA (.ref ad_v_law_script) v_law_script, F] : List (Asn G)))), R.wp_mono (R.wp_bind hm) (fun r9 hm H hS => ?_) (fun _ z => z)⟩
    have hS : Sep H ([stA p2 (r9.2 : T3 Int Script Int), lstA p7 (y8 : (List Str)), lstA p4 (r3.1 : (List Str)), imA (.ref ad_v_law_script) v_law_script, F] : List (Asn G)) := Sep.star (M := [stA p2 (r9.2 : T3 Int Script Int)]) hS
    refine ev_to ev_c ?_
    refine r_mod (by decide) ?_
    refine c_nil ?_
    refine ⟨p2, (r9.2 : (T3 Int Script Int)), p7, (y8 : (List Str)), x5, (r9.1 % 200), star [lstA p4 (r3.1 : (List Str)), imA (.ref ad_v_law_script) v_law_script, F], rfl, Sep.unstar (M := [stA p2 (r9.2 : T3 Int Script Int), lstA p7 (y8 : (List Str))]) (hS.sel [0, 1, 2, 3, 4] (by decide) rfl : Sep H (([stA p2 (r9.2 : T3 Int Script Int), lstA p7 (y8 : (List Str))] ++ [lstA p4 (r3.1 : (List Str)), imA (.ref ad_v_law_script) v_law_script, F] : List (Asn G)))), R.wp_mono (R.wp_bind hm) (fun r10 hm p11 H hS => ?_) (fun _ z => z)⟩
    have hS : Sep H ([imA p11 (r10.1 : Any), stA p2 (r10.2 : T3 Int Script Int), lstA p7 (y8 : (List Str)), lstA p4 (r3.1 : (List Str)), imA (.ref ad_v_law_script) v_law_script, F] : List (Asn G)) := Sep.star (M := [imA p11 (r10.1 : Any), stA p2 (r10.2 : T3 Int Script Int), lstA p7 (y8 : (List Str))]) hS
    refine c_set (σ' := [some (.ref ad_v_law_script), some (.ref p2), some (.str (x5)), some (.ref p7), some p11, none, none, none]) rfl ?_
    refine sq_nx ?_
    refine f_seq ?_
    refine c_asg ?_
    refine c_op ?_
    refine ev_to ev_c ?_
    refine c_op ?_
    refine c_call ?_
    refine ea_to (ea_cons (ev_var rfl) ea_nil) ?_
    refine ⟨p2, (r10.2 : (T3 Int Script Int)), star [imA p11 (r10.1 : Any), lstA p7 (y8 : (List Str)), lstA p4 (r3.1 : (List Str)), imA (.ref ad_v_law_script) v_law_script, F], rfl, Sep.unstar (M := [stA p2 (r10.2 : T3 Int Script Int)]) (hS.sel [1, 0, 2, 3, 4, 5] (by decide) rfl : Sep H (([stA p2 (r10.2 : T3 Int Script Int)] ++ [imA p11 (r10.1 : Any), lstA p7 (y8 : (List Str)), lstA p4 (r3.1 : (List Str)), imA (.ref ad_v_law_script) v_law_script, F] : List (Asn G)))), R.wp_mono (R.wp_bind hm) (fun r13 hm H hS => ?_) (fun _ z => z)⟩
    have hS : Sep H ([stA p2 (r13.2 : T3 Int Script Int), imA p11 (r10.1 : Any), lstA p7 (y8 : (List Str)), lstA p4 (r3.1 : (List Str)), imA (.ref ad_v_law_script) v_law_script, F] : List (Asn G)) := Sep.star (M := [stA p2 (r13.2 : T3 Int Script Int)]) hS
    refine c_op ?_
    refine c_fz ?_
    refine c_lst ?_
    refine ea_to (ea_cons ev_c (ea_cons (ev_powC ev_c ev_c (by unfold CPow; decide)) ea_nil)) ?_
    refine k_lst (α := Int) (vs := [(.int (5)), (.int (10 ^ (6 : Int).toNat))]) (xs := [5, 10 ^ (6 : Int).toNat]) hS ⟨rfl, ⟨rfl, True.intro⟩⟩ (by show 2 ≤ sizeLine; decide) fun p14 H hS => ?_
    refine fz_no ?_
    refine c_op ?_
    refine c_call ?_
    refine ea_to (ea_cons (ev_var rfl) ea_nil) ?_
    refine ⟨p2, (r13.2 : (T3 Int Script Int)), star [lstA p14 ([5, 10 ^ (6 : Int).toNat] : (List Int)), imA p11 (r10.1 : Any), lstA p7 (y8 : (List Str)), lstA p4 (r3.1 : (List Str)), imA (.ref ad_v_law_script) v_law_script, F], rfl, Sep.unstar (M := [stA p2 (r13.2 : T3 Int Script Int)]) (hS.sel [1, 0, 2, 3, 4, 5, 6] (by decide) rfl : Sep H (([stA p2 (r13.2 : T3 Int Script Int)] ++ [lstA p14 ([5, 10 ^ (6 : Int).toNat] : (List Int)), imA p11 (r10.1 : Any), lstA p7 (y8 : (List Str)), lstA p4 (r3.1 : (List Str)), imA (.ref ad_v_law_script) v_law_script, F] : List (Asn G)))), R.wp_mono (R.wp_bind hm) (fun r15 hm H hS => ?_) (fun _ z => z)⟩
    have hS : Sep H ([stA p2 (r15.2 : T3 Int Script Int), lstA p14 ([5, 10 ^ (6 : Int).toNat] : (List Int)), imA p11 (r10.1 : Any), lstA p7 (y8 : (List Str)), lstA p4 (r3.1 : (List Str)), imA (.ref ad_v_law_script) v_law_script, F] : List (Asn G)) := Sep.star (M := [stA p2 (r15.2 : T3 Int Script Int)]) hS
    refine ev_to ev_c ?_
    refine r_mod (by decide) ?_
    obtain ⟨x16, hx16, hm⟩ := wp_idx hm
    refine r_ixSq (hS.sqF (i := 1) rfl) (atI_map hx16) _ ?_
    obtain ⟨h17, hm⟩ := R.wp_need hm
    refine r_mod h17 ?_
    refine r_I0 _ ?_
    obtain ⟨y18, hy18, hm⟩ := wp_let hm
    refine n_is (w := (.int (y18))) (by rw [hy18]) ?_
    refine c_set (σ' := [some (.ref ad_v_law_script), some (.ref p2), some (.str (x5)), some (.ref p7), some p11, some (.int (y18)), none, none]) rfl ?_
    refine sq_nx ?_
    refine f_seq ?_
    refine c_asg ?_
    refine c_tup ?_
    refine c_cons ?_
    refine ev_to (ev_var rfl) ?_
    refine c_cons ?_
    refine ev_to (ev_var rfl) ?_
    refine c_cons ?_
    refine c_op ?_
    refine ev_to ev_c ?_
    refine c_op ?_
    refine c_call ?_
    refine ea_to (ea_cons (ev_var rfl) ea_nil) ?_
    refine ⟨p2, (r15.2 : (T3 Int Script Int)), star [lstA p14 ([5, 10 ^ (6 : Int).toNat] : (List Int)), imA p11 (r10.1 : Any), lstA p7 (y8 : (List Str)), lstA p4 (r3.1 : (List Str)), imA (.ref ad_v_law_script) v_law_script, F], rfl, Sep.unstar (M := [stA p2 (r15.2 : T3 Int Script Int)]) (hS.sel [0, 1, 2, 3, 4, 5, 6] (by decide) rfl : Sep H (([stA p2 (r15.2 : T3 Int Script Int)] ++ [lstA p14 ([5, 10 ^ (6 : Int).toNat] : (List Int)), imA p11 (r10.1 : Any), lstA p7 (y8 : (List Str)), lstA p4 (r3.1 : (List Str)), imA (.ref ad_v_law_script) v_law_script, F] : List (Asn G)))), R.wp_mono (R.wp_bind hm) (fun r19 hm H hS => ?_) (fun _ z => z)⟩
    have hS : Sep H ([stA p2 (r19.2 : T3 Int Script Int), lstA p14 ([5, 10 ^ (6 : Int).toNat] : (List Int)), imA p11 (r10.1 : Any), lstA p7 (y8 : (List Str)), lstA p4 (r3.1 : (List Str)), imA (.ref ad_v_law_script) v_law_script, F] : List (Asn G)) := Sep.star (M := [stA p2 (r19.2 : T3 Int Script Int)]) hS
    refine ev_to ev_c ?_
    refine r_mod (by decide) ?_
    refine r_I0 _ ?_
    refine c_cons ?_
    refine ev_to (ev_var rfl) ?_
    refine c_nil ?_
    refine k_tupP (x := ((⟨y18, x5, 1 + (r19.1 % 2000), r10.1⟩ : T4 _ _ _ _) : (T4 Int Str Int Any))) hS (fun H' p h s => mk4 rfl rfl rfl (hS.im (i := 2) rfl) h s) (by show 4 ≤ sizeLine; decide) fun p20 H hS => ?_
    refine c_set (σ' := [some (.ref ad_v_law_script), some (.ref p2), some (.str (x5)), some (.ref p7), some p11, some (.int (y18)), some (.ref p20), none]) rfl ?_
    refine sq_nx ?_
    refine f_seq ?_
    refine f_if ?_
    refine f_or ?_
    refine f_test ?_
    refine c_op ?_
    refine c_call ?_
    refine ea_to (ea_cons (ev_var rfl) ea_nil) ?_
    refine ⟨p11, (r10.1 : Any), star [imA (.ref p20) ((⟨y18, x5, 1 + (r19.1 % 2000), r10.1⟩ : T4 _ _ _ _) : (T4 Int Str Int Any)), stA p2 (r19.2 : T3 Int Script Int), lstA p14 ([5, 10 ^ (6 : Int).toNat] : (List Int)), imA p11 (r10.1 : Any), lstA p7 (y8 : (List Str)), lstA p4 (r3.1 : (List Str)), imA (.ref ad_v_law_script) v_law_script, F], rfl, (hS.im (i := 3) rfl), Sep.unstar (M := []) (hS.sel [0, 1, 2, 3, 4, 5, 6, 7] (by decide) rfl : Sep H (([] ++ [imA (.ref p20) ((⟨y18, x5, 1 + (r19.1 % 2000), r10.1⟩ : T4 _ _ _ _) : (T4 Int Str Int Any)), stA p2 (r19.2 : T3 Int Script Int), lstA p14 ([5, 10 ^ (6 : Int).toNat] : (List Int)), imA p11 (r10.1 : Any), lstA p7 (y8 : (List Str)), lstA p4 (r3.1 : (List Str)), imA (.ref ad_v_law_script) v_law_script, F] : List (Asn G)))), R.wp_mono (R.wp_bind hm) (fun r22 hm H hS => ?_) (fun _ z => z)⟩
    have hS : Sep H ([imA (.ref p20) ((⟨y18, x5, 1 + (r19.1 % 2000), r10.1⟩ : T4 _ _ _ _) : (T4 Int Str Int Any)), stA p2 (r19.2 : T3 Int Script Int), lstA p14 ([5, 10 ^ (6 : Int).toNat] : (List Int)), imA p11 (r10.1 : Any), lstA p7 (y8 : (List Str)), lstA p4 (r3.1 : (List Str)), imA (.ref ad_v_law_script) v_law_script, F] : List (Asn G)) := Sep.star (M := []) hS
    refine ev_to ev_c ?_
    refine ev_op2 (ev_isnB ev_c ev_c) ?_
    refine f_bl ?_
    refine orK_J hm hS (fun hb q hm nx => ?_) (fun b23 H hm hS => ?_)
    ·
      refine f_or ?_
      refine f_test ?_
      refine c_op ?_
      refine c_call ?_
      refine ea_to (ea_cons (ev_var rfl) ea_nil) ?_
      obtain ⟨u24, u25, u26, u27, hT32, h28, h29, h30, h31⟩ := im4 (hS.im (i := 0) rfl)
      obtain rfl : u24 = (.int ((⟨y18, x5, 1 + (r19.1 % 2000), r10.1⟩ : T4 _ _ _ _).a)) := h28
      obtain rfl : u25 = (.str ((⟨y18, x5, 1 + (r19.1 % 2000), r10.1⟩ : T4 _ _ _ _).b)) := h29
      obtain rfl : u26 = (.int ((⟨y18, x5, 1 + (r19.1 % 2000), r10.1⟩ : T4 _ _ _ _).c)) := h30
      refine ⟨(.ref p20), ((Any.tup [(Any.int ((⟨y18, x5, 1 + (r19.1 % 2000), r10.1⟩ : T4 _ _ _ _).a)), (Any.str ((⟨y18, x5, 1 + (r19.1 % 2000), r10.1⟩ : T4 _ _ _ _).b)), (Any.int ((⟨y18, x5, 1 + (r19.1 % 2000), r10.1⟩ : T4 _ _ _ _).c)), (⟨y18, x5, 1 + (r19.1 % 2000), r10.1⟩ : T4 _ _ _ _).d]) : Any), star [imA (.ref p20) ((⟨y18, x5, 1 + (r19.1 % 2000), r10.1⟩ : T4 _ _ _ _) : (T4 Int Str Int Any)), stA p2 (r19.2 : T3 Int Script Int), lstA p14 ([5, 10 ^ (6 : Int).toNat] : (List Int)), imA p11 (r10.1 : Any), lstA p7 (y8 : (List Str)), lstA p4 (r3.1 : (List Str)), imA (.ref ad_v_law_script) v_law_script, F], rfl, ((any_tup (xs := [(Any.int ((⟨y18, x5, 1 + (r19.1 % 2000), r10.1⟩ : T4 _ _ _ _).a)), (Any.str ((⟨y18, x5, 1 + (r19.1 % 2000), r10.1⟩ : T4 _ _ _ _).b)), (Any.int ((⟨y18, x5, 1 + (r19.1 % 2000), r10.1⟩ : T4 _ _ _ _).c)), (⟨y18, x5, 1 + (r19.1 % 2000), r10.1⟩ : T4 _ _ _ _).d])).mpr ⟨_, _, rfl, hT32, ⟨(any_int.mpr rfl), ⟨(any_str.mpr rfl), ⟨(any_int.mpr rfl), ⟨h31, True.intro⟩⟩⟩⟩⟩), Sep.unstar (M := []) (hS.sel [0, 1, 2, 3, 4, 5, 6, 7] (by decide) rfl : Sep H (([] ++ [imA (.ref p20) ((⟨y18, x5, 1 + (r19.1 % 2000), r10.1⟩ : T4 _ _ _ _) : (T4 Int Str Int Any)), stA p2 (r19.2 : T3 Int Script Int), lstA p14 ([5, 10 ^ (6 : Int).toNat] : (List Int)), imA p11 (r10.1 : Any), lstA p7 (y8 : (List Str)), lstA p4 (r3.1 : (List Str)), imA (.ref ad_v_law_script) v_law_script, F] : List (Asn G)))), R.wp_mono (R.wp_bind hm) (fun r33 hm H hS => ?_) (fun _ z => z)⟩
      have hS : Sep H ([imA (.ref p20) ((⟨y18, x5, 1 + (r19.1 % 2000), r10.1⟩ : T4 _ _ _ _) : (T4 Int Str Int Any)), stA p2 (r19.2 : T3 Int Script Int), lstA p14 ([5, 10 ^ (6 : Int).toNat] : (List Int)), imA p11 (r10.1 : Any), lstA p7 (y8 : (List Str)), lstA p4 (r3.1 : (List Str)), imA (.ref ad_v_law_script) v_law_script, F] : List (Asn G)) := Sep.star (M := []) hS
      refine ev_to ev_c ?_
      refine ev_op2 (ev_isnB ev_c ev_c) ?_
      refine f_bl ?_
      refine orK_J hm hS (fun hb q hm nx => ?_) (fun b34 H hm hS => ?_)
      ·
        refine f_test ?_
        refine c_op ?_
        refine c_call ?_
        refine ea_to (ea_cons (ev_var rfl) ea_nil) ?_
        refine ⟨(.str (x5)), ((Any.str x5) : Any), star [imA (.ref p20) ((⟨y18, x5, 1 + (r19.1 % 2000), r10.1⟩ : T4 _ _ _ _) : (T4 Int Str Int Any)), stA p2 (r19.2 : T3 Int Script Int), lstA p14 ([5, 10 ^ (6 : Int).toNat] : (List Int)), imA p11 (r10.1 : Any), lstA p7 (y8 : (List Str)), lstA p4 (r3.1 : (List Str)), imA (.ref ad_v_law_script) v_law_script, F], rfl, (any_str.mpr rfl), Sep.unstar (M := []) (hS.sel [0, 1, 2, 3, 4, 5, 6, 7] (by decide) rfl : Sep H (([] ++ [imA (.ref p20) ((⟨y18, x5, 1 + (r19.1 % 2000), r10.1⟩ : T4 _ _ _ _) : (T4 Int Str Int Any)), stA p2 (r19.2 : T3 Int Script Int), lstA p14 ([5, 10 ^ (6 : Int).toNat] : (List Int)), imA p11 (r10.1 : Any), lstA p7 (y8 : (List Str)), lstA p4 (r3.1 : (List Str)), imA (.ref ad_v_law_script) v_law_script, F] : List (Asn G)))), R.wp_mono (R.wp_bind hm) (fun r35 hm H hS => ?_) (fun _ z => z)⟩
        have hS : Sep H ([imA (.ref p20) ((⟨y18, x5, 1 + (r19.1 % 2000), r10.1⟩ : T4 _ _ _ _) : (T4 Int Str Int Any)), stA p2 (r19.2 : T3 Int Script Int), lstA p14 ([5, 10 ^ (6 : Int).toNat] : (List Int)), imA p11 (r10.1 : Any), lstA p7 (y8 : (List Str)), lstA p4 (r3.1 : (List Str)), imA (.ref ad_v_law_script) v_law_script, F] : List (Asn G)) := Sep.star (M := []) hS
        refine ev_to ev_c ?_
        refine ev_op2 (ev_isnB ev_c ev_c) ?_
        refine f_bl ?_
        exact nx _ _ hm (hS.sel [0, 1, 2, 3, 4, 5, 6, 7] (by decide) rfl)
      ·
        exact nx _ _ hm (hS.sel [0, 1, 2, 3, 4, 5, 6, 7] (by decide) rfl)
    ·
      obtain ⟨hy, hn⟩ := R.wp_if hm
      refine ifK_2 (fun hb36 => ?_) (fun hb36 => ?_)
      · have hm := hy hb36
        refine c_ret ?_
        refine ev_to ev_c ?_
        exact hm _ (hS.sel [7] (by decide) rfl)
      · have hm := hn (by rw [hb36]; decide)
        refine st_nx ?_
        refine sq_nx ?_
        refine f_seq ?_
        refine f_if ?_
        refine f_or ?_
        refine f_test ?_
        refine c_op ?_
        refine c_call ?_
        refine c_cons ?_
        refine c_tup ?_
        refine ea_to ea_nil ?_
        refine k_tupA (vs := []) (xs := []) hS True.intro (by show 0 ≤ sizeLine; decide) fun p37 H hS => ?_
        refine c_nil ?_
        refine ⟨(.ref p37), ((Any.tup []) : Any), star [imA (.ref p37) ((Any.tup []) : Any), imA (.ref p20) ((⟨y18, x5, 1 + (r19.1 % 2000), r10.1⟩ : T4 _ _ _ _) : (T4 Int Str Int Any)), stA p2 (r19.2 : T3 Int Script Int), lstA p14 ([5, 10 ^ (6 : Int).toNat] : (List Int)), imA p11 (r10.1 : Any), lstA p7 (y8 : (List Str)), lstA p4 (r3.1 : (List Str)), imA (.ref ad_v_law_script) v_law_script, F], rfl, (hS.im (i := 0) rfl), Sep.unstar (M := []) (hS.sel [0, 1, 2, 3, 4, 5, 6, 7, 8] (by decide) rfl : Sep H (([] ++ [imA (.ref p37) ((Any.tup []) : Any), imA (.ref p20) ((⟨y18, x5, 1 + (r19.1 % 2000), r10.1⟩ : T4 _ _ _ _) : (T4 Int Str Int Any)), stA p2 (r19.2 : T3 Int Script Int), lstA p14 ([5, 10 ^ (6 : Int).toNat] : (List Int)), imA p11 (r10.1 : Any), lstA p7 (y8 : (List Str)), lstA p4 (r3.1 : (List Str)), imA (.ref ad_v_law_script) v_law_script, F] : List (Asn G)))), R.wp_mono (R.wp_bind hm) (fun r39 hm H hS => ?_) (fun _ z => z)⟩
        have hS : Sep H ([imA (.ref p37) ((Any.tup []) : Any), imA (.ref p20) ((⟨y18, x5, 1 + (r19.1 % 2000), r10.1⟩ : T4 _ _ _ _) : (T4 Int Str Int Any)), stA p2 (r19.2 : T3 Int Script Int), lstA p14 ([5, 10 ^ (6 : Int).toNat] : (List Int)), imA p11 (r10.1 : Any), lstA p7 (y8 : (List Str)), lstA p4 (r3.1 : (List Str)), imA (.ref ad_v_law_script) v_law_script, F] : List (Asn G)) := Sep.star (M := []) hS
        refine ev_to ev_c ?_
        refine ev_op2 (ev_isnB ev_c ev_c) ?_
        refine f_bl ?_
        refine orK_J hm hS (fun hb q hm nx => ?_) (fun b40 H hm hS => ?_)
        ·
          refine f_or ?_
          refine f_test ?_
          refine c_op ?_
          refine c_call ?_
          refine c_cons ?_
          refine c_tup ?_
          refine ea_to ea_nil ?_
          refine k_tupA (vs := []) (xs := []) hS True.intro (by show 0 ≤ sizeLine; decide) fun p41 H hS => ?_
          refine c_nil ?_
          refine ⟨(.ref p41), ((Any.tup []) : Any), star [imA (.ref p41) ((Any.tup []) : Any), imA (.ref p37) ((Any.tup []) : Any), imA (.ref p20) ((⟨y18, x5, 1 + (r19.1 % 2000), r10.1⟩ : T4 _ _ _ _) : (T4 Int Str Int Any)), stA p2 (r19.2 : T3 Int Script Int), lstA p14 ([5, 10 ^ (6 : Int).toNat] : (List Int)), imA p11 (r10.1 : Any), lstA p7 (y8 : (List Str)), lstA p4 (r3.1 : (List Str)), imA (.ref ad_v_law_script) v_law_script, F], rfl, (hS.im (i := 0) rfl), Sep.unstar (M := []) (hS.sel [0, 1, 2, 3, 4, 5, 6, 7, 8, 9] (by decide) rfl : Sep H (([] ++ [imA (.ref p41) ((Any.tup []) : Any), imA (.ref p37) ((Any.tup []) : Any), imA (.ref p20) ((⟨y18, x5, 1 + (r19.1 % 2000), r10.1⟩ : T4 _ _ _ _) : (T4 Int Str Int Any)), stA p2 (r19.2 : T3 Int Script Int), lstA p14 ([5, 10 ^ (6 : Int).toNat] : (List Int)), imA p11 (r10.1 : Any), lstA p7 (y8 : (List Str)), lstA p4 (r3.1 : (List Str)), imA (.ref ad_v_law_script) v_law_script, F] : List (Asn G)))), R.wp_mono (R.wp_bind hm) (fun r43 hm H hS => ?_) (fun _ z => z)⟩
          have hS : Sep H ([imA (.ref p41) ((Any.tup []) : Any), imA (.ref p37) ((Any.tup []) : Any), imA (.ref p20) ((⟨y18, x5, 1 + (r19.1 % 2000), r10.1⟩ : T4 _ _ _ _) : (T4 Int Str Int Any)), stA p2 (r19.2 : T3 Int Script Int), lstA p14 ([5, 10 ^ (6 : Int).toNat] : (List Int)), imA p11 (r10.1 : Any), lstA p7 (y8 : (List Str)), lstA p4 (r3.1 : (List Str)), imA (.ref ad_v_law_script) v_law_script, F] : List (Asn G)) := Sep.star (M := []) hS
          refine ev_to ev_c ?_
          refine ev_op2 (ev_isnB ev_c ev_c) ?_
          refine f_bl ?_
          refine orK_J hm hS (fun hb q hm nx => ?_) (fun b44 H hm hS => ?_)
          ·
            refine f_test ?_
            refine c_op ?_
            refine c_call ?_
            refine c_cons ?_
            refine c_fz ?_
            refine c_lst ?_
            refine ea_to (ea_cons (ev_var rfl) ea_nil) ?_
            refine k_lst (α := Str) (vs := [(.str (x5))]) (xs := [x5]) hS ⟨rfl, True.intro⟩ (by show 1 ≤ sizeLine; decide) fun p45 H hS => ?_
            refine fz_yes (xs := ([x5] : (List Str))) hS (i := 0) rfl fun H hS => ?_
            have hS : Sep H ([imA (.ref p45) ([x5] : (List Str)), imA (.ref p41) ((Any.tup []) : Any), imA (.ref p37) ((Any.tup []) : Any), imA (.ref p20) ((⟨y18, x5, 1 + (r19.1 % 2000), r10.1⟩ : T4 _ _ _ _) : (T4 Int Str Int Any)), stA p2 (r19.2 : T3 Int Script Int), lstA p14 ([5, 10 ^ (6 : Int).toNat] : (List Int)), imA p11 (r10.1 : Any), lstA p7 (y8 : (List Str)), lstA p4 (r3.1 : (List Str)), imA (.ref ad_v_law_script) v_law_script, F] : List (Asn G)) := hS
            refine c_nil ?_
            refine ⟨(.ref p45), ((Any.lst (([x5]).map Any.str)) : Any), star [imA (.ref p45) ([x5] : (List Str)), imA (.ref p41) ((Any.tup []) : Any), imA (.ref p37) ((Any.tup []) : Any), imA (.ref p20) ((⟨y18, x5, 1 + (r19.1 % 2000), r10.1⟩ : T4 _ _ _ _) : (T4 Int Str Int Any)), stA p2 (r19.2 : T3 Int Script Int), lstA p14 ([5, 10 ^ (6 : Int).toNat] : (List Int)), imA p11 (r10.1 : Any), lstA p7 (y8 : (List Str)), lstA p4 (r3.1 : (List Str)), imA (.ref ad_v_law_script) v_law_script, F], rfl, (any_lstS (hS.im (i := 0) rfl)), Sep.unstar (M := []) (hS.sel [0, 1, 2, 3, 4, 5, 6, 7, 8, 9, 10] (by decide) rfl : Sep H (([] ++ [imA (.ref p45) ([x5] : (List Str)), imA (.ref p41) ((Any.tup []) : Any), imA (.ref p37) ((Any.tup []) : Any), imA (.ref p20) ((⟨y18, x5, 1 + (r19.1 % 2000), r10.1⟩ : T4 _ _ _ _) : (T4 Int Str Int Any)), stA p2 (r19.2 : T3 Int Script Int), lstA p14 ([5, 10 ^ (6 : Int).toNat] : (List Int)), imA p11 (r10.1 : Any), lstA p7 (y8 : (List Str)), lstA p4 (r3.1 : (List Str)), imA (.ref ad_v_law_script) v_law_script, F] : List (Asn G)))), R.wp_mono (R.wp_bind hm) (fun r47 hm H hS => ?_) (fun _ z => z)⟩
            have hS : Sep H ([imA (.ref p45) ([x5] : (List Str)), imA (.ref p41) ((Any.tup []) : Any), imA (.ref p37) ((Any.tup []) : Any), imA (.ref p20) ((⟨y18, x5, 1 + (r19.1 % 2000), r10.1⟩ : T4 _ _ _ _) : (T4 Int Str Int Any)), stA p2 (r19.2 : T3 Int Script Int), lstA p14 ([5, 10 ^ (6 : Int).toNat] : (List Int)), imA p11 (r10.1 : Any), lstA p7 (y8 : (List Str)), lstA p4 (r3.1 : (List Str)), imA (.ref ad_v_law_script) v_law_script, F] : List (Asn G)) := Sep.star (M := []) hS
            refine ev_to ev_c ?_
            refine ev_op2 (ev_isnB ev_c ev_c) ?_
            refine f_bl ?_
            exact nx _ _ hm (hS.sel [1, 2, 3, 4, 5, 6, 7, 8, 9, 10] (by decide) rfl)
          ·
            exact nx _ _ hm (hS.sel [1, 2, 3, 4, 5, 6, 7, 8, 9] (by decide) rfl)
        ·
          obtain ⟨hy, hn⟩ := R.wp_if hm
          refine ifK_2 (fun hb48 => ?_) (fun hb48 => ?_)
          · have hm := hy hb48
            refine c_ret ?_
            refine ev_to ev_c ?_
            exact hm _ (hS.sel [8] (by decide) rfl)
          · have hm := hn (by rw [hb48]; decide)
            refine st_nx ?_
            refine sq_nx ?_
            refine f_seq ?_
            refine f_if ?_
            refine f_or ?_
            refine f_test ?_
            refine c_op ?_
            refine c_call ?_
            refine ea_to (ea_cons (ev_var rfl) ea_nil) ?_
            refine ⟨p20, ((⟨y18, x5, 1 + (r19.1 % 2000), r10.1⟩ : T4 _ _ _ _) : (T4 Int Str Int Any)), star [imA (.ref p37) ((Any.tup []) : Any), imA (.ref p20) ((⟨y18, x5, 1 + (r19.1 % 2000), r10.1⟩ : T4 _ _ _ _) : (T4 Int Str Int Any)), stA p2 (r19.2 : T3 Int Script Int), lstA p14 ([5, 10 ^ (6 : Int).toNat] : (List Int)), imA p11 (r10.1 : Any), lstA p7 (y8 : (List Str)), lstA p4 (r3.1 : (List Str)), imA (.ref ad_v_law_script) v_law_script, F], rfl, (hS.im (i := 1) rfl), Sep.unstar (M := []) (hS.sel [0, 1, 2, 3, 4, 5, 6, 7, 8] (by decide) rfl : Sep H (([] ++ [imA (.ref p37) ((Any.tup []) : Any), imA (.ref p20) ((⟨y18, x5, 1 + (r19.1 % 2000), r10.1⟩ : T4 _ _ _ _) : (T4 Int Str Int Any)), stA p2 (r19.2 : T3 Int Script Int), lstA p14 ([5, 10 ^ (6 : Int).toNat] : (List Int)), imA p11 (r10.1 : Any), lstA p7 (y8 : (List Str)), lstA p4 (r3.1 : (List Str)), imA (.ref ad_v_law_script) v_law_script, F] : List (Asn G)))), R.wp_mono (R.wp_bind hm) (fun r49 hm p50 H hS => ?_) (fun _ z => z)⟩
            have hS : Sep H ([imA (.ref p50) (r49 : (Int × Str)), imA (.ref p37) ((Any.tup []) : Any), imA (.ref p20) ((⟨y18, x5, 1 + (r19.1 % 2000), r10.1⟩ : T4 _ _ _ _) : (T4 Int Str Int Any)), stA p2 (r19.2 : T3 Int Script Int), lstA p14 ([5, 10 ^ (6 : Int).toNat] : (List Int)), imA p11 (r10.1 : Any), lstA p7 (y8 : (List Str)), lstA p4 (r3.1 : (List Str)), imA (.ref ad_v_law_script) v_law_script, F] : List (Asn G)) := Sep.star (M := [imA (.ref p50) (r49 : (Int × Str))]) hS
            refine c_tup ?_
            refine ea_to (ea_cons (ev_var rfl) (ea_cons (ev_var rfl) ea_nil)) ?_
            refine k_tupP (x := ((y18, x5) : (Int × Str))) hS (fun H' p h s => mk2 rfl rfl h s) (by show 2 ≤ sizeLine; decide) fun p52 H hS => ?_
            obtain ⟨h54, hm⟩ := R.wp_need hm
            obtain ⟨h55, hm⟩ := R.wp_need hm
            refine ev_op2 (ev_neP (G := G) (x := (r49 : (Int × Str))) (y := (y18, x5)) ev_c ev_c (Pd.dp (hS.im (i := 1) rfl)) (Pd.dp (hS.im (i := 0) rfl)) h54 h55 (Nat.le_of_ble_eq_true rfl)) ?_
            refine f_bl ?_
            refine orK_J hm hS (fun hb q hm nx => ?_) (fun b56 H hm hS => ?_)
            ·
              refine f_or ?_
              refine f_test ?_
              refine c_op ?_
              refine c_call ?_
              refine c_cons ?_
              refine c_fz ?_
              refine c_cb ?_
              refine ea_to (ea_cons (ev_var rfl) ea_nil) ?_
              obtain ⟨xs58, h59, hm⟩ := Ml.wp_asTup hm
              refine k_listA (xs := xs58) hS (tupE (hS.im (i := 6) rfl) h59) fun p57 H hS => ?_
              refine fz_no ?_
              refine c_nil ?_
              refine ⟨(.ref p57), ((Any.oth 0) : Any), star [lstA p57 (xs58 : (List Any)), imA (.ref p52) ((y18, x5) : (Int × Str)), imA (.ref p50) (r49 : (Int × Str)), imA (.ref p37) ((Any.tup []) : Any), imA (.ref p20) ((⟨y18, x5, 1 + (r19.1 % 2000), r10.1⟩ : T4 _ _ _ _) : (T4 Int Str Int Any)), stA p2 (r19.2 : T3 Int Script Int), lstA p14 ([5, 10 ^ (6 : Int).toNat] : (List Int)), imA p11 (r10.1 : Any), lstA p7 (y8 : (List Str)), lstA p4 (r3.1 : (List Str)), imA (.ref ad_v_law_script) v_law_script, F], rfl, (any_lst hS (i := 0) rfl), Sep.unstar (M := []) (hS.sel [0, 1, 2, 3, 4, 5, 6, 7, 8, 9, 10, 11] (by decide) rfl : Sep H (([] ++ [lstA p57 (xs58 : (List Any)), imA (.ref p52) ((y18, x5) : (Int × Str)), imA (.ref p50) (r49 : (Int × Str)), imA (.ref p37) ((Any.tup []) : Any), imA (.ref p20) ((⟨y18, x5, 1 + (r19.1 % 2000), r10.1⟩ : T4 _ _ _ _) : (T4 Int Str Int Any)), stA p2 (r19.2 : T3 Int Script Int), lstA p14 ([5, 10 ^ (6 : Int).toNat] : (List Int)), imA p11 (r10.1 : Any), lstA p7 (y8 : (List Str)), lstA p4 (r3.1 : (List Str)), imA (.ref ad_v_law_script) v_law_script, F] : List (Asn G)))), R.wp_mono (R.wp_bind hm) (fun r60 hm H hS => ?_) (fun _ z => z)⟩
              have hS : Sep H ([lstA p57 (xs58 : (List Any)), imA (.ref p52) ((y18, x5) : (Int × Str)), imA (.ref p50) (r49 : (Int × Str)), imA (.ref p37) ((Any.tup []) : Any), imA (.ref p20) ((⟨y18, x5, 1 + (r19.1 % 2000), r10.1⟩ : T4 _ _ _ _) : (T4 Int Str Int Any)), stA p2 (r19.2 : T3 Int Script Int), lstA p14 ([5, 10 ^ (6 : Int).toNat] : (List Int)), imA p11 (r10.1 : Any), lstA p7 (y8 : (List Str)), lstA p4 (r3.1 : (List Str)), imA (.ref ad_v_law_script) v_law_script, F] : List (Asn G)) := Sep.star (M := []) hS
              refine ev_to ev_c ?_
              refine ev_op2 (ev_isnB ev_c ev_c) ?_
              refine f_bl ?_
              refine orK_J hm hS (fun hb q hm nx => ?_) (fun b61 H hm hS => ?_)
              ·
                refine f_test ?_
                refine c_op ?_
                refine c_call ?_
                refine c_cons ?_
                refine c_op ?_
                refine ev_to (ev_var rfl) ?_
                refine c_tup ?_
                refine ea_to (ea_cons ev_c ea_nil) ?_
                refine k_tupP (x := ((⟨("a" : Str)⟩ : T1 _) : (T1 Str))) hS (fun H' p h s => mk1 rfl h s) (by show 1 ≤ sizeLine; decide) fun p62 H hS => ?_
                obtain ⟨xs64, h65, hm⟩ := Ml.wp_asTup hm
                obtain ⟨u66, hT68, h67⟩ := im1 (hS.im (i := 0) rfl)
                obtain rfl : u66 = (.str ((⟨("a" : Str)⟩ : T1 _).a)) := h67
                obtain ⟨h69, hm⟩ := R.wp_need hm
                refine k_catA (xs := xs64) (ys := [(Any.str ((⟨("a" : Str)⟩ : T1 _).a))]) hS (tupE (hS.im (i := 8) rfl) h65) ((any_tup (xs := [(Any.str ((⟨("a" : Str)⟩ : T1 _).a))])).mpr ⟨_, _, rfl, hT68, ⟨(any_str.mpr rfl), True.intro⟩⟩) h69 fun p70 H hS => ?_
                refine c_nil ?_
                refine ⟨p70, ((Any.tup (xs64 ++ [(Any.str ((⟨("a" : Str)⟩ : T1 _).a))])) : Any), star [imA p70 ((Any.tup (xs64 ++ [(Any.str ((⟨("a" : Str)⟩ : T1 _).a))])) : Any), imA (.ref p62) ((⟨("a" : Str)⟩ : T1 _) : (T1 Str)), lstA p57 (xs58 : (List Any)), imA (.ref p52) ((y18, x5) : (Int × Str)), imA (.ref p50) (r49 : (Int × Str)), imA (.ref p37) ((Any.tup []) : Any), imA (.ref p20) ((⟨y18, x5, 1 + (r19.1 % 2000), r10.1⟩ : T4 _ _ _ _) : (T4 Int Str Int Any)), stA p2 (r19.2 : T3 Int Script Int), lstA p14 ([5, 10 ^ (6 : Int).toNat] : (List Int)), imA p11 (r10.1 : Any), lstA p7 (y8 : (List Str)), lstA p4 (r3.1 : (List Str)), imA (.ref ad_v_law_script) v_law_script, F], rfl, (hS.im (i := 0) rfl), Sep.unstar (M := []) (hS.sel [0, 1, 2, 3, 4, 5, 6, 7, 8, 9, 10, 11, 12, 13] (by decide) rfl : Sep H (([] ++ [imA p70 ((Any.tup (xs64 ++ [(Any.str ((⟨("a" : Str)⟩ : T1 _).a))])) : Any), imA (.ref p62) ((⟨("a" : Str)⟩ : T1 _) : (T1 Str)), lstA p57 (xs58 : (List Any)), imA (.ref p52) ((y18, x5) : (Int × Str)), imA (.ref p50) (r49 : (Int × Str)), imA (.ref p37) ((Any.tup []) : Any), imA (.ref p20) ((⟨y18, x5, 1 + (r19.1 % 2000), r10.1⟩ : T4 _ _ _ _) : (T4 Int Str Int Any)), stA p2 (r19.2 : T3 Int Script Int), lstA p14 ([5, 10 ^ (6 : Int).toNat] : (List Int)), imA p11 (r10.1 : Any), lstA p7 (y8 : (List Str)), lstA p4 (r3.1 : (List Str)), imA (.ref ad_v_law_script) v_law_script, F] : List (Asn G)))), R.wp_mono (R.wp_bind hm) (fun r72 hm H hS => ?_) (fun _ z => z)⟩
                have hS : Sep H ([imA p70 ((Any.tup (xs64 ++ [(Any.str ((⟨("a" : Str)⟩ : T1 _).a))])) : Any), imA (.ref p62) ((⟨("a" : Str)⟩ : T1 _) : (T1 Str)), lstA p57 (xs58 : (List Any)), imA (.ref p52) ((y18, x5) : (Int × Str)), imA (.ref p50) (r49 : (Int × Str)), imA (.ref p37) ((Any.tup []) : Any), imA (.ref p20) ((⟨y18, x5, 1 + (r19.1 % 2000), r10.1⟩ : T4 _ _ _ _) : (T4 Int Str Int Any)), stA p2 (r19.2 : T3 Int Script Int), lstA p14 ([5, 10 ^ (6 : Int).toNat] : (List Int)), imA p11 (r10.1 : Any), lstA p7 (y8 : (List Str)), lstA p4 (r3.1 : (List Str)), imA (.ref ad_v_law_script) v_law_script, F] : List (Asn G)) := Sep.star (M := []) hS
                refine ev_to ev_c ?_
                refine ev_op2 (ev_isnB ev_c ev_c) ?_
                refine f_bl ?_
                exact nx _ _ hm (hS.sel [2, 3, 4, 5, 6, 7, 8, 9, 10, 11, 12, 13] (by decide) rfl)
              ·
                exact nx _ _ hm (hS.sel [1, 2, 3, 4, 5, 6, 7, 8, 9, 10, 11] (by decide) rfl)
            ·
              obtain ⟨hy, hn⟩ := R.wp_if hm
              refine ifK_2 (fun hb73 => ?_) (fun hb73 => ?_)
              · have hm := hy hb73
                refine c_ret ?_
                refine ev_to ev_c ?_
                exact hm _ (hS.sel [10] (by decide) rfl)
              · have hm := hn (by rw [hb73]; decide)
                refine st_nx ?_
                refine sq_nx ?_
                refine f_seq ?_
                refine f_if ?_
                refine f_or ?_
                refine f_test ?_
                refine c_op ?_
                refine c_call ?_
                refine c_cons ?_
                refine c_sl ?_
                refine ev_to (ev_var rfl) ?_
                obtain ⟨xs74, h75, hm⟩ := Ml.wp_asTup hm
                obtain ⟨h76, hm⟩ := R.wp_need hm
                refine eo_to eo_no ?_
                refine eo_to (eo_some (ev_un ev_c fun _ q => ⟨_, rfl, q⟩)) ?_
                refine k_slA (xs := xs74) hS (tupE (hS.im (i := 6) rfl) h75) h76 fun p77 H hS => ?_
                refine c_nil ?_
                refine ⟨p77, ((Any.tup (cutL xs74 none (some (-1)))) : Any), star [imA p77 ((Any.tup (cutL xs74 none (some (-1)))) : Any), imA (.ref p52) ((y18, x5) : (Int × Str)), imA (.ref p50) (r49 : (Int × Str)), imA (.ref p37) ((Any.tup []) : Any), imA (.ref p20) ((⟨y18, x5, 1 + (r19.1 % 2000), r10.1⟩ : T4 _ _ _ _) : (T4 Int Str Int Any)), stA p2 (r19.2 : T3 Int Script Int), lstA p14 ([5, 10 ^ (6 : Int).toNat] : (List Int)), imA p11 (r10.1 : Any), lstA p7 (y8 : (List Str)), lstA p4 (r3.1 : (List Str)), imA (.ref ad_v_law_script) v_law_script, F], rfl, (hS.im (i := 0) rfl), Sep.unstar (M := []) (hS.sel [0, 1, 2, 3, 4, 5, 6, 7, 8, 9, 10, 11] (by decide) rfl : Sep H (([] ++ [imA p77 ((Any.tup (cutL xs74 none (some (-1)))) : Any), imA (.ref p52) ((y18, x5) : (Int × Str)), imA (.ref p50) (r49 : (Int × Str)), imA (.ref p37) ((Any.tup []) : Any), imA (.ref p20) ((⟨y18, x5, 1 + (r19.1 % 2000), r10.1⟩ : T4 _ _ _ _) : (T4 Int Str Int Any)), stA p2 (r19.2 : T3 Int Script Int), lstA p14 ([5, 10 ^ (6 : Int).toNat] : (List Int)), imA p11 (r10.1 : Any), lstA p7 (y8 : (List Str)), lstA p4 (r3.1 : (List Str)), imA (.ref ad_v_law_script) v_law_script, F] : List (Asn G)))), R.wp_mono (R.wp_bind hm) (fun r79 hm H hS => ?_) (fun _ z => z)⟩
                have hS : Sep H ([imA p77 ((Any.tup (cutL xs74 none (some (-1)))) : Any), imA (.ref p52) ((y18, x5) : (Int × Str)), imA (.ref p50) (r49 : (Int × Str)), imA (.ref p37) ((Any.tup []) : Any), imA (.ref p20) ((⟨y18, x5, 1 + (r19.1 % 2000), r10.1⟩ : T4 _ _ _ _) : (T4 Int Str Int Any)), stA p2 (r19.2 : T3 Int Script Int), lstA p14 ([5, 10 ^ (6 : Int).toNat] : (List Int)), imA p11 (r10.1 : Any), lstA p7 (y8 : (List Str)), lstA p4 (r3.1 : (List Str)), imA (.ref ad_v_law_script) v_law_script, F] : List (Asn G)) := Sep.star (M := []) hS
                refine ev_to ev_c ?_
                refine ev_op2 (ev_isnB ev_c ev_c) ?_
                refine f_bl ?_
                refine orK_J hm hS (fun hb q hm nx => ?_) (fun b80 H hm hS => ?_)
                ·
                  refine f_or ?_
                  refine f_test ?_
                  refine c_op ?_
                  refine c_call ?_
                  refine c_cons ?_
                  refine c_fz ?_
                  refine c_cb ?_
                  refine ea_to (ea_cons (ev_var rfl) ea_nil) ?_
                  obtain ⟨u82, u83, u84, u85, hT90, h86, h87, h88, h89⟩ := im4 (hS.im (i := 4) rfl)
                  obtain rfl : u82 = (.int ((⟨y18, x5, 1 + (r19.1 % 2000), r10.1⟩ : T4 _ _ _ _).a)) := h86
                  obtain rfl : u83 = (.str ((⟨y18, x5, 1 + (r19.1 % 2000), r10.1⟩ : T4 _ _ _ _).b)) := h87
                  obtain rfl : u84 = (.int ((⟨y18, x5, 1 + (r19.1 % 2000), r10.1⟩ : T4 _ _ _ _).c)) := h88
                  refine k_listA (xs := [(Any.int ((⟨y18, x5, 1 + (r19.1 % 2000), r10.1⟩ : T4 _ _ _ _).a)), (Any.str ((⟨y18, x5, 1 + (r19.1 % 2000), r10.1⟩ : T4 _ _ _ _).b)), (Any.int ((⟨y18, x5, 1 + (r19.1 % 2000), r10.1⟩ : T4 _ _ _ _).c)), (⟨y18, x5, 1 + (r19.1 % 2000), r10.1⟩ : T4 _ _ _ _).d]) hS ((any_tup (xs := [(Any.int ((⟨y18, x5, 1 + (r19.1 % 2000), r10.1⟩ : T4 _ _ _ _).a)), (Any.str ((⟨y18, x5, 1 + (r19.1 % 2000), r10.1⟩ : T4 _ _ _ _).b)), (Any.int ((⟨y18, x5, 1 + (r19.1 % 2000), r10.1⟩ : T4 _ _ _ _).c)), (⟨y18, x5, 1 + (r19.1 % 2000), r10.1⟩ : T4 _ _ _ _).d])).mpr ⟨_, _, rfl, hT90, ⟨(any_int.mpr rfl), ⟨(any_str.mpr rfl), ⟨(any_int.mpr rfl), ⟨h89, True.intro⟩⟩⟩⟩⟩) fun p81 H hS => ?_
                  refine fz_no ?_
                  refine c_nil ?_
                  refine ⟨(.ref p81), ((Any.oth 0) : Any), star [lstA p81 ([(Any.int ((⟨y18, x5, 1 + (r19.1 % 2000), r10.1⟩ : T4 _ _ _ _).a)), (Any.str ((⟨y18, x5, 1 + (r19.1 % 2000), r10.1⟩ : T4 _ _ _ _).b)), (Any.int ((⟨y18, x5, 1 + (r19.1 % 2000), r10.1⟩ : T4 _ _ _ _).c)), (⟨y18, x5, 1 + (r19.1 % 2000), r10.1⟩ : T4 _ _ _ _).d] : (List Any)), imA p77 ((Any.tup (cutL xs74 none (some (-1)))) : Any), imA (.ref p52) ((y18, x5) : (Int × Str)), imA (.ref p50) (r49 : (Int × Str)), imA (.ref p37) ((Any.tup []) : Any), imA (.ref p20) ((⟨y18, x5, 1 + (r19.1 % 2000), r10.1⟩ : T4 _ _ _ _) : (T4 Int Str Int Any)), stA p2 (r19.2 : T3 Int Script Int), lstA p14 ([5, 10 ^ (6 : Int).toNat] : (List Int)), imA p11 (r10.1 : Any), lstA p7 (y8 : (List Str)), lstA p4 (r3.1 : (List Str)), imA (.ref ad_v_law_script) v_law_script, F], rfl, (any_lst hS (i := 0) rfl), Sep.unstar (M := []) (hS.sel [0, 1, 2, 3, 4, 5, 6, 7, 8, 9, 10, 11, 12] (by decide) rfl : Sep H (([] ++ [lstA p81 ([(Any.int ((⟨y18, x5, 1 + (r19.1 % 2000), r10.1⟩ : T4 _ _ _ _).a)), (Any.str ((⟨y18, x5, 1 + (r19.1 % 2000), r10.1⟩ : T4 _ _ _ _).b)), (Any.int ((⟨y18, x5, 1 + (r19.1 % 2000), r10.1⟩ : T4 _ _ _ _).c)), (⟨y18, x5, 1 + (r19.1 % 2000), r10.1⟩ : T4 _ _ _ _).d] : (List Any)), imA p77 ((Any.tup (cutL xs74 none (some (-1)))) : Any), imA (.ref p52) ((y18, x5) : (Int × Str)), imA (.ref p50) (r49 : (Int × Str)), imA (.ref p37) ((Any.tup []) : Any), imA (.ref p20) ((⟨y18, x5, 1 + (r19.1 % 2000), r10.1⟩ : T4 _ _ _ _) : (T4 Int Str Int Any)), stA p2 (r19.2 : T3 Int Script Int), lstA p14 ([5, 10 ^ (6 : Int).toNat] : (List Int)), imA p11 (r10.1 : Any), lstA p7 (y8 : (List Str)), lstA p4 (r3.1 : (List Str)), imA (.ref ad_v_law_script) v_law_script, F] : List (Asn G)))), R.wp_mono (R.wp_bind hm) (fun r91 hm H hS => ?_) (fun _ z => z)⟩
                  have hS : Sep H ([lstA p81 ([(Any.int ((⟨y18, x5, 1 + (r19.1 % 2000), r10.1⟩ : T4 _ _ _ _).a)), (Any.str ((⟨y18, x5, 1 + (r19.1 % 2000), r10.1⟩ : T4 _ _ _ _).b)), (Any.int ((⟨y18, x5, 1 + (r19.1 % 2000), r10.1⟩ : T4 _ _ _ _).c)), (⟨y18, x5, 1 + (r19.1 % 2000), r10.1⟩ : T4 _ _ _ _).d] : (List Any)), imA p77 ((Any.tup (cutL xs74 none (some (-1)))) : Any), imA (.ref p52) ((y18, x5) : (Int × Str)), imA (.ref p50) (r49 : (Int × Str)), imA (.ref p37) ((Any.tup []) : Any), imA (.ref p20) ((⟨y18, x5, 1 + (r19.1 % 2000), r10.1⟩ : T4 _ _ _ _) : (T4 Int Str Int Any)), stA p2 (r19.2 : T3 Int Script Int), lstA p14 ([5, 10 ^ (6 : Int).toNat] : (List Int)), imA p11 (r10.1 : Any), lstA p7 (y8 : (List Str)), lstA p4 (r3.1 : (List Str)), imA (.ref ad_v_law_script) v_law_script, F] : List (Asn G)) := Sep.star (M := []) hS
                  refine ev_to ev_c ?_
                  refine ev_op2 (ev_isnB ev_c ev_c) ?_
                  refine f_bl ?_
                  refine orK_J hm hS (fun hb q hm nx => ?_) (fun b92 H hm hS => ?_)
                  ·
                    refine f_test ?_
                    refine c_op ?_
                    refine c_call ?_
                    refine ea_to (ea_cons (ev_var rfl) ea_nil) ?_
                    refine ⟨p11, (r10.1 : Any), star [lstA p81 ([(Any.int ((⟨y18, x5, 1 + (r19.1 % 2000), r10.1⟩ : T4 _ _ _ _).a)), (Any.str ((⟨y18, x5, 1 + (r19.1 % 2000), r10.1⟩ : T4 _ _ _ _).b)), (Any.int ((⟨y18, x5, 1 + (r19.1 % 2000), r10.1⟩ : T4 _ _ _ _).c)), (⟨y18, x5, 1 + (r19.1 % 2000), r10.1⟩ : T4 _ _ _ _).d] : (List Any)), imA p77 ((Any.tup (cutL xs74 none (some (-1)))) : Any), imA (.ref p52) ((y18, x5) : (Int × Str)), imA (.ref p50) (r49 : (Int × Str)), imA (.ref p37) ((Any.tup []) : Any), imA (.ref p20) ((⟨y18, x5, 1 + (r19.1 % 2000), r10.1⟩ : T4 _ _ _ _) : (T4 Int Str Int Any)), stA p2 (r19.2 : T3 Int Script Int), lstA p14 ([5, 10 ^ (6 : Int).toNat] : (List Int)), imA p11 (r10.1 : Any), lstA p7 (y8 : (List Str)), lstA p4 (r3.1 : (List Str)), imA (.ref ad_v_law_script) v_law_script, F], rfl, (hS.im (i := 8) rfl), Sep.unstar (M := []) (hS.sel [0, 1, 2, 3, 4, 5, 6, 7, 8, 9, 10, 11, 12] (by decide) rfl : Sep H (([] ++ [lstA p81 ([(Any.int ((⟨y18, x5, 1 + (r19.1 % 2000), r10.1⟩ : T4 _ _ _ _).a)), (Any.str ((⟨y18, x5, 1 + (r19.1 % 2000), r10.1⟩ : T4 _ _ _ _).b)), (Any.int ((⟨y18, x5, 1 + (r19.1 % 2000), r10.1⟩ : T4 _ _ _ _).c)), (⟨y18, x5, 1 + (r19.1 % 2000), r10.1⟩ : T4 _ _ _ _).d] : (List Any)), imA p77 ((Any.tup (cutL xs74 none (some (-1)))) : Any), imA (.ref p52) ((y18, x5) : (Int × Str)), imA (.ref p50) (r49 : (Int × Str)), imA (.ref p37) ((Any.tup []) : Any), imA (.ref p20) ((⟨y18, x5, 1 + (r19.1 % 2000), r10.1⟩ : T4 _ _ _ _) : (T4 Int Str Int Any)), stA p2 (r19.2 : T3 Int Script Int), lstA p14 ([5, 10 ^ (6 : Int).toNat] : (List Int)), imA p11 (r10.1 : Any), lstA p7 (y8 : (List Str)), lstA p4 (r3.1 : (List Str)), imA (.ref ad_v_law_script) v_law_script, F] : List (Asn G)))), R.wp_mono (R.wp_bind hm) (fun r93 hm H hS => ?_) (fun _ z => z)⟩
                    have hS : Sep H ([lstA p81 ([(Any.int ((⟨y18, x5, 1 + (r19.1 % 2000), r10.1⟩ : T4 _ _ _ _).a)), (Any.str ((⟨y18, x5, 1 + (r19.1 % 2000), r10.1⟩ : T4 _ _ _ _).b)), (Any.int ((⟨y18, x5, 1 + (r19.1 % 2000), r10.1⟩ : T4 _ _ _ _).c)), (⟨y18, x5, 1 + (r19.1 % 2000), r10.1⟩ : T4 _ _ _ _).d] : (List Any)), imA p77 ((Any.tup (cutL xs74 none (some (-1)))) : Any), imA (.ref p52) ((y18, x5) : (Int × Str)), imA (.ref p50) (r49 : (Int × Str)), imA (.ref p37) ((Any.tup []) : Any), imA (.ref p20) ((⟨y18, x5, 1 + (r19.1 % 2000), r10.1⟩ : T4 _ _ _ _) : (T4 Int Str Int Any)), stA p2 (r19.2 : T3 Int Script Int), lstA p14 ([5, 10 ^ (6 : Int).toNat] : (List Int)), imA p11 (r10.1 : Any), lstA p7 (y8 : (List Str)), lstA p4 (r3.1 : (List Str)), imA (.ref ad_v_law_script) v_law_script, F] : List (Asn G)) := Sep.star (M := []) hS
                    refine ev_to ev_c ?_
                    refine ev_op2 (ev_isnB ev_c ev_c) ?_
                    refine f_bl ?_
                    exact nx _ _ hm (hS.sel [0, 1, 2, 3, 4, 5, 6, 7, 8, 9, 10, 11, 12] (by decide) rfl)
                  ·
                    exact nx _ _ hm (hS.sel [1, 2, 3, 4, 5, 6, 7, 8, 9, 10, 11, 12] (by decide) rfl)
                ·
                  obtain ⟨hy, hn⟩ := R.wp_if hm
                  refine ifK_2 (fun hb94 => ?_) (fun hb94 => ?_)
                  · have hm := hy hb94
                    refine c_ret ?_
                    refine ev_to ev_c ?_
                    exact hm _ (hS.sel [11] (by decide) rfl)
                  · have hm := hn (by rw [hb94]; decide)
                    refine st_nx ?_
                    refine sq_nx ?_
                    refine f_seq ?_
                    refine c_asg ?_
                    refine c_call ?_
                    refine ea_to (ea_cons (ev_var rfl) (ea_cons (ev_var rfl) ea_nil)) ?_
                    refine ⟨p2, (r19.2 : (T3 Int Script Int)), p11, (r10.1 : Any), star [imA p77 ((Any.tup (cutL xs74 none (some (-1)))) : Any), imA (.ref p52) ((y18, x5) : (Int × Str)), imA (.ref p50) (r49 : (Int × Str)), imA (.ref p37) ((Any.tup []) : Any), imA (.ref p20) ((⟨y18, x5, 1 + (r19.1 % 2000), r10.1⟩ : T4 _ _ _ _) : (T4 Int Str Int Any)), lstA p14 ([5, 10 ^ (6 : Int).toNat] : (List Int)), imA p11 (r10.1 : Any), lstA p7 (y8 : (List Str)), lstA p4 (r3.1 : (List Str)), imA (.ref ad_v_law_script) v_law_script, F], rfl, (hS.im (i := 7) rfl), Sep.unstar (M := [stA p2 (r19.2 : T3 Int Script Int)]) (hS.sel [5, 0, 1, 2, 3, 4, 6, 7, 8, 9, 10, 11] (by decide) rfl : Sep H (([stA p2 (r19.2 : T3 Int Script Int)] ++ [imA p77 ((Any.tup (cutL xs74 none (some (-1)))) : Any), imA (.ref p52) ((y18, x5) : (Int × Str)), imA (.ref p50) (r49 : (Int × Str)), imA (.ref p37) ((Any.tup []) : Any), imA (.ref p20) ((⟨y18, x5, 1 + (r19.1 % 2000), r10.1⟩ : T4 _ _ _ _) : (T4 Int Str Int Any)), lstA p14 ([5, 10 ^ (6 : Int).toNat] : (List Int)), imA p11 (r10.1 : Any), lstA p7 (y8 : (List Str)), lstA p4 (r3.1 : (List Str)), imA (.ref ad_v_law_script) v_law_script, F] : List (Asn G)))), R.wp_mono (R.wp_bind hm) (fun r95 hm p96 H hS => ?_) (fun _ z => z)⟩
                    have hS : Sep H ([imA p96 (r95.1 : Any), stA p2 (r95.2 : T3 Int Script Int), imA p77 ((Any.tup (cutL xs74 none (some (-1)))) : Any), imA (.ref p52) ((y18, x5) : (Int × Str)), imA (.ref p50) (r49 : (Int × Str)), imA (.ref p37) ((Any.tup []) : Any), imA (.ref p20) ((⟨y18, x5, 1 + (r19.1 % 2000), r10.1⟩ : T4 _ _ _ _) : (T4 Int Str Int Any)), lstA p14 ([5, 10 ^ (6 : Int).toNat] : (List Int)), imA p11 (r10.1 : Any), lstA p7 (y8 : (List Str)), lstA p4 (r3.1 : (List Str)), imA (.ref ad_v_law_script) v_law_script, F] : List (Asn G)) := Sep.star (M := [imA p96 (r95.1 : Any), stA p2 (r95.2 : T3 Int Script Int)]) hS
                    refine c_set (σ' := [some (.ref ad_v_law_script), some (.ref p2), some (.str (x5)), some (.ref p7), some p11, some (.int (y18)), some (.ref p20), some p96]) rfl ?_
                    refine sq_nx ?_
                    refine f_seq ?_
                    refine f_if ?_
                    refine f_or ?_
                    refine f_test ?_
                    refine c_op ?_
                    refine c_call ?_
                    refine ea_to (ea_cons (ev_var rfl) ea_nil) ?_
                    refine ⟨p96, (r95.1 : Any), star [imA p96 (r95.1 : Any), stA p2 (r95.2 : T3 Int Script Int), imA p77 ((Any.tup (cutL xs74 none (some (-1)))) : Any), imA (.ref p52) ((y18, x5) : (Int × Str)), imA (.ref p50) (r49 : (Int × Str)), imA (.ref p37) ((Any.tup []) : Any), imA (.ref p20) ((⟨y18, x5, 1 + (r19.1 % 2000), r10.1⟩ : T4 _ _ _ _) : (T4 Int Str Int Any)), lstA p14 ([5, 10 ^ (6 : Int).toNat] : (List Int)), imA p11 (r10.1 : Any), lstA p7 (y8 : (List Str)), lstA p4 (r3.1 : (List Str)), imA (.ref ad_v_law_script) v_law_script, F], rfl, (hS.im (i := 0) rfl), Sep.unstar (M := []) (hS.sel [0, 1, 2, 3, 4, 5, 6, 7, 8, 9, 10, 11, 12] (by decide) rfl : Sep H (([] ++ [imA p96 (r95.1 : Any), stA p2 (r95.2 : T3 Int Script Int), imA p77 ((Any.tup (cutL xs74 none (some (-1)))) : Any), imA (.ref p52) ((y18, x5) : (Int × Str)), imA (.ref p50) (r49 : (Int × Str)), imA (.ref p37) ((Any.tup []) : Any), imA (.ref p20) ((⟨y18, x5, 1 + (r19.1 % 2000), r10.1⟩ : T4 _ _ _ _) : (T4 Int Str Int Any)), lstA p14 ([5, 10 ^ (6 : Int).toNat] : (List Int)), imA p11 (r10.1 : Any), lstA p7 (y8 : (List Str)), lstA p4 (r3.1 : (List Str)), imA (.ref ad_v_law_script) v_law_script, F] : List (Asn G)))), R.wp_mono (R.wp_bind hm) (fun r98 hm H hS => ?_) (fun _ z => z)⟩
                    have hS : Sep H ([imA p96 (r95.1 : Any), stA p2 (r95.2 : T3 Int Script Int), imA p77 ((Any.tup (cutL xs74 none (some (-1)))) : Any), imA (.ref p52) ((y18, x5) : (Int × Str)), imA (.ref p50) (r49 : (Int × Str)), imA (.ref p37) ((Any.tup []) : Any), imA (.ref p20) ((⟨y18, x5, 1 + (r19.1 % 2000), r10.1⟩ : T4 _ _ _ _) : (T4 Int Str Int Any)), lstA p14 ([5, 10 ^ (6 : Int).toNat] : (List Int)), imA p11 (r10.1 : Any), lstA p7 (y8 : (List Str)), lstA p4 (r3.1 : (List Str)), imA (.ref ad_v_law_script) v_law_script, F] : List (Asn G)) := Sep.star (M := []) hS
                    refine ev_to ev_c ?_
                    refine ev_op2 (ev_isnB ev_c ev_c) ?_
                    refine f_bl ?_
                    refine orK_J hm hS (fun hb q hm nx => ?_) (fun b99 H hm hS => ?_)
                    ·
                      refine f_test ?_
                      refine c_op ?_
                      refine c_call ?_
                      refine c_cons ?_
                      refine c_op ?_
                      refine c_sl ?_
                      refine ev_to (ev_var rfl) ?_
                      obtain ⟨u100, u101, u102, u103, hT108, h104, h105, h106, h107⟩ := im4 (hS.im (i := 6) rfl)
                      obtain rfl : u100 = (.int ((⟨y18, x5, 1 + (r19.1 % 2000), r10.1⟩ : T4 _ _ _ _).a)) := h104
                      obtain rfl : u101 = (.str ((⟨y18, x5, 1 + (r19.1 % 2000), r10.1⟩ : T4 _ _ _ _).b)) := h105
                      obtain rfl : u102 = (.int ((⟨y18, x5, 1 + (r19.1 % 2000), r10.1⟩ : T4 _ _ _ _).c)) := h106
                      refine eo_to eo_no ?_
                      refine eo_to (eo_some ev_c) ?_
                      refine k_slT (x := ((⟨(⟨y18, x5, 1 + (r19.1 % 2000), r10.1⟩ : T4 _ _ _ _).a, (⟨y18, x5, 1 + (r19.1 % 2000), r10.1⟩ : T4 _ _ _ _).b, (⟨y18, x5, 1 + (r19.1 % 2000), r10.1⟩ : T4 _ _ _ _).c⟩ : T3 _ _ _) : (T3 Int Str Int))) hS hT108 rfl (by show ¬ (HT.sIx 4 0 none = 0 ∧ HT.sIx 4 4 (some (3)) = 4); decide) (fun H' p h s => mk3 rfl rfl rfl h s) fun p109 H hS => ?_
                      refine c_tup ?_
                      refine ea_to (ea_cons (ev_var rfl) ea_nil) ?_
                      refine k_tupP (x := ((⟨r95.1⟩ : T1 _) : (T1 Any))) hS (fun H' p h s => mk1 (hS.im (i := 1) rfl) h s) (by show 1 ≤ sizeLine; decide) fun p111 H hS => ?_
                      obtain ⟨u113, u114, u115, hT119, h116, h117, h118⟩ := im3 (hS.im (i := 1) rfl)
                      obtain rfl : u113 = (.int ((⟨(⟨y18, x5, 1 + (r19.1 % 2000), r10.1⟩ : T4 _ _ _ _).a, (⟨y18, x5, 1 + (r19.1 % 2000), r10.1⟩ : T4 _ _ _ _).b, (⟨y18, x5, 1 + (r19.1 % 2000), r10.1⟩ : T4 _ _ _ _).c⟩ : T3 _ _ _).a)) := h116
                      obtain rfl : u114 = (.str ((⟨(⟨y18, x5, 1 + (r19.1 % 2000), r10.1⟩ : T4 _ _ _ _).a, (⟨y18, x5, 1 + (r19.1 % 2000), r10.1⟩ : T4 _ _ _ _).b, (⟨y18, x5, 1 + (r19.1 % 2000), r10.1⟩ : T4 _ _ _ _).c⟩ : T3 _ _ _).b)) := h117
                      obtain rfl : u115 = (.int ((⟨(⟨y18, x5, 1 + (r19.1 % 2000), r10.1⟩ : T4 _ _ _ _).a, (⟨y18, x5, 1 + (r19.1 % 2000), r10.1⟩ : T4 _ _ _ _).b, (⟨y18, x5, 1 + (r19.1 % 2000), r10.1⟩ : T4 _ _ _ _).c⟩ : T3 _ _ _).c)) := h118
                      obtain ⟨u120, hT122, h121⟩ := im1 (hS.im (i := 0) rfl)
                      refine k_catT (x := ((⟨(⟨(⟨y18, x5, 1 + (r19.1 % 2000), r10.1⟩ : T4 _ _ _ _).a, (⟨y18, x5, 1 + (r19.1 % 2000), r10.1⟩ : T4 _ _ _ _).b, (⟨y18, x5, 1 + (r19.1 % 2000), r10.1⟩ : T4 _ _ _ _).c⟩ : T3 _ _ _).a, (⟨(⟨y18, x5, 1 + (r19.1 % 2000), r10.1⟩ : T4 _ _ _ _).a, (⟨y18, x5, 1 + (r19.1 % 2000), r10.1⟩ : T4 _ _ _ _).b, (⟨y18, x5, 1 + (r19.1 % 2000), r10.1⟩ : T4 _ _ _ _).c⟩ : T3 _ _ _).b, (⟨(⟨y18, x5, 1 + (r19.1 % 2000), r10.1⟩ : T4 _ _ _ _).a, (⟨y18, x5, 1 + (r19.1 % 2000), r10.1⟩ : T4 _ _ _ _).b, (⟨y18, x5, 1 + (r19.1 % 2000), r10.1⟩ : T4 _ _ _ _).c⟩ : T3 _ _ _).c, (⟨r95.1⟩ : T1 _).a⟩ : T4 _ _ _ _) : (T4 Int Str Int Any))) hS hT119 hT122 (fun z => nomatch z) (fun z => nomatch z) (fun H' p h s => mk4 rfl rfl rfl h121 h s) (by show 4 ≤ sizeLine; decide) fun p123 H hS => ?_
                      refine c_nil ?_
                      obtain ⟨u125, u126, u127, u128, hT133, h129, h130, h131, h132⟩ := im4 (hS.im (i := 0) rfl)
                      obtain rfl : u125 = (.int ((⟨(⟨(⟨y18, x5, 1 + (r19.1 % 2000), r10.1⟩ : T4 _ _ _ _).a, (⟨y18, x5, 1 + (r19.1 % 2000), r10.1⟩ : T4 _ _ _ _).b, (⟨y18, x5, 1 + (r19.1 % 2000), r10.1⟩ : T4 _ _ _ _).c⟩ : T3 _ _ _).a, (⟨(⟨y18, x5, 1 + (r19.1 % 2000), r10.1⟩ : T4 _ _ _ _).a, (⟨y18, x5, 1 + (r19.1 % 2000), r10.1⟩ : T4 _ _ _ _).b, (⟨y18, x5, 1 + (r19.1 % 2000), r10.1⟩ : T4 _ _ _ _).c⟩ : T3 _ _ _).b, (⟨(⟨y18, x5, 1 + (r19.1 % 2000), r10.1⟩ : T4 _ _ _ _).a, (⟨y18, x5, 1 + (r19.1 % 2000), r10.1⟩ : T4 _ _ _ _).b, (⟨y18, x5, 1 + (r19.1 % 2000), r10.1⟩ : T4 _ _ _ _).c⟩ : T3 _ _ _).c, (⟨r95.1⟩ : T1 _).a⟩ : T4 _ _ _ _).a)) := h129
                      obtain rfl : u126 = (.str ((⟨(⟨(⟨y18, x5, 1 + (r19.1 % 2000), r10.1⟩ : T4 _ _ _ _).a, (⟨y18, x5, 1 + (r19.1 % 2000), r10.1⟩ : T4 _ _ _ _).b, (⟨y18, x5, 1 + (r19.1 % 2000), r10.1⟩ : T4 _ _ _ _).c⟩ : T3 _ _ _).a, (⟨(⟨y18, x5, 1 + (r19.1 % 2000), r10.1⟩ : T4 _ _ _ _).a, (⟨y18, x5, 1 + (r19.1 % 2000), r10.1⟩ : T4 _ _ _ _).b, (⟨y18, x5, 1 + (r19.1 % 2000), r10.1⟩ : T4 _ _ _ _).c⟩ : T3 _ _ _).b, (⟨(⟨y18, x5, 1 + (r19.1 % 2000), r10.1⟩ : T4 _ _ _ _).a, (⟨y18, x5, 1 + (r19.1 % 2000), r10.1⟩ : T4 _ _ _ _).b, (⟨y18, x5, 1 + (r19.1 % 2000), r10.1⟩ : T4 _ _ _ _).c⟩ : T3 _ _ _).c, (⟨r95.1⟩ : T1 _).a⟩ : T4 _ _ _ _).b)) := h130
                      obtain rfl : u127 = (.int ((⟨(⟨(⟨y18, x5, 1 + (r19.1 % 2000), r10.1⟩ : T4 _ _ _ _).a, (⟨y18, x5, 1 + (r19.1 % 2000), r10.1⟩ : T4 _ _ _ _).b, (⟨y18, x5, 1 + (r19.1 % 2000), r10.1⟩ : T4 _ _ _ _).c⟩ : T3 _ _ _).a, (⟨(⟨y18, x5, 1 + (r19.1 % 2000), r10.1⟩ : T4 _ _ _ _).a, (⟨y18, x5, 1 + (r19.1 % 2000), r10.1⟩ : T4 _ _ _ _).b, (⟨y18, x5, 1 + (r19.1 % 2000), r10.1⟩ : T4 _ _ _ _).c⟩ : T3 _ _ _).b, (⟨(⟨y18, x5, 1 + (r19.1 % 2000), r10.1⟩ : T4 _ _ _ _).a, (⟨y18, x5, 1 + (r19.1 % 2000), r10.1⟩ : T4 _ _ _ _).b, (⟨y18, x5, 1 + (r19.1 % 2000), r10.1⟩ : T4 _ _ _ _).c⟩ : T3 _ _ _).c, (⟨r95.1⟩ : T1 _).a⟩ : T4 _ _ _ _).c)) := h131
                      refine ⟨(.ref p123), ((Any.tup [(Any.int ((⟨(⟨(⟨y18, x5, 1 + (r19.1 % 2000), r10.1⟩ : T4 _ _ _ _).a, (⟨y18, x5, 1 + (r19.1 % 2000), r10.1⟩ : T4 _ _ _ _).b, (⟨y18, x5, 1 + (r19.1 % 2000), r10.1⟩ : T4 _ _ _ _).c⟩ : T3 _ _ _).a, (⟨(⟨y18, x5, 1 + (r19.1 % 2000), r10.1⟩ : T4 _ _ _ _).a, (⟨y18, x5, 1 + (r19.1 % 2000), r10.1⟩ : T4 _ _ _ _).b, (⟨y18, x5, 1 + (r19.1 % 2000), r10.1⟩ : T4 _ _ _ _).c⟩ : T3 _ _ _).b, (⟨(⟨y18, x5, 1 + (r19.1 % 2000), r10.1⟩ : T4 _ _ _ _).a, (⟨y18, x5, 1 + (r19.1 % 2000), r10.1⟩ : T4 _ _ _ _).b, (⟨y18, x5, 1 + (r19.1 % 2000), r10.1⟩ : T4 _ _ _ _).c⟩ : T3 _ _ _).c, (⟨r95.1⟩ : T1 _).a⟩ : T4 _ _ _ _).a)), (Any.str ((⟨(⟨(⟨y18, x5, 1 + (r19.1 % 2000), r10.1⟩ : T4 _ _ _ _).a, (⟨y18, x5, 1 + (r19.1 % 2000), r10.1⟩ : T4 _ _ _ _).b, (⟨y18, x5, 1 + (r19.1 % 2000), r10.1⟩ : T4 _ _ _ _).c⟩ : T3 _ _ _).a, (⟨(⟨y18, x5, 1 + (r19.1 % 2000), r10.1⟩ : T4 _ _ _ _).a, (⟨y18, x5, 1 + (r19.1 % 2000), r10.1⟩ : T4 _ _ _ _).b, (⟨y18, x5, 1 + (r19.1 % 2000), r10.1⟩ : T4 _ _ _ _).c⟩ : T3 _ _ _).b, (⟨(⟨y18, x5, 1 + (r19.1 % 2000), r10.1⟩ : T4 _ _ _ _).a, (⟨y18, x5, 1 + (r19.1 % 2000), r10.1⟩ : T4 _ _ _ _).b, (⟨y18, x5, 1 + (r19.1 % 2000), r10.1⟩ : T4 _ _ _ _).c⟩ : T3 _ _ _).c, (⟨r95.1⟩ : T1 _).a⟩ : T4 _ _ _ _).b)), (Any.int ((⟨(⟨(⟨y18, x5, 1 + (r19.1 % 2000), r10.1⟩ : T4 _ _ _ _).a, (⟨y18, x5, 1 + (r19.1 % 2000), r10.1⟩ : T4 _ _ _ _).b, (⟨y18, x5, 1 + (r19.1 % 2000), r10.1⟩ : T4 _ _ _ _).c⟩ : T3 _ _ _).a, (⟨(⟨y18, x5, 1 + (r19.1 % 2000), r10.1⟩ : T4 _ _ _ _).a, (⟨y18, x5, 1 + (r19.1 % 2000), r10.1⟩ : T4 _ _ _ _).b, (⟨y18, x5, 1 + (r19.1 % 2000), r10.1⟩ : T4 _ _ _ _).c⟩ : T3 _ _ _).b, (⟨(⟨y18, x5, 1 + (r19.1 % 2000), r10.1⟩ : T4 _ _ _ _).a, (⟨y18, x5, 1 + (r19.1 % 2000), r10.1⟩ : T4 _ _ _ _).b, (⟨y18, x5, 1 + (r19.1 % 2000), r10.1⟩ : T4 _ _ _ _).c⟩ : T3 _ _ _).c, (⟨r95.1⟩ : T1 _).a⟩ : T4 _ _ _ _).c)), (⟨(⟨(⟨y18, x5, 1 + (r19.1 % 2000), r10.1⟩ : T4 _ _ _ _).a, (⟨y18, x5, 1 + (r19.1 % 2000), r10.1⟩ : T4 _ _ _ _).b, (⟨y18, x5, 1 + (r19.1 % 2000), r10.1⟩ : T4 _ _ _ _).c⟩ : T3 _ _ _).a, (⟨(⟨y18, x5, 1 + (r19.1 % 2000), r10.1⟩ : T4 _ _ _ _).a, (⟨y18, x5, 1 + (r19.1 % 2000), r10.1⟩ : T4 _ _ _ _).b, (⟨y18, x5, 1 + (r19.1 % 2000), r10.1⟩ : T4 _ _ _ _).c⟩ : T3 _ _ _).b, (⟨(⟨y18, x5, 1 + (r19.1 % 2000), r10.1⟩ : T4 _ _ _ _).a, (⟨y18, x5, 1 + (r19.1 % 2000), r10.1⟩ : T4 _ _ _ _).b, (⟨y18, x5, 1 + (r19.1 % 2000), r10.1⟩ : T4 _ _ _ _).c⟩ : T3 _ _ _).c, (⟨r95.1⟩ : T1 _).a⟩ : T4 _ _ _ _).d]) : Any), star [imA (.ref p123) ((⟨(⟨(⟨y18, x5, 1 + (r19.1 % 2000), r10.1⟩ : T4 _ _ _ _).a, (⟨y18, x5, 1 + (r19.1 % 2000), r10.1⟩ : T4 _ _ _ _).b, (⟨y18, x5, 1 + (r19.1 % 2000), r10.1⟩ : T4 _ _ _ _).c⟩ : T3 _ _ _).a, (⟨(⟨y18, x5, 1 + (r19.1 % 2000), r10.1⟩ : T4 _ _ _ _).a, (⟨y18, x5, 1 + (r19.1 % 2000), r10.1⟩ : T4 _ _ _ _).b, (⟨y18, x5, 1 + (r19.1 % 2000), r10.1⟩ : T4 _ _ _ _).c⟩ : T3 _ _ _).b, (⟨(⟨y18, x5, 1 + (r19.1 % 2000), r10.1⟩ : T4 _ _ _ _).a, (⟨y18, x5, 1 + (r19.1 % 2000), r10.1⟩ : T4 _ _ _ _).b, (⟨y18, x5, 1 + (r19.1 % 2000), r10.1⟩ : T4 _ _ _ _).c⟩ : T3 _ _ _).c, (⟨r95.1⟩ : T1 _).a⟩ : T4 _ _ _ _) : (T4 Int Str Int Any)), imA (.ref p111) ((⟨r95.1⟩ : T1 _) : (T1 Any)), imA (.ref p109) ((⟨(⟨y18, x5, 1 + (r19.1 % 2000), r10.1⟩ : T4 _ _ _ _).a, (⟨y18, x5, 1 + (r19.1 % 2000), r10.1⟩ : T4 _ _ _ _).b, (⟨y18, x5, 1 + (r19.1 % 2000), r10.1⟩ : T4 _ _ _ _).c⟩ : T3 _ _ _) : (T3 Int Str Int)), imA p96 (r95.1 : Any), stA p2 (r95.2 : T3 Int Script Int), imA p77 ((Any.tup (cutL xs74 none (some (-1)))) : Any), imA (.ref p52) ((y18, x5) : (Int × Str)), imA (.ref p50) (r49 : (Int × Str)), imA (.ref p37) ((Any.tup []) : Any), imA (.ref p20) ((⟨y18, x5, 1 + (r19.1 % 2000), r10.1⟩ : T4 _ _ _ _) : (T4 Int Str Int Any)), lstA p14 ([5, 10 ^ (6 : Int).toNat] : (List Int)), imA p11 (r10.1 : Any), lstA p7 (y8 : (List Str)), lstA p4 (r3.1 : (List Str)), imA (.ref ad_v_law_script) v_law_script, F], rfl, ((any_tup (xs := [(Any.int ((⟨(⟨(⟨y18, x5, 1 + (r19.1 % 2000), r10.1⟩ : T4 _ _ _ _).a, (⟨y18, x5, 1 + (r19.1 % 2000), r10.1⟩ : T4 _ _ _ _).b, (⟨y18, x5, 1 + (r19.1 % 2000), r10.1⟩ : T4 _ _ _ _).c⟩ : T3 _ _ _).a, (⟨(⟨y18, x5, 1 + (r19.1 % 2000), r10.1⟩ : T4 _ _ _ _).a, (⟨y18, x5, 1 + (r19.1 % 2000), r10.1⟩ : T4 _ _ _ _).b, (⟨y18, x5, 1 + (r19.1 % 2000), r10.1⟩ : T4 _ _ _ _).c⟩ : T3 _ _ _).b, (⟨(⟨y18, x5, 1 + (r19.1 % 2000), r10.1⟩ : T4 _ _ _ _).a, (⟨y18, x5, 1 + (r19.1 % 2000), r10.1⟩ : T4 _ _ _ _).b, (⟨y18, x5, 1 + (r19.1 % 2000), r10.1⟩ : T4 _ _ _ _).c⟩ : T3 _ _ _).c, (⟨r95.1⟩ : T1 _).a⟩ : T4 _ _ _ _).a)), (Any.str ((⟨(⟨(⟨y18, x5, 1 + (r19.1 % 2000), r10.1⟩ : T4 _ _ _ _).a, (⟨y18, x5, 1 + (r19.1 % 2000), r10.1⟩ : T4 _ _ _ _).b, (⟨y18, x5, 1 + (r19.1 % 2000), r10.1⟩ : T4 _ _ _ _).c⟩ : T3 _ _ _).a, (⟨(⟨y18, x5, 1 + (r19.1 % 2000), r10.1⟩ : T4 _ _ _ _).a, (⟨y18, x5, 1 + (r19.1 % 2000), r10.1⟩ : T4 _ _ _ _).b, (⟨y18, x5, 1 + (r19.1 % 2000), r10.1⟩ : T4 _ _ _ _).c⟩ : T3 _ _ _).b, (⟨(⟨y18, x5, 1 + (r19.1 % 2000), r10.1⟩ : T4 _ _ _ _).a, (⟨y18, x5, 1 + (r19.1 % 2000), r10.1⟩ : T4 _ _ _ _).b, (⟨y18, x5, 1 + (r19.1 % 2000), r10.1⟩ : T4 _ _ _ _).c⟩ : T3 _ _ _).c, (⟨r95.1⟩ : T1 _).a⟩ : T4 _ _ _ _).b)), (Any.int ((⟨(⟨(⟨y18, x5, 1 + (r19.1 % 2000), r10.1⟩ : T4 _ _ _ _).a, (⟨y18, x5, 1 + (r19.1 % 2000), r10.1⟩ : T4 _ _ _ _).b, (⟨y18, x5, 1 + (r19.1 % 2000), r10.1⟩ : T4 _ _ _ _).c⟩ : T3 _ _ _).a, (⟨(⟨y18, x5, 1 + (r19.1 % 2000), r10.1⟩ : T4 _ _ _ _).a, (⟨y18, x5, 1 + (r19.1 % 2000), r10.1⟩ : T4 _ _ _ _).b, (⟨y18, x5, 1 + (r19.1 % 2000), r10.1⟩ : T4 _ _ _ _).c⟩ : T3 _ _ _).b, (⟨(⟨y18, x5, 1 + (r19.1 % 2000), r10.1⟩ : T4 _ _ _ _).a, (⟨y18, x5, 1 + (r19.1 % 2000), r10.1⟩ : T4 _ _ _ _).b, (⟨y18, x5, 1 + (r19.1 % 2000), r10.1⟩ : T4 _ _ _ _).c⟩ : T3 _ _ _).c, (⟨r95.1⟩ : T1 _).a⟩ : T4 _ _ _ _).c)), (⟨(⟨(⟨y18, x5, 1 + (r19.1 % 2000), r10.1⟩ : T4 _ _ _ _).a, (⟨y18, x5, 1 + (r19.1 % 2000), r10.1⟩ : T4 _ _ _ _).b, (⟨y18, x5, 1 + (r19.1 % 2000), r10.1⟩ : T4 _ _ _ _).c⟩ : T3 _ _ _).a, (⟨(⟨y18, x5, 1 + (r19.1 % 2000), r10.1⟩ : T4 _ _ _ _).a, (⟨y18, x5, 1 + (r19.1 % 2000), r10.1⟩ : T4 _ _ _ _).b, (⟨y18, x5, 1 + (r19.1 % 2000), r10.1⟩ : T4 _ _ _ _).c⟩ : T3 _ _ _).b, (⟨(⟨y18, x5, 1 + (r19.1 % 2000), r10.1⟩ : T4 _ _ _ _).a, (⟨y18, x5, 1 + (r19.1 % 2000), r10.1⟩ : T4 _ _ _ _).b, (⟨y18, x5, 1 + (r19.1 % 2000), r10.1⟩ : T4 _ _ _ _).c⟩ : T3 _ _ _).c, (⟨r95.1⟩ : T1 _).a⟩ : T4 _ _ _ _).d])).mpr ⟨_, _, rfl, hT133, ⟨(any_int.mpr rfl), ⟨(any_str.mpr rfl), ⟨(any_int.mpr rfl), ⟨h132, True.intro⟩⟩⟩⟩⟩), Sep.unstar (M := []) (hS.sel [0, 1, 2, 3, 4, 5, 6, 7, 8, 9, 10, 11, 12, 13, 14, 15] (by decide) rfl : Sep H (([] ++ [imA (.ref p123) ((⟨(⟨(⟨y18, x5, 1 + (r19.1 % 2000), r10.1⟩ : T4 _ _ _ _).a, (⟨y18, x5, 1 + (r19.1 % 2000), r10.1⟩ : T4 _ _ _ _).b, (⟨y18, x5, 1 + (r19.1 % 2000), r10.1⟩ : T4 _ _ _ _).c⟩ : T3 _ _ _).a, (⟨(⟨y18, x5, 1 + (r19.1 % 2000), r10.1⟩ : T4 _ _ _ _).a, (⟨y18, x5, 1 + (r19.1 % 2000), r10.1⟩ : T4 _ _ _ _).b, (⟨y18, x5, 1 + (r19.1 % 2000), r10.1⟩ : T4 _ _ _ _).c⟩ : T3 _ _ _).b, (⟨(⟨y18, x5, 1 + (r19.1 % 2000), r10.1⟩ : T4 _ _ _ _).a, (⟨y18, x5, 1 + (r19.1 % 2000), r10.1⟩ : T4 _ _ _ _).b, (⟨y18, x5, 1 + (r19.1 % 2000), r10.1⟩ : T4 _ _ _ _).c⟩ : T3 _ _ _).c, (⟨r95.1⟩ : T1 _).a⟩ : T4 _ _ _ _) : (T4 Int Str Int Any)), imA (.ref p111) ((⟨r95.1⟩ : T1 _) : (T1 Any)), imA (.ref p109) ((⟨(⟨y18, x5, 1 + (r19.1 % 2000), r10.1⟩ : T4 _ _ _ _).a, (⟨y18, x5, 1 + (r19.1 % 2000), r10.1⟩ : T4 _ _ _ _).b, (⟨y18, x5, 1 + (r19.1 % 2000), r10.1⟩ : T4 _ _ _ _).c⟩ : T3 _ _ _) : (T3 Int Str Int)), imA p96 (r95.1 : Any), stA p2 (r95.2 : T3 Int Script Int), imA p77 ((Any.tup (cutL xs74 none (some (-1)))) : Any), imA (.ref p52) ((y18, x5) : (Int × Str)), imA (.ref p50) (r49 : (Int × Str)), imA (.ref p37) ((Any.tup []) : Any), imA (.ref p20) ((⟨y18, x5, 1 + (r19.1 % 2000), r10.1⟩ : T4 _ _ _ _) : (T4 Int Str Int Any)), lstA p14 ([5, 10 ^ (6 : Int).toNat] : (List Int)), imA p11 (r10.1 : Any), lstA p7 (y8 : (List Str)), lstA p4 (r3.1 : (List Str)), imA (.ref ad_v_law_script) v_law_script, F] : List (Asn G)))), R.wp_mono (R.wp_bind hm) (fun r134 hm H hS => ?_) (fun _ z => z)⟩
                      have hS : Sep H ([imA (.ref p123) ((⟨(⟨(⟨y18, x5, 1 + (r19.1 % 2000), r10.1⟩ : T4 _ _ _ _).a, (⟨y18, x5, 1 + (r19.1 % 2000), r10.1⟩ : T4 _ _ _ _).b, (⟨y18, x5, 1 + (r19.1 % 2000), r10.1⟩ : T4 _ _ _ _).c⟩ : T3 _ _ _).a, (⟨(⟨y18, x5, 1 + (r19.1 % 2000), r10.1⟩ : T4 _ _ _ _).a, (⟨y18, x5, 1 + (r19.1 % 2000), r10.1⟩ : T4 _ _ _ _).b, (⟨y18, x5, 1 + (r19.1 % 2000), r10.1⟩ : T4 _ _ _ _).c⟩ : T3 _ _ _).b, (⟨(⟨y18, x5, 1 + (r19.1 % 2000), r10.1⟩ : T4 _ _ _ _).a, (⟨y18, x5, 1 + (r19.1 % 2000), r10.1⟩ : T4 _ _ _ _).b, (⟨y18, x5, 1 + (r19.1 % 2000), r10.1⟩ : T4 _ _ _ _).c⟩ : T3 _ _ _).c, (⟨r95.1⟩ : T1 _).a⟩ : T4 _ _ _ _) : (T4 Int Str Int Any)), imA (.ref p111) ((⟨r95.1⟩ : T1 _) : (T1 Any)), imA (.ref p109) ((⟨(⟨y18, x5, 1 + (r19.1 % 2000), r10.1⟩ : T4 _ _ _ _).a, (⟨y18, x5, 1 + (r19.1 % 2000), r10.1⟩ : T4 _ _ _ _).b, (⟨y18, x5, 1 + (r19.1 % 2000), r10.1⟩ : T4 _ _ _ _).c⟩ : T3 _ _ _) : (T3 Int Str Int)), imA p96 (r95.1 : Any), stA p2 (r95.2 : T3 Int Script Int), imA p77 ((Any.tup (cutL xs74 none (some (-1)))) : Any), imA (.ref p52) ((y18, x5) : (Int × Str)), imA (.ref p50) (r49 : (Int × Str)), imA (.ref p37) ((Any.tup []) : Any), imA (.ref p20) ((⟨y18, x5, 1 + (r19.1 % 2000), r10.1⟩ : T4 _ _ _ _) : (T4 Int Str Int Any)), lstA p14 ([5, 10 ^ (6 : Int).toNat] : (List Int)), imA p11 (r10.1 : Any), lstA p7 (y8 : (List Str)), lstA p4 (r3.1 : (List Str)), imA (.ref ad_v_law_script) v_law_script, F] : List (Asn G)) := Sep.star (M := []) hS
                      refine ev_to ev_c ?_
                      refine ev_op2 (ev_isnB ev_c ev_c) ?_
                      refine f_bl ?_
                      exact nx _ _ hm (hS.sel [3, 4, 5, 6, 7, 8, 9, 10, 11, 12, 13, 14, 15] (by decide) rfl)
                    ·
                      obtain ⟨hy, hn⟩ := R.wp_if hm
                      refine ifK_2 (fun hb135 => ?_) (fun hb135 => ?_)
                      · have hm := hy hb135
                        refine c_ret ?_
                        refine ev_to ev_c ?_
                        exact hm _ (hS.sel [12] (by decide) rfl)
                      · have hm := hn (by rw [hb135]; decide)
                        refine st_nx ?_
                        refine sq_nx ?_
                        refine f_seq ?_
                        refine c_asg ?_
                        refine c_call ?_
                        refine ea_to (ea_cons (ev_var rfl) (ea_cons (ev_var rfl) ea_nil)) ?_
                        refine ⟨p2, (r95.2 : (T3 Int Script Int)), p20, ((⟨y18, x5, 1 + (r19.1 % 2000), r10.1⟩ : T4 _ _ _ _) : (T4 Int Str Int Any)), star [imA p96 (r95.1 : Any), imA p77 ((Any.tup (cutL xs74 none (some (-1)))) : Any), imA (.ref p52) ((y18, x5) : (Int × Str)), imA (.ref p50) (r49 : (Int × Str)), imA (.ref p37) ((Any.tup []) : Any), imA (.ref p20) ((⟨y18, x5, 1 + (r19.1 % 2000), r10.1⟩ : T4 _ _ _ _) : (T4 Int Str Int Any)), lstA p14 ([5, 10 ^ (6 : Int).toNat] : (List Int)), imA p11 (r10.1 : Any), lstA p7 (y8 : (List Str)), lstA p4 (r3.1 : (List Str)), imA (.ref ad_v_law_script) v_law_script, F], rfl, (hS.im (i := 6) rfl), Sep.unstar (M := [stA p2 (r95.2 : T3 Int Script Int)]) (hS.sel [1, 0, 2, 3, 4, 5, 6, 7, 8, 9, 10, 11, 12] (by decide) rfl : Sep H (([stA p2 (r95.2 : T3 Int Script Int)] ++ [imA p96 (r95.1 : Any), imA p77 ((Any.tup (cutL xs74 none (some (-1)))) : Any), imA (.ref p52) ((y18, x5) : (Int × Str)), imA (.ref p50) (r49 : (Int × Str)), imA (.ref p37) ((Any.tup []) : Any), imA (.ref p20) ((⟨y18, x5, 1 + (r19.1 % 2000), r10.1⟩ : T4 _ _ _ _) : (T4 Int Str Int Any)), lstA p14 ([5, 10 ^ (6 : Int).toNat] : (List Int)), imA p11 (r10.1 : Any), lstA p7 (y8 : (List Str)), lstA p4 (r3.1 : (List Str)), imA (.ref ad_v_law_script) v_law_script, F] : List (Asn G)))), R.wp_mono (R.wp_bind hm) (fun r136 hm p137 H hS => ?_) (fun _ z => z)⟩
                        have hS : Sep H ([imA p137 (r136.1 : Any), stA p2 (r136.2 : T3 Int Script Int), imA p96 (r95.1 : Any), imA p77 ((Any.tup (cutL xs74 none (some (-1)))) : Any), imA (.ref p52) ((y18, x5) : (Int × Str)), imA (.ref p50) (r49 : (Int × Str)), imA (.ref p37) ((Any.tup []) : Any), imA (.ref p20) ((⟨y18, x5, 1 + (r19.1 % 2000), r10.1⟩ : T4 _ _ _ _) : (T4 Int Str Int Any)), lstA p14 ([5, 10 ^ (6 : Int).toNat] : (List Int)), imA p11 (r10.1 : Any), lstA p7 (y8 : (List Str)), lstA p4 (r3.1 : (List Str)), imA (.ref ad_v_law_script) v_law_script, F] : List (Asn G)) := Sep.star (M := [imA p137 (r136.1 : Any), stA p2 (r136.2 : T3 Int Script Int)]) hS
                        refine c_set (σ' := [some (.ref ad_v_law_script), some (.ref p2), some (.str (x5)), some (.ref p7), some p11, some (.int (y18)), some (.ref p20), some p137]) rfl ?_
                        refine sq_nx ?_
                        refine f_seq ?_
                        refine f_if ?_
                        refine f_or ?_
                        refine f_test ?_
                        refine c_op ?_
                        refine c_call ?_
                        refine ea_to (ea_cons (ev_var rfl) ea_nil) ?_
                        refine ⟨p137, (r136.1 : Any), star [imA p137 (r136.1 : Any), stA p2 (r136.2 : T3 Int Script Int), imA p96 (r95.1 : Any), imA p77 ((Any.tup (cutL xs74 none (some (-1)))) : Any), imA (.ref p52) ((y18, x5) : (Int × Str)), imA (.ref p50) (r49 : (Int × Str)), imA (.ref p37) ((Any.tup []) : Any), imA (.ref p20) ((⟨y18, x5, 1 + (r19.1 % 2000), r10.1⟩ : T4 _ _ _ _) : (T4 Int Str Int Any)), lstA p14 ([5, 10 ^ (6 : Int).toNat] : (List Int)), imA p11 (r10.1 : Any), lstA p7 (y8 : (List Str)), lstA p4 (r3.1 : (List Str)), imA (.ref ad_v_law_script) v_law_script, F], rfl, (hS.im (i := 0) rfl), Sep.unstar (M := []) (hS.sel [0, 1, 2, 3, 4, 5, 6, 7, 8, 9, 10, 11, 12, 13] (by decide) rfl : Sep H (([] ++ [imA p137 (r136.1 : Any), stA p2 (r136.2 : T3 Int Script Int), imA p96 (r95.1 : Any), imA p77 ((Any.tup (cutL xs74 none (some (-1)))) : Any), imA (.ref p52) ((y18, x5) : (Int × Str)), imA (.ref p50) (r49 : (Int × Str)), imA (.ref p37) ((Any.tup []) : Any), imA (.ref p20) ((⟨y18, x5, 1 + (r19.1 % 2000), r10.1⟩ : T4 _ _ _ _) : (T4 Int Str Int Any)), lstA p14 ([5, 10 ^ (6 : Int).toNat] : (List Int)), imA p11 (r10.1 : Any), lstA p7 (y8 : (List Str)), lstA p4 (r3.1 : (List Str)), imA (.ref ad_v_law_script) v_law_script, F] : List (Asn G)))), R.wp_mono (R.wp_bind hm) (fun r139 hm H hS => ?_) (fun _ z => z)⟩
                        have hS : Sep H ([imA p137 (r136.1 : Any), stA p2 (r136.2 : T3 Int Script Int), imA p96 (r95.1 : Any), imA p77 ((Any.tup (cutL xs74 none (some (-1)))) : Any), imA (.ref p52) ((y18, x5) : (Int × Str)), imA (.ref p50) (r49 : (Int × Str)), imA (.ref p37) ((Any.tup []) : Any), imA (.ref p20) ((⟨y18, x5, 1 + (r19.1 % 2000), r10.1⟩ : T4 _ _ _ _) : (T4 Int Str Int Any)), lstA p14 ([5, 10 ^ (6 : Int).toNat] : (List Int)), imA p11 (r10.1 : Any), lstA p7 (y8 : (List Str)), lstA p4 (r3.1 : (List Str)), imA (.ref ad_v_law_script) v_law_script, F] : List (Asn G)) := Sep.star (M := []) hS
                        refine ev_to ev_c ?_
                        refine ev_op2 (ev_isnB ev_c ev_c) ?_
                        refine f_bl ?_
                        refine orK_J hm hS (fun hb q hm nx => ?_) (fun b140 H hm hS => ?_)
                        ·
                          refine f_or ?_
                          refine f_test ?_
                          refine c_op ?_
                          refine c_call ?_
                          refine c_cons ?_
                          refine c_op ?_
                          refine ev_to (ev_var rfl) ?_
                          refine c_tup ?_
                          refine ea_to (ea_cons ev_c ea_nil) ?_
                          refine k_tupP (x := ((⟨1⟩ : T1 _) : (T1 Int))) hS (fun H' p h s => mk1 rfl h s) (by show 1 ≤ sizeLine; decide) fun p141 H hS => ?_
                          obtain ⟨u143, u144, u145, u146, hT151, h147, h148, h149, h150⟩ := im4 (hS.im (i := 8) rfl)
                          obtain rfl : u143 = (.int ((⟨y18, x5, 1 + (r19.1 % 2000), r10.1⟩ : T4 _ _ _ _).a)) := h147
                          obtain rfl : u144 = (.str ((⟨y18, x5, 1 + (r19.1 % 2000), r10.1⟩ : T4 _ _ _ _).b)) := h148
                          obtain rfl : u145 = (.int ((⟨y18, x5, 1 + (r19.1 % 2000), r10.1⟩ : T4 _ _ _ _).c)) := h149
                          obtain ⟨u152, hT154, h153⟩ := im1 (hS.im (i := 0) rfl)
                          obtain rfl : u152 = (.int ((⟨1⟩ : T1 _).a)) := h153
                          refine k_catT (x := ((⟨(⟨y18, x5, 1 + (r19.1 % 2000), r10.1⟩ : T4 _ _ _ _).a, (⟨y18, x5, 1 + (r19.1 % 2000), r10.1⟩ : T4 _ _ _ _).b, (⟨y18, x5, 1 + (r19.1 % 2000), r10.1⟩ : T4 _ _ _ _).c, (⟨y18, x5, 1 + (r19.1 % 2000), r10.1⟩ : T4 _ _ _ _).d, (⟨1⟩ : T1 _).a⟩ : T5 _ _ _ _ _) : (T5 Int Str Int Any Int))) hS hT151 hT154 (fun z => nomatch z) (fun z => nomatch z) (fun H' p h s => mk5 rfl rfl rfl h150 rfl h s) (by show 5 ≤ sizeLine; decide) fun p155 H hS => ?_
                          refine c_nil ?_
                          obtain ⟨u157, u158, u159, u160, u161, hT167, h162, h163, h164, h165, h166⟩ := im5 (hS.im (i := 0) rfl)
                          obtain rfl : u157 = (.int ((⟨(⟨y18, x5, 1 + (r19.1 % 2000), r10.1⟩ : T4 _ _ _ _).a, (⟨y18, x5, 1 + (r19.1 % 2000), r10.1⟩ : T4 _ _ _ _).b, (⟨y18, x5, 1 + (r19.1 % 2000), r10.1⟩ : T4 _ _ _ _).c, (⟨y18, x5, 1 + (r19.1 % 2000), r10.1⟩ : T4 _ _ _ _).d, (⟨1⟩ : T1 _).a⟩ : T5 _ _ _ _ _).a)) := h162
                          obtain rfl : u158 = (.str ((⟨(⟨y18, x5, 1 + (r19.1 % 2000), r10.1⟩ : T4 _ _ _ _).a, (⟨y18, x5, 1 + (r19.1 % 2000), r10.1⟩ : T4 _ _ _ _).b, (⟨y18, x5, 1 + (r19.1 % 2000), r10.1⟩ : T4 _ _ _ _).c, (⟨y18, x5, 1 + (r19.1 % 2000), r10.1⟩ : T4 _ _ _ _).d, (⟨1⟩ : T1 _).a⟩ : T5 _ _ _ _ _).b)) := h163
                          obtain rfl : u159 = (.int ((⟨(⟨y18, x5, 1 + (r19.1 % 2000), r10.1⟩ : T4 _ _ _ _).a, (⟨y18, x5, 1 + (r19.1 % 2000), r10.1⟩ : T4 _ _ _ _).b, (⟨y18, x5, 1 + (r19.1 % 2000), r10.1⟩ : T4 _ _ _ _).c, (⟨y18, x5, 1 + (r19.1 % 2000), r10.1⟩ : T4 _ _ _ _).d, (⟨1⟩ : T1 _).a⟩ : T5 _ _ _ _ _).c)) := h164
                          obtain rfl : u161 = (.int ((⟨(⟨y18, x5, 1 + (r19.1 % 2000), r10.1⟩ : T4 _ _ _ _).a, (⟨y18, x5, 1 + (r19.1 % 2000), r10.1⟩ : T4 _ _ _ _).b, (⟨y18, x5, 1 + (r19.1 % 2000), r10.1⟩ : T4 _ _ _ _).c, (⟨y18, x5, 1 + (r19.1 % 2000), r10.1⟩ : T4 _ _ _ _).d, (⟨1⟩ : T1 _).a⟩ : T5 _ _ _ _ _).e)) := h166
                          refine ⟨(.ref p155), ((Any.tup [(Any.int ((⟨(⟨y18, x5, 1 + (r19.1 % 2000), r10.1⟩ : T4 _ _ _ _).a, (⟨y18, x5, 1 + (r19.1 % 2000), r10.1⟩ : T4 _ _ _ _).b, (⟨y18, x5, 1 + (r19.1 % 2000), r10.1⟩ : T4 _ _ _ _).c, (⟨y18, x5, 1 + (r19.1 % 2000), r10.1⟩ : T4 _ _ _ _).d, (⟨1⟩ : T1 _).a⟩ : T5 _ _ _ _ _).a)), (Any.str ((⟨(⟨y18, x5, 1 + (r19.1 % 2000), r10.1⟩ : T4 _ _ _ _).a, (⟨y18, x5, 1 + (r19.1 % 2000), r10.1⟩ : T4 _ _ _ _).b, (⟨y18, x5, 1 + (r19.1 % 2000), r10.1⟩ : T4 _ _ _ _).c, (⟨y18, x5, 1 + (r19.1 % 2000), r10.1⟩ : T4 _ _ _ _).d, (⟨1⟩ : T1 _).a⟩ : T5 _ _ _ _ _).b)), (Any.int ((⟨(⟨y18, x5, 1 + (r19.1 % 2000), r10.1⟩ : T4 _ _ _ _).a, (⟨y18, x5, 1 + (r19.1 % 2000), r10.1⟩ : T4 _ _ _ _).b, (⟨y18, x5, 1 + (r19.1 % 2000), r10.1⟩ : T4 _ _ _ _).c, (⟨y18, x5, 1 + (r19.1 % 2000), r10.1⟩ : T4 _ _ _ _).d, (⟨1⟩ : T1 _).a⟩ : T5 _ _ _ _ _).c)), (⟨(⟨y18, x5, 1 + (r19.1 % 2000), r10.1⟩ : T4 _ _ _ _).a, (⟨y18, x5, 1 + (r19.1 % 2000), r10.1⟩ : T4 _ _ _ _).b, (⟨y18, x5, 1 + (r19.1 % 2000), r10.1⟩ : T4 _ _ _ _).c, (⟨y18, x5, 1 + (r19.1 % 2000), r10.1⟩ : T4 _ _ _ _).d, (⟨1⟩ : T1 _).a⟩ : T5 _ _ _ _ _).d, (Any.int ((⟨(⟨y18, x5, 1 + (r19.1 % 2000), r10.1⟩ : T4 _ _ _ _).a, (⟨y18, x5, 1 + (r19.1 % 2000), r10.1⟩ : T4 _ _ _ _).b, (⟨y18, x5, 1 + (r19.1 % 2000), r10.1⟩ : T4 _ _ _ _).c, (⟨y18, x5, 1 + (r19.1 % 2000), r10.1⟩ : T4 _ _ _ _).d, (⟨1⟩ : T1 _).a⟩ : T5 _ _ _ _ _).e))]) : Any), star [imA (.ref p155) ((⟨(⟨y18, x5, 1 + (r19.1 % 2000), r10.1⟩ : T4 _ _ _ _).a, (⟨y18, x5, 1 + (r19.1 % 2000), r10.1⟩ : T4 _ _ _ _).b, (⟨y18, x5, 1 + (r19.1 % 2000), r10.1⟩ : T4 _ _ _ _).c, (⟨y18, x5, 1 + (r19.1 % 2000), r10.1⟩ : T4 _ _ _ _).d, (⟨1⟩ : T1 _).a⟩ : T5 _ _ _ _ _) : (T5 Int Str Int Any Int)), imA (.ref p141) ((⟨1⟩ : T1 _) : (T1 Int)), imA p137 (r136.1 : Any), stA p2 (r136.2 : T3 Int Script Int), imA p96 (r95.1 : Any), imA p77 ((Any.tup (cutL xs74 none (some (-1)))) : Any), imA (.ref p52) ((y18, x5) : (Int × Str)), imA (.ref p50) (r49 : (Int × Str)), imA (.ref p37) ((Any.tup []) : Any), imA (.ref p20) ((⟨y18, x5, 1 + (r19.1 % 2000), r10.1⟩ : T4 _ _ _ _) : (T4 Int Str Int Any)), lstA p14 ([5, 10 ^ (6 : Int).toNat] : (List Int)), imA p11 (r10.1 : Any), lstA p7 (y8 : (List Str)), lstA p4 (r3.1 : (List Str)), imA (.ref ad_v_law_script) v_law_script, F], rfl, ((any_tup (xs := [(Any.int ((⟨(⟨y18, x5, 1 + (r19.1 % 2000), r10.1⟩ : T4 _ _ _ _).a, (⟨y18, x5, 1 + (r19.1 % 2000), r10.1⟩ : T4 _ _ _ _).b, (⟨y18, x5, 1 + (r19.1 % 2000), r10.1⟩ : T4 _ _ _ _).c, (⟨y18, x5, 1 + (r19.1 % 2000), r10.1⟩ : T4 _ _ _ _).d, (⟨1⟩ : T1 _).a⟩ : T5 _ _ _ _ _).a)), (Any.str ((⟨(⟨y18, x5, 1 + (r19.1 % 2000), r10.1⟩ : T4 _ _ _ _).a, (⟨y18, x5, 1 + (r19.1 % 2000), r10.1⟩ : T4 _ _ _ _).b, (⟨y18, x5, 1 + (r19.1 % 2000), r10.1⟩ : T4 _ _ _ _).c, (⟨y18, x5, 1 + (r19.1 % 2000), r10.1⟩ : T4 _ _ _ _).d, (⟨1⟩ : T1 _).a⟩ : T5 _ _ _ _ _).b)), (Any.int ((⟨(⟨y18, x5, 1 + (r19.1 % 2000), r10.1⟩ : T4 _ _ _ _).a, (⟨y18, x5, 1 + (r19.1 % 2000), r10.1⟩ : T4 _ _ _ _).b, (⟨y18, x5, 1 + (r19.1 % 2000), r10.1⟩ : T4 _ _ _ _).c, (⟨y18, x5, 1 + (r19.1 % 2000), r10.1⟩ : T4 _ _ _ _).d, (⟨1⟩ : T1 _).a⟩ : T5 _ _ _ _ _).c)), (⟨(⟨y18, x5, 1 + (r19.1 % 2000), r10.1⟩ : T4 _ _ _ _).a, (⟨y18, x5, 1 + (r19.1 % 2000), r10.1⟩ : T4 _ _ _ _).b, (⟨y18, x5, 1 + (r19.1 % 2000), r10.1⟩ : T4 _ _ _ _).c, (⟨y18, x5, 1 + (r19.1 % 2000), r10.1⟩ : T4 _ _ _ _).d, (⟨1⟩ : T1 _).a⟩ : T5 _ _ _ _ _).d, (Any.int ((⟨(⟨y18, x5, 1 + (r19.1 % 2000), r10.1⟩ : T4 _ _ _ _).a, (⟨y18, x5, 1 + (r19.1 % 2000), r10.1⟩ : T4 _ _ _ _).b, (⟨y18, x5, 1 + (r19.1 % 2000), r10.1⟩ : T4 _ _ _ _).c, (⟨y18, x5, 1 + (r19.1 % 2000), r10.1⟩ : T4 _ _ _ _).d, (⟨1⟩ : T1 _).a⟩ : T5 _ _ _ _ _).e))])).mpr ⟨_, _, rfl, hT167, ⟨(any_int.mpr rfl), ⟨(any_str.mpr rfl), ⟨(any_int.mpr rfl), ⟨h165, ⟨(any_int.mpr rfl), True.intro⟩⟩⟩⟩⟩⟩), Sep.unstar (M := []) (hS.sel [0, 1, 2, 3, 4, 5, 6, 7, 8, 9, 10, 11, 12, 13, 14, 15] (by decide) rfl : Sep H (([] ++ [imA (.ref p155) ((⟨(⟨y18, x5, 1 + (r19.1 % 2000), r10.1⟩ : T4 _ _ _ _).a, (⟨y18, x5, 1 + (r19.1 % 2000), r10.1⟩ : T4 _ _ _ _).b, (⟨y18, x5, 1 + (r19.1 % 2000), r10.1⟩ : T4 _ _ _ _).c, (⟨y18, x5, 1 + (r19.1 % 2000), r10.1⟩ : T4 _ _ _ _).d, (⟨1⟩ : T1 _).a⟩ : T5 _ _ _ _ _) : (T5 Int Str Int Any Int)), imA (.ref p141) ((⟨1⟩ : T1 _) : (T1 Int)), imA p137 (r136.1 : Any), stA p2 (r136.2 : T3 Int Script Int), imA p96 (r95.1 : Any), imA p77 ((Any.tup (cutL xs74 none (some (-1)))) : Any), imA (.ref p52) ((y18, x5) : (Int × Str)), imA (.ref p50) (r49 : (Int × Str)), imA (.ref p37) ((Any.tup []) : Any), imA (.ref p20) ((⟨y18, x5, 1 + (r19.1 % 2000), r10.1⟩ : T4 _ _ _ _) : (T4 Int Str Int Any)), lstA p14 ([5, 10 ^ (6 : Int).toNat] : (List Int)), imA p11 (r10.1 : Any), lstA p7 (y8 : (List Str)), lstA p4 (r3.1 : (List Str)), imA (.ref ad_v_law_script) v_law_script, F] : List (Asn G)))), R.wp_mono (R.wp_bind hm) (fun r168 hm H hS => ?_) (fun _ z => z)⟩
                          have hS : Sep H ([imA (.ref p155) ((⟨(⟨y18, x5, 1 + (r19.1 % 2000), r10.1⟩ : T4 _ _ _ _).a, (⟨y18, x5, 1 + (r19.1 % 2000), r10.1⟩ : T4 _ _ _ _).b, (⟨y18, x5, 1 + (r19.1 % 2000), r10.1⟩ : T4 _ _ _ _).c, (⟨y18, x5, 1 + (r19.1 % 2000), r10.1⟩ : T4 _ _ _ _).d, (⟨1⟩ : T1 _).a⟩ : T5 _ _ _ _ _) : (T5 Int Str Int Any Int)), imA (.ref p141) ((⟨1⟩ : T1 _) : (T1 Int)), imA p137 (r136.1 : Any), stA p2 (r136.2 : T3 Int Script Int), imA p96 (r95.1 : Any), imA p77 ((Any.tup (cutL xs74 none (some (-1)))) : Any), imA (.ref p52) ((y18, x5) : (Int × Str)), imA (.ref p50) (r49 : (Int × Str)), imA (.ref p37) ((Any.tup []) : Any), imA (.ref p20) ((⟨y18, x5, 1 + (r19.1 % 2000), r10.1⟩ : T4 _ _ _ _) : (T4 Int Str Int Any)), lstA p14 ([5, 10 ^ (6 : Int).toNat] : (List Int)), imA p11 (r10.1 : Any), lstA p7 (y8 : (List Str)), lstA p4 (r3.1 : (List Str)), imA (.ref ad_v_law_script) v_law_script, F] : List (Asn G)) := Sep.star (M := []) hS
                          refine ev_to ev_c ?_
                          refine ev_op2 (ev_isnB ev_c ev_c) ?_
                          refine f_bl ?_
                          refine orK_J hm hS (fun hb q hm nx => ?_) (fun b169 H hm hS => ?_)
                          ·
                            refine f_test ?_
                            refine c_op ?_
                            refine c_call ?_
                            refine c_cons ?_
                            refine c_sl ?_
                            refine ev_to (ev_var rfl) ?_
                            obtain ⟨u170, u171, u172, u173, hT178, h174, h175, h176, h177⟩ := im4 (hS.im (i := 9) rfl)
                            obtain rfl : u170 = (.int ((⟨y18, x5, 1 + (r19.1 % 2000), r10.1⟩ : T4 _ _ _ _).a)) := h174
                            obtain rfl : u171 = (.str ((⟨y18, x5, 1 + (r19.1 % 2000), r10.1⟩ : T4 _ _ _ _).b)) := h175
                            obtain rfl : u172 = (.int ((⟨y18, x5, 1 + (r19.1 % 2000), r10.1⟩ : T4 _ _ _ _).c)) := h176
                            refine eo_to eo_no ?_
                            refine eo_to (eo_some ev_c) ?_
                            refine k_slT (x := ((⟨(⟨y18, x5, 1 + (r19.1 % 2000), r10.1⟩ : T4 _ _ _ _).a, (⟨y18, x5, 1 + (r19.1 % 2000), r10.1⟩ : T4 _ _ _ _).b, (⟨y18, x5, 1 + (r19.1 % 2000), r10.1⟩ : T4 _ _ _ _).c⟩ : T3 _ _ _) : (T3 Int Str Int))) hS hT178 rfl (by show ¬ (HT.sIx 4 0 none = 0 ∧ HT.sIx 4 4 (some (3)) = 4); decide) (fun H' p h s => mk3 rfl rfl rfl h s) fun p179 H hS => ?_
                            refine c_nil ?_
                            obtain ⟨u181, u182, u183, hT187, h184, h185, h186⟩ := im3 (hS.im (i := 0) rfl)
                            obtain rfl : u181 = (.int ((⟨(⟨y18, x5, 1 + (r19.1 % 2000), r10.1⟩ : T4 _ _ _ _).a, (⟨y18, x5, 1 + (r19.1 % 2000), r10.1⟩ : T4 _ _ _ _).b, (⟨y18, x5, 1 + (r19.1 % 2000), r10.1⟩ : T4 _ _ _ _).c⟩ : T3 _ _ _).a)) := h184
                            obtain rfl : u182 = (.str ((⟨(⟨y18, x5, 1 + (r19.1 % 2000), r10.1⟩ : T4 _ _ _ _).a, (⟨y18, x5, 1 + (r19.1 % 2000), r10.1⟩ : T4 _ _ _ _).b, (⟨y18, x5, 1 + (r19.1 % 2000), r10.1⟩ : T4 _ _ _ _).c⟩ : T3 _ _ _).b)) := h185
                            obtain rfl : u183 = (.int ((⟨(⟨y18, x5, 1 + (r19.1 % 2000), r10.1⟩ : T4 _ _ _ _).a, (⟨y18, x5, 1 + (r19.1 % 2000), r10.1⟩ : T4 _ _ _ _).b, (⟨y18, x5, 1 + (r19.1 % 2000), r10.1⟩ : T4 _ _ _ _).c⟩ : T3 _ _ _).c)) := h186
                            refine ⟨(.ref p179), ((Any.tup [(Any.int ((⟨(⟨y18, x5, 1 + (r19.1 % 2000), r10.1⟩ : T4 _ _ _ _).a, (⟨y18, x5, 1 + (r19.1 % 2000), r10.1⟩ : T4 _ _ _ _).b, (⟨y18, x5, 1 + (r19.1 % 2000), r10.1⟩ : T4 _ _ _ _).c⟩ : T3 _ _ _).a)), (Any.str ((⟨(⟨y18, x5, 1 + (r19.1 % 2000), r10.1⟩ : T4 _ _ _ _).a, (⟨y18, x5, 1 + (r19.1 % 2000), r10.1⟩ : T4 _ _ _ _).b, (⟨y18, x5, 1 + (r19.1 % 2000), r10.1⟩ : T4 _ _ _ _).c⟩ : T3 _ _ _).b)), (Any.int ((⟨(⟨y18, x5, 1 + (r19.1 % 2000), r10.1⟩ : T4 _ _ _ _).a, (⟨y18, x5, 1 + (r19.1 % 2000), r10.1⟩ : T4 _ _ _ _).b, (⟨y18, x5, 1 + (r19.1 % 2000), r10.1⟩ : T4 _ _ _ _).c⟩ : T3 _ _ _).c))]) : Any), star [imA (.ref p179) ((⟨(⟨y18, x5, 1 + (r19.1 % 2000), r10.1⟩ : T4 _ _ _ _).a, (⟨y18, x5, 1 + (r19.1 % 2000), r10.1⟩ : T4 _ _ _ _).b, (⟨y18, x5, 1 + (r19.1 % 2000), r10.1⟩ : T4 _ _ _ _).c⟩ : T3 _ _ _) : (T3 Int Str Int)), imA (.ref p155) ((⟨(⟨y18, x5, 1 + (r19.1 % 2000), r10.1⟩ : T4 _ _ _ _).a, (⟨y18, x5, 1 + (r19.1 % 2000), r10.1⟩ : T4 _ _ _ _).b, (⟨y18, x5, 1 + (r19.1 % 2000), r10.1⟩ : T4 _ _ _ _).c, (⟨y18, x5, 1 + (r19.1 % 2000), r10.1⟩ : T4 _ _ _ _).d, (⟨1⟩ : T1 _).a⟩ : T5 _ _ _ _ _) : (T5 Int Str Int Any Int)), imA (.ref p141) ((⟨1⟩ : T1 _) : (T1 Int)), imA p137 (r136.1 : Any), stA p2 (r136.2 : T3 Int Script Int), imA p96 (r95.1 : Any), imA p77 ((Any.tup (cutL xs74 none (some (-1)))) : Any), imA (.ref p52) ((y18, x5) : (Int × Str)), imA (.ref p50) (r49 : (Int × Str)), imA (.ref p37) ((Any.tup []) : Any), imA (.ref p20) ((⟨y18, x5, 1 + (r19.1 % 2000), r10.1⟩ : T4 _ _ _ _) : (T4 Int Str Int Any)), lstA p14 ([5, 10 ^ (6 : Int).toNat] : (List Int)), imA p11 (r10.1 : Any), lstA p7 (y8 : (List Str)), lstA p4 (r3.1 : (List Str)), imA (.ref ad_v_law_script) v_law_script, F], rfl, ((any_tup (xs := [(Any.int ((⟨(⟨y18, x5, 1 + (r19.1 % 2000), r10.1⟩ : T4 _ _ _ _).a, (⟨y18, x5, 1 + (r19.1 % 2000), r10.1⟩ : T4 _ _ _ _).b, (⟨y18, x5, 1 + (r19.1 % 2000), r10.1⟩ : T4 _ _ _ _).c⟩ : T3 _ _ _).a)), (Any.str ((⟨(⟨y18, x5, 1 + (r19.1 % 2000), r10.1⟩ : T4 _ _ _ _).a, (⟨y18, x5, 1 + (r19.1 % 2000), r10.1⟩ : T4 _ _ _ _).b, (⟨y18, x5, 1 + (r19.1 % 2000), r10.1⟩ : T4 _ _ _ _).c⟩ : T3 _ _ _).b)), (Any.int ((⟨(⟨y18, x5, 1 + (r19.1 % 2000), r10.1⟩ : T4 _ _ _ _).a, (⟨y18, x5, 1 + (r19.1 % 2000), r10.1⟩ : T4 _ _ _ _).b, (⟨y18, x5, 1 + (r19.1 % 2000), r10.1⟩ : T4 _ _ _ _).c⟩ : T3 _ _ _).c))])).mpr ⟨_, _, rfl, hT187, ⟨(any_int.mpr rfl), ⟨(any_str.mpr rfl), ⟨(any_int.mpr rfl), True.intro⟩⟩⟩⟩), Sep.unstar (M := []) (hS.sel [0, 1, 2, 3, 4, 5, 6, 7, 8, 9, 10, 11, 12, 13, 14, 15, 16] (by decide) rfl : Sep H (([] ++ [imA (.ref p179) ((⟨(⟨y18, x5, 1 + (r19.1 % 2000), r10.1⟩ : T4 _ _ _ _).a, (⟨y18, x5, 1 + (r19.1 % 2000), r10.1⟩ : T4 _ _ _ _).b, (⟨y18, x5, 1 + (r19.1 % 2000), r10.1⟩ : T4 _ _ _ _).c⟩ : T3 _ _ _) : (T3 Int Str Int)), imA (.ref p155) ((⟨(⟨y18, x5, 1 + (r19.1 % 2000), r10.1⟩ : T4 _ _ _ _).a, (⟨y18, x5, 1 + (r19.1 % 2000), r10.1⟩ : T4 _ _ _ _).b, (⟨y18, x5, 1 + (r19.1 % 2000), r10.1⟩ : T4 _ _ _ _).c, (⟨y18, x5, 1 + (r19.1 % 2000), r10.1⟩ : T4 _ _ _ _).d, (⟨1⟩ : T1 _).a⟩ : T5 _ _ _ _ _) : (T5 Int Str Int Any Int)), imA (.ref p141) ((⟨1⟩ : T1 _) : (T1 Int)), imA p137 (r136.1 : Any), stA p2 (r136.2 : T3 Int Script Int), imA p96 (r95.1 : Any), imA p77 ((Any.tup (cutL xs74 none (some (-1)))) : Any), imA (.ref p52) ((y18, x5) : (Int × Str)), imA (.ref p50) (r49 : (Int × Str)), imA (.ref p37) ((Any.tup []) : Any), imA (.ref p20) ((⟨y18, x5, 1 + (r19.1 % 2000), r10.1⟩ : T4 _ _ _ _) : (T4 Int Str Int Any)), lstA p14 ([5, 10 ^ (6 : Int).toNat] : (List Int)), imA p11 (r10.1 : Any), lstA p7 (y8 : (List Str)), lstA p4 (r3.1 : (List Str)), imA (.ref ad_v_law_script) v_law_script, F] : List (Asn G)))), R.wp_mono (R.wp_bind hm) (fun r188 hm H hS => ?_) (fun _ z => z)⟩
                            have hS : Sep H ([imA (.ref p179) ((⟨(⟨y18, x5, 1 + (r19.1 % 2000), r10.1⟩ : T4 _ _ _ _).a, (⟨y18, x5, 1 + (r19.1 % 2000), r10.1⟩ : T4 _ _ _ _).b, (⟨y18, x5, 1 + (r19.1 % 2000), r10.1⟩ : T4 _ _ _ _).c⟩ : T3 _ _ _) : (T3 Int Str Int)), imA (.ref p155) ((⟨(⟨y18, x5, 1 + (r19.1 % 2000), r10.1⟩ : T4 _ _ _ _).a, (⟨y18, x5, 1 + (r19.1 % 2000), r10.1⟩ : T4 _ _ _ _).b, (⟨y18, x5, 1 + (r19.1 % 2000), r10.1⟩ : T4 _ _ _ _).c, (⟨y18, x5, 1 + (r19.1 % 2000), r10.1⟩ : T4 _ _ _ _).d, (⟨1⟩ : T1 _).a⟩ : T5 _ _ _ _ _) : (T5 Int Str Int Any Int)), imA (.ref p141) ((⟨1⟩ : T1 _) : (T1 Int)), imA p137 (r136.1 : Any), stA p2 (r136.2 : T3 Int Script Int), imA p96 (r95.1 : Any), imA p77 ((Any.tup (cutL xs74 none (some (-1)))) : Any), imA (.ref p52) ((y18, x5) : (Int × Str)), imA (.ref p50) (r49 : (Int × Str)), imA (.ref p37) ((Any.tup []) : Any), imA (.ref p20) ((⟨y18, x5, 1 + (r19.1 % 2000), r10.1⟩ : T4 _ _ _ _) : (T4 Int Str Int Any)), lstA p14 ([5, 10 ^ (6 : Int).toNat] : (List Int)), imA p11 (r10.1 : Any), lstA p7 (y8 : (List Str)), lstA p4 (r3.1 : (List Str)), imA (.ref ad_v_law_script) v_law_script, F] : List (Asn G)) := Sep.star (M := []) hS
                            refine ev_to ev_c ?_
                            refine ev_op2 (ev_isnB ev_c ev_c) ?_
                            refine f_bl ?_
                            exact nx _ _ hm (hS.sel [1, 2, 3, 4, 5, 6, 7, 8, 9, 10, 11, 12, 13, 14, 15, 16] (by decide) rfl)
                          ·
                            exact nx _ _ hm (hS.sel [2, 3, 4, 5, 6, 7, 8, 9, 10, 11, 12, 13, 14, 15] (by decide) rfl)
                        ·
                          obtain ⟨hy, hn⟩ := R.wp_if hm
                          refine ifK_2 (fun hb189 => ?_) (fun hb189 => ?_)
                          · have hm := hy hb189
                            refine c_ret ?_
                            refine ev_to ev_c ?_
                            exact hm _ (hS.sel [13] (by decide) rfl)
                          · have hm := hn (by rw [hb189]; decide)
                            refine st_nx ?_
                            refine sq_nx ?_
                            refine c_ret ?_
                            refine c_op ?_
                            refine c_call ?_
                            refine c_cons ?_
                            refine c_op ?_
                            refine c_fz ?_
                            refine c_lst ?_
                            obtain ⟨h190, hm⟩ := R.wp_need hm
                            obtain ⟨h191, hm⟩ := R.wp_need hm
                            obtain ⟨h192, hm⟩ := R.wp_need hm
                            refine ea_to (ea_cons ev_c (ea_cons (ev_repS (ev_var rfl) ev_c h190) (ea_cons (ev_catS (ev_var rfl) ev_c h191) (ea_cons (ev_m0 (ev_var rfl) fun _ q => ⟨_, rfl, rfl, h192, q⟩) (ea_cons ev_c (ea_cons ev_c (ea_cons ev_c ea_nil))))))) ?_
                            refine k_lst (α := Any) (vs := [(.str (("" : Str))), (.str (repS x5 (9 : Int).toNat)), (.str (x5 ++ ("1" : Str))), (.str (Txt.upper x5)), .non, (.int (5)), (.str (("a b" : Str)))]) (xs := [(Any.str ("" : Str)), (Any.str (repS x5 (9 : Int).toNat)), (Any.str (x5 ++ ("1" : Str))), (Any.str (Txt.upper x5)), Any.non, (Any.int 5), (Any.str ("a b" : Str))]) hS ⟨(any_str.mpr rfl), ⟨(any_str.mpr rfl), ⟨(any_str.mpr rfl), ⟨(any_str.mpr rfl), ⟨(any_non.mpr rfl), ⟨(any_int.mpr rfl), ⟨(any_str.mpr rfl), True.intro⟩⟩⟩⟩⟩⟩⟩ (by show 7 ≤ sizeLine; decide) fun p193 H hS => ?_
                            refine fz_no ?_
                            refine c_op ?_
                            refine c_call ?_
                            refine ea_to (ea_cons (ev_var rfl) ea_nil) ?_
                            refine ⟨p2, (r136.2 : (T3 Int Script Int)), star [lstA p193 ([(Any.str ("" : Str)), (Any.str (repS x5 (9 : Int).toNat)), (Any.str (x5 ++ ("1" : Str))), (Any.str (Txt.upper x5)), Any.non, (Any.int 5), (Any.str ("a b" : Str))] : (List Any)), imA p137 (r136.1 : Any), imA p96 (r95.1 : Any), imA p77 ((Any.tup (cutL xs74 none (some (-1)))) : Any), imA (.ref p52) ((y18, x5) : (Int × Str)), imA (.ref p50) (r49 : (Int × Str)), imA (.ref p37) ((Any.tup []) : Any), imA (.ref p20) ((⟨y18, x5, 1 + (r19.1 % 2000), r10.1⟩ : T4 _ _ _ _) : (T4 Int Str Int Any)), lstA p14 ([5, 10 ^ (6 : Int).toNat] : (List Int)), imA p11 (r10.1 : Any), lstA p7 (y8 : (List Str)), lstA p4 (r3.1 : (List Str)), imA (.ref ad_v_law_script) v_law_script, F], rfl, Sep.unstar (M := [stA p2 (r136.2 : T3 Int Script Int)]) (hS.sel [2, 0, 1, 3, 4, 5, 6, 7, 8, 9, 10, 11, 12, 13, 14] (by decide) rfl : Sep H (([stA p2 (r136.2 : T3 Int Script Int)] ++ [lstA p193 ([(Any.str ("" : Str)), (Any.str (repS x5 (9 : Int).toNat)), (Any.str (x5 ++ ("1" : Str))), (Any.str (Txt.upper x5)), Any.non, (Any.int 5), (Any.str ("a b" : Str))] : (List Any)), imA p137 (r136.1 : Any), imA p96 (r95.1 : Any), imA p77 ((Any.tup (cutL xs74 none (some (-1)))) : Any), imA (.ref p52) ((y18, x5) : (Int × Str)), imA (.ref p50) (r49 : (Int × Str)), imA (.ref p37) ((Any.tup []) : Any), imA (.ref p20) ((⟨y18, x5, 1 + (r19.1 % 2000), r10.1⟩ : T4 _ _ _ _) : (T4 Int Str Int Any)), lstA p14 ([5, 10 ^ (6 : Int).toNat] : (List Int)), imA p11 (r10.1 : Any), lstA p7 (y8 : (List Str)), lstA p4 (r3.1 : (List Str)), imA (.ref ad_v_law_script) v_law_script, F] : List (Asn G)))), R.wp_mono (R.wp_bind hm) (fun r194 hm H hS => ?_) (fun _ z => z)⟩
                            have hS : Sep H ([stA p2 (r194.2 : T3 Int Script Int), lstA p193 ([(Any.str ("" : Str)), (Any.str (repS x5 (9 : Int).toNat)), (Any.str (x5 ++ ("1" : Str))), (Any.str (Txt.upper x5)), Any.non, (Any.int 5), (Any.str ("a b" : Str))] : (List Any)), imA p137 (r136.1 : Any), imA p96 (r95.1 : Any), imA p77 ((Any.tup (cutL xs74 none (some (-1)))) : Any), imA (.ref p52) ((y18, x5) : (Int × Str)), imA (.ref p50) (r49 : (Int × Str)), imA (.ref p37) ((Any.tup []) : Any), imA (.ref p20) ((⟨y18, x5, 1 + (r19.1 % 2000), r10.1⟩ : T4 _ _ _ _) : (T4 Int Str Int Any)), lstA p14 ([5, 10 ^ (6 : Int).toNat] : (List Int)), imA p11 (r10.1 : Any), lstA p7 (y8 : (List Str)), lstA p4 (r3.1 : (List Str)), imA (.ref ad_v_law_script) v_law_script, F] : List (Asn G)) := Sep.star (M := [stA p2 (r194.2 : T3 Int Script Int)]) hS
                            refine ev_to ev_c ?_
                            refine r_mod (by decide) ?_
                            obtain ⟨x195, hx195, hm⟩ := wp_idx hm
                            obtain ⟨vs196, hq197, hM198⟩ := hS.sq (i := 1) rfl
                            obtain ⟨u199, hu200, hi201⟩ := atI_im hM198 hx195
                            refine r_ixSq hq197 hu200 _ ?_
                            have hS := hS.addIm (v := u199) (x := (x195 : Any)) hi201
                            refine c_nil ?_
                            refine ⟨u199, (x195 : Any), star [imA u199 (x195 : Any), stA p2 (r194.2 : T3 Int Script Int), lstA p193 ([(Any.str ("" : Str)), (Any.str (repS x5 (9 : Int).toNat)), (Any.str (x5 ++ ("1" : Str))), (Any.str (Txt.upper x5)), Any.non, (Any.int 5), (Any.str ("a b" : Str))] : (List Any)), imA p137 (r136.1 : Any), imA p96 (r95.1 : Any), imA p77 ((Any.tup (cutL xs74 none (some (-1)))) : Any), imA (.ref p52) ((y18, x5) : (Int × Str)), imA (.ref p50) (r49 : (Int × Str)), imA (.ref p37) ((Any.tup []) : Any), imA (.ref p20) ((⟨y18, x5, 1 + (r19.1 % 2000), r10.1⟩ : T4 _ _ _ _) : (T4 Int Str Int Any)), lstA p14 ([5, 10 ^ (6 : Int).toNat] : (List Int)), imA p11 (r10.1 : Any), lstA p7 (y8 : (List Str)), lstA p4 (r3.1 : (List Str)), imA (.ref ad_v_law_script) v_law_script, F], rfl, (hS.im (i := 0) rfl), Sep.unstar (M := []) (hS.sel [0, 1, 2, 3, 4, 5, 6, 7, 8, 9, 10, 11, 12, 13, 14, 15] (by decide) rfl : Sep H (([] ++ [imA u199 (x195 : Any), stA p2 (r194.2 : T3 Int Script Int), lstA p193 ([(Any.str ("" : Str)), (Any.str (repS x5 (9 : Int).toNat)), (Any.str (x5 ++ ("1" : Str))), (Any.str (Txt.upper x5)), Any.non, (Any.int 5), (Any.str ("a b" : Str))] : (List Any)), imA p137 (r136.1 : Any), imA p96 (r95.1 : Any), imA p77 ((Any.tup (cutL xs74 none (some (-1)))) : Any), imA (.ref p52) ((y18, x5) : (Int × Str)), imA (.ref p50) (r49 : (Int × Str)), imA (.ref p37) ((Any.tup []) : Any), imA (.ref p20) ((⟨y18, x5, 1 + (r19.1 % 2000), r10.1⟩ : T4 _ _ _ _) : (T4 Int Str Int Any)), lstA p14 ([5, 10 ^ (6 : Int).toNat] : (List Int)), imA p11 (r10.1 : Any), lstA p7 (y8 : (List Str)), lstA p4 (r3.1 : (List Str)), imA (.ref ad_v_law_script) v_law_script, F] : List (Asn G)))), R.wp_mono (R.wp_bind hm) (fun r203 hm H hS => ?_) (fun _ z => z)⟩
                            have hS : Sep H ([imA u199 (x195 : Any), stA p2 (r194.2 : T3 Int Script Int), lstA p193 ([(Any.str ("" : Str)), (Any.str (repS x5 (9 : Int).toNat)), (Any.str (x5 ++ ("1" : Str))), (Any.str (Txt.upper x5)), Any.non, (Any.int 5), (Any.str ("a b" : Str))] : (List Any)), imA p137 (r136.1 : Any), imA p96 (r95.1 : Any), imA p77 ((Any.tup (cutL xs74 none (some (-1)))) : Any), imA (.ref p52) ((y18, x5) : (Int × Str)), imA (.ref p50) (r49 : (Int × Str)), imA (.ref p37) ((Any.tup []) : Any), imA (.ref p20) ((⟨y18, x5, 1 + (r19.1 % 2000), r10.1⟩ : T4 _ _ _ _) : (T4 Int Str Int Any)), lstA p14 ([5, 10 ^ (6 : Int).toNat] : (List Int)), imA p11 (r10.1 : Any), lstA p7 (y8 : (List Str)), lstA p4 (r3.1 : (List Str)), imA (.ref ad_v_law_script) v_law_script, F] : List (Asn G)) := Sep.star (M := []) hS
                            refine ev_to ev_c ?_
                            refine ev_op2 (ev_isB ev_c ev_c) ?_
                            exact hm _ (hS.sel [15] (by decide) rfl)
end
end Lw

namespace Lw
open PySem PySem.Spec PyProof.Rows L2 Ml
def sp_top (K : PySem.W.Frag) : Sp := fun vs H Q E => ∃ (a : Addr) (ns : List Int), vs = [.ref a] ∧ SqL K H a (ns.map V.int) ∧ Only H ∧ ns.length ≤ 63 ∧ ∀ H', Q (.bl true) H'
theorem all_mk {l : PySem.W.OpenLaw} {w : World} {K : PySem.W.Frag} {h : Heap} {mg : Str → Option Value} {fa : Addr} (X : K.In h) (H : h.Ns mainGlobals mg) (hfa : mg "law" = some (.ref fa))
    {c0 : Addr}
    {c1 : Addr}
    {c2 : Addr}
    {f0 : Addr} {od0 an0 : Option Addr} {sl0 : Array (Option Value)} {oc0 kV0 dc0 pm0 cd0 ct0 : Value}
    {f1 : Addr} {od1 an1 : Option Addr} {sl1 : Array (Option Value)} {oc1 kV1 dc1 pm1 cd1 ct1 : Value}
    {f2 : Addr} {od2 an2 : Option Addr} {sl2 : Array (Option Value)} {oc2 kV2 dc2 pm2 cd2 ct2 : Value}
    {f3 : Addr} {od3 an3 : Option Addr} {sl3 : Array (Option Value)} {oc3 kV3 dc3 pm3 cd3 ct3 : Value}
    {f4 : Addr} {od4 an4 : Option Addr} {sl4 : Array (Option Value)} {oc4 kV4 dc4 pm4 cd4 ct4 : Value}
    {T4 : Addr} {Tn4 : Nat}
    {Tk4_0 : Tok}
    {To4c : Value} {To4d : Option Addr} {To4s : Array (Option Value)}
    {f5 : Addr} {od5 an5 : Option Addr} {sl5 : Array (Option Value)} {oc5 kV5 dc5 pm5 cd5 ct5 : Value}
    {f6 : Addr} {od6 an6 : Option Addr} {sl6 : Array (Option Value)} {oc6 kV6 dc6 pm6 cd6 ct6 : Value}
    {f7 : Addr} {od7 an7 : Option Addr} {sl7 : Array (Option Value)} {oc7 kV7 dc7 pm7 cd7 ct7 : Value}
    {f8 : Addr} {od8 an8 : Option Addr} {sl8 : Array (Option Value)} {oc8 kV8 dc8 pm8 cd8 ct8 : Value}
    {f9 : Addr} {od9 an9 : Option Addr} {sl9 : Array (Option Value)} {oc9 kV9 dc9 pm9 cd9 ct9 : Value}
    {f10 : Addr} {od10 an10 : Option Addr} {sl10 : Array (Option Value)} {oc10 kV10 dc10 pm10 cd10 ct10 : Value}
    {f11 : Addr} {od11 an11 : Option Addr} {sl11 : Array (Option Value)} {oc11 kV11 dc11 pm11 cd11 ct11 : Value}
    {f12 : Addr} {od12 an12 : Option Addr} {sl12 : Array (Option Value)} {oc12 kV12 dc12 pm12 cd12 ct12 : Value}
    {f13 : Addr} {od13 an13 : Option Addr} {sl13 : Array (Option Value)} {oc13 kV13 dc13 pm13 cd13 ct13 : Value}
    {f14 : Addr} {od14 an14 : Option Addr} {sl14 : Array (Option Value)} {oc14 kV14 dc14 pm14 cd14 ct14 : Value}
    {f15 : Addr} {od15 an15 : Option Addr} {sl15 : Array (Option Value)} {oc15 kV15 dc15 pm15 cd15 ct15 : Value}
    {f16 : Addr} {od16 an16 : Option Addr} {sl16 : Array (Option Value)} {oc16 kV16 dc16 pm16 cd16 ct16 : Value}
    {f17 : Addr} {od17 an17 : Option Addr} {sl17 : Array (Option Value)} {oc17 kV17 dc17 pm17 cd17 ct17 : Value}
    {f18 : Addr} {od18 an18 : Option Addr} {sl18 : Array (Option Value)} {oc18 kV18 dc18 pm18 cd18 ct18 : Value}
    {f19 : Addr} {od19 an19 : Option Addr} {sl19 : Array (Option Value)} {oc19 kV19 dc19 pm19 cd19 ct19 : Value}
    {f20 : Addr} {od20 an20 : Option Addr} {sl20 : Array (Option Value)} {oc20 kV20 dc20 pm20 cd20 ct20 : Value}
    {f21 : Addr} {od21 an21 : Option Addr} {sl21 : Array (Option Value)} {oc21 kV21 dc21 pm21 cd21 ct21 : Value}
    {f22 : Addr} {od22 an22 : Option Addr} {sl22 : Array (Option Value)} {oc22 kV22 dc22 pm22 cd22 ct22 : Value}
    {f23 : Addr} {od23 an23 : Option Addr} {sl23 : Array (Option Value)} {oc23 kV23 dc23 pm23 cd23 ct23 : Value}
    {f24 : Addr} {od24 an24 : Option Addr} {sl24 : Array (Option Value)} {oc24 kV24 dc24 pm24 cd24 ct24 : Value}
    {t_FIGURES : Tok}
    {t_MOST_BODY : Tok}
    {t_MOST_DAY : Tok}
    {t_MOST_HAND : Tok}
    {t_MOST_SIGNS : Tok}
    {t_MOST_TITLE : Tok}
    {t_SMALL : Tok}
    (ac0 : PySem.W.nsIn K mainGlobals "MailError" = some (some (.ref c0)))
    (ac1 : PySem.W.nsIn K mainGlobals "NoLetter" = some (some (.ref c1)))
    (ac2 : PySem.W.nsIn K mainGlobals "Letter" = some (some (.ref c2)))
    (a0 : PySem.W.nsIn K mainGlobals "is_sign" = some (some (.ref f0)))
    (l0 : K.lookup f0 = some ⟨oc0, od0, .func (PySem.W.fnOf "is_sign" "is_sign" (defArgs s_is_sign) (defBody s_is_sign) (defScope s_is_sign) .none kV0 dc0 pm0 an0 cd0 ct0), sl0⟩)
    (cc0 : PySem.W.codeIn K cd0 "is_sign" = true)
    (k0 : PySem.W.keepIn K (.ref f0) = true)
    (a1 : PySem.W.nsIn K mainGlobals "is_word" = some (some (.ref f1)))
    (l1 : K.lookup f1 = some ⟨oc1, od1, .func (PySem.W.fnOf "is_word" "is_word" (defArgs s_is_word) (defBody s_is_word) (defScope s_is_word) .none kV1 dc1 pm1 an1 cd1 ct1), sl1⟩)
    (cc1 : PySem.W.codeIn K cd1 "is_word" = true)
    (k1 : PySem.W.keepIn K (.ref f1) = true)
    (a2 : PySem.W.nsIn K mainGlobals "is_text" = some (some (.ref f2)))
    (l2 : K.lookup f2 = some ⟨oc2, od2, .func (PySem.W.fnOf "is_text" "is_text" (defArgs s_is_text) (defBody s_is_text) (defScope s_is_text) .none kV2 dc2 pm2 an2 cd2 ct2), sl2⟩)
    (cc2 : PySem.W.codeIn K cd2 "is_text" = true)
    (k2 : PySem.W.keepIn K (.ref f2) = true)
    (a3 : PySem.W.nsIn K mainGlobals "is_day" = some (some (.ref f3)))
    (l3 : K.lookup f3 = some ⟨oc3, od3, .func (PySem.W.fnOf "is_day" "is_day" (defArgs s_is_day) (defBody s_is_day) (defScope s_is_day) .none kV3 dc3 pm3 an3 cd3 ct3), sl3⟩)
    (cc3 : PySem.W.codeIn K cd3 "is_day" = true)
    (k3 : PySem.W.keepIn K (.ref f3) = true)
    (a4 : PySem.W.findIn K (.ref c2) "__init__" = some (some (.ref f4)))
    (i4 : PySem.W.isFn K (.ref f4) = true)
    (l4 : K.lookup f4 = some ⟨oc4, od4, .func (PySem.W.fnOf "__init__" "Letter.__init__" (defArgs s_Letter___init__) (defBody s_Letter___init__) (defScope s_Letter___init__) (.ref T4) kV4 dc4 pm4 an4 cd4 ct4), sl4⟩)
    (cc4 : PySem.W.codeIn K cd4 "Letter.__init__" = true)
    (k4 : PySem.W.keepIn K (.ref f4) = true)
    (T4l : K.lookup T4 = some ⟨To4c, To4d, .seq #[.str ("" : Str) Tk4_0] Tn4, To4s⟩)
    (mk2 : PySem.W.makesIn K c2 = true)
    (kc2 : PySem.W.keepIn K (.ref c2) = true)
    (a5 : PySem.W.findIn K (.ref c2) "parts" = some (some (.ref f5)))
    (i5 : PySem.W.isFn K (.ref f5) = true)
    (l5 : K.lookup f5 = some ⟨oc5, od5, .func (PySem.W.fnOf "parts" "Letter.parts" (defArgs s_Letter_parts) (defBody s_Letter_parts) (defScope s_Letter_parts) .none kV5 dc5 pm5 an5 cd5 ct5), sl5⟩)
    (cc5 : PySem.W.codeIn K cd5 "Letter.parts" = true)
    (k5 : PySem.W.keepIn K (.ref f5) = true)
    (a6 : PySem.W.nsIn K mainGlobals "letter_of" = some (some (.ref f6)))
    (l6 : K.lookup f6 = some ⟨oc6, od6, .func (PySem.W.fnOf "letter_of" "letter_of" (defArgs s_letter_of) (defBody s_letter_of) (defScope s_letter_of) .none kV6 dc6 pm6 an6 cd6 ct6), sl6⟩)
    (cc6 : PySem.W.codeIn K cd6 "letter_of" = true)
    (k6 : PySem.W.keepIn K (.ref f6) = true)
    (a7 : PySem.W.nsIn K mainGlobals "is_count" = some (some (.ref f7)))
    (l7 : K.lookup f7 = some ⟨oc7, od7, .func (PySem.W.fnOf "is_count" "is_count" (defArgs s_is_count) (defBody s_is_count) (defScope s_is_count) .none kV7 dc7 pm7 an7 cd7 ct7), sl7⟩)
    (cc7 : PySem.W.codeIn K cd7 "is_count" = true)
    (k7 : PySem.W.keepIn K (.ref f7) = true)
    (a8 : PySem.W.nsIn K mainGlobals "is_hand" = some (some (.ref f8)))
    (l8 : K.lookup f8 = some ⟨oc8, od8, .func (PySem.W.fnOf "is_hand" "is_hand" (defArgs s_is_hand) (defBody s_is_hand) (defScope s_is_hand) .none kV8 dc8 pm8 an8 cd8 ct8), sl8⟩)
    (cc8 : PySem.W.codeIn K cd8 "is_hand" = true)
    (k8 : PySem.W.keepIn K (.ref f8) = true)
    (a9 : PySem.W.nsIn K mainGlobals "is_parts" = some (some (.ref f9)))
    (l9 : K.lookup f9 = some ⟨oc9, od9, .func (PySem.W.fnOf "is_parts" "is_parts" (defArgs s_is_parts) (defBody s_is_parts) (defScope s_is_parts) .none kV9 dc9 pm9 an9 cd9 ct9), sl9⟩)
    (cc9 : PySem.W.codeIn K cd9 "is_parts" = true)
    (k9 : PySem.W.keepIn K (.ref f9) = true)
    (a10 : PySem.W.nsIn K mainGlobals "is_deed" = some (some (.ref f10)))
    (l10 : K.lookup f10 = some ⟨oc10, od10, .func (PySem.W.fnOf "is_deed" "is_deed" (defArgs s_is_deed) (defBody s_is_deed) (defScope s_is_deed) .none kV10 dc10 pm10 an10 cd10 ct10), sl10⟩)
    (cc10 : PySem.W.codeIn K cd10 "is_deed" = true)
    (k10 : PySem.W.keepIn K (.ref f10) = true)
    (a11 : PySem.W.nsIn K mainGlobals "is_stamped" = some (some (.ref f11)))
    (l11 : K.lookup f11 = some ⟨oc11, od11, .func (PySem.W.fnOf "is_stamped" "is_stamped" (defArgs s_is_stamped) (defBody s_is_stamped) (defScope s_is_stamped) .none kV11 dc11 pm11 an11 cd11 ct11), sl11⟩)
    (cc11 : PySem.W.codeIn K cd11 "is_stamped" = true)
    (k11 : PySem.W.keepIn K (.ref f11) = true)
    (a12 : PySem.W.nsIn K mainGlobals "stamp_of" = some (some (.ref f12)))
    (l12 : K.lookup f12 = some ⟨oc12, od12, .func (PySem.W.fnOf "stamp_of" "stamp_of" (defArgs s_stamp_of) (defBody s_stamp_of) (defScope s_stamp_of) .none kV12 dc12 pm12 an12 cd12 ct12), sl12⟩)
    (cc12 : PySem.W.codeIn K cd12 "stamp_of" = true)
    (k12 : PySem.W.keepIn K (.ref f12) = true)
    (a13 : PySem.W.nsIn K mainGlobals "_law_begin" = some (some (.ref f13)))
    (l13 : K.lookup f13 = some ⟨oc13, od13, .func (PySem.W.fnOf "_law_begin" "_law_begin" (defArgs s_law_begin) (defBody s_law_begin) (defScope s_law_begin) .none kV13 dc13 pm13 an13 cd13 ct13), sl13⟩)
    (cc13 : PySem.W.codeIn K cd13 "_law_begin" = true)
    (k13 : PySem.W.keepIn K (.ref f13) = true)
    (a14 : PySem.W.nsIn K mainGlobals "_law_next" = some (some (.ref f14)))
    (l14 : K.lookup f14 = some ⟨oc14, od14, .func (PySem.W.fnOf "_law_next" "_law_next" (defArgs s_law_next) (defBody s_law_next) (defScope s_law_next) .none kV14 dc14 pm14 an14 cd14 ct14), sl14⟩)
    (cc14 : PySem.W.codeIn K cd14 "_law_next" = true)
    (k14 : PySem.W.keepIn K (.ref f14) = true)
    (a15 : PySem.W.nsIn K mainGlobals "_law_word" = some (some (.ref f15)))
    (l15 : K.lookup f15 = some ⟨oc15, od15, .func (PySem.W.fnOf "_law_word" "_law_word" (defArgs s_law_word) (defBody s_law_word) (defScope s_law_word) .none kV15 dc15 pm15 an15 cd15 ct15), sl15⟩)
    (cc15 : PySem.W.codeIn K cd15 "_law_word" = true)
    (k15 : PySem.W.keepIn K (.ref f15) = true)
    (a16 : PySem.W.nsIn K mainGlobals "_law_any_word" = some (some (.ref f16)))
    (l16 : K.lookup f16 = some ⟨oc16, od16, .func (PySem.W.fnOf "_law_any_word" "_law_any_word" (defArgs s_law_any_word) (defBody s_law_any_word) (defScope s_law_any_word) .none kV16 dc16 pm16 an16 cd16 ct16), sl16⟩)
    (cc16 : PySem.W.codeIn K cd16 "_law_any_word" = true)
    (k16 : PySem.W.keepIn K (.ref f16) = true)
    (a17 : PySem.W.nsIn K mainGlobals "_law_hands" = some (some (.ref f17)))
    (l17 : K.lookup f17 = some ⟨oc17, od17, .func (PySem.W.fnOf "_law_hands" "_law_hands" (defArgs s_law_hands) (defBody s_law_hands) (defScope s_law_hands) .none kV17 dc17 pm17 an17 cd17 ct17), sl17⟩)
    (cc17 : PySem.W.codeIn K cd17 "_law_hands" = true)
    (k17 : PySem.W.keepIn K (.ref f17) = true)
    (a18 : PySem.W.nsIn K mainGlobals "_law_parts" = some (some (.ref f18)))
    (l18 : K.lookup f18 = some ⟨oc18, od18, .func (PySem.W.fnOf "_law_parts" "_law_parts" (defArgs s_law_parts) (defBody s_law_parts) (defScope s_law_parts) .none kV18 dc18 pm18 an18 cd18 ct18), sl18⟩)
    (cc18 : PySem.W.codeIn K cd18 "_law_parts" = true)
    (k18 : PySem.W.keepIn K (.ref f18) = true)
    (a19 : PySem.W.nsIn K mainGlobals "_law_deed" = some (some (.ref f19)))
    (l19 : K.lookup f19 = some ⟨oc19, od19, .func (PySem.W.fnOf "_law_deed" "_law_deed" (defArgs s_law_deed) (defBody s_law_deed) (defScope s_law_deed) .none kV19 dc19 pm19 an19 cd19 ct19), sl19⟩)
    (cc19 : PySem.W.codeIn K cd19 "_law_deed" = true)
    (k19 : PySem.W.keepIn K (.ref f19) = true)
    (a20 : PySem.W.nsIn K mainGlobals "_law_no_word" = some (some (.ref f20)))
    (l20 : K.lookup f20 = some ⟨oc20, od20, .func (PySem.W.fnOf "_law_no_word" "_law_no_word" (defArgs s_law_no_word) (defBody s_law_no_word) (defScope s_law_no_word) .none kV20 dc20 pm20 an20 cd20 ct20), sl20⟩)
    (cc20 : PySem.W.codeIn K cd20 "_law_no_word" = true)
    (k20 : PySem.W.keepIn K (.ref f20) = true)
    (a21 : PySem.W.nsIn K mainGlobals "_law_no_parts" = some (some (.ref f21)))
    (l21 : K.lookup f21 = some ⟨oc21, od21, .func (PySem.W.fnOf "_law_no_parts" "_law_no_parts" (defArgs s_law_no_parts) (defBody s_law_no_parts) (defScope s_law_no_parts) .none kV21 dc21 pm21 an21 cd21 ct21), sl21⟩)
    (cc21 : PySem.W.codeIn K cd21 "_law_no_parts" = true)
    (k21 : PySem.W.keepIn K (.ref f21) = true)
    (a22 : PySem.W.nsIn K mainGlobals "_law_no_deed" = some (some (.ref f22)))
    (l22 : K.lookup f22 = some ⟨oc22, od22, .func (PySem.W.fnOf "_law_no_deed" "_law_no_deed" (defArgs s_law_no_deed) (defBody s_law_no_deed) (defScope s_law_no_deed) .none kV22 dc22 pm22 an22 cd22 ct22), sl22⟩)
    (cc22 : PySem.W.codeIn K cd22 "_law_no_deed" = true)
    (k22 : PySem.W.keepIn K (.ref f22) = true)
    (a23 : PySem.W.nsIn K mainGlobals "_law_no_stamped" = some (some (.ref f23)))
    (l23 : K.lookup f23 = some ⟨oc23, od23, .func (PySem.W.fnOf "_law_no_stamped" "_law_no_stamped" (defArgs s_law_no_stamped) (defBody s_law_no_stamped) (defScope s_law_no_stamped) .none kV23 dc23 pm23 an23 cd23 ct23), sl23⟩)
    (cc23 : PySem.W.codeIn K cd23 "_law_no_stamped" = true)
    (k23 : PySem.W.keepIn K (.ref f23) = true)
    (a24 : PySem.W.nsIn K mainGlobals "law" = some (some (.ref f24)))
    (l24 : K.lookup f24 = some ⟨oc24, od24, .func (PySem.W.fnOf "law" "law" (defArgs s_law) (defBody s_law) (defScope s_law) .none kV24 dc24 pm24 an24 cd24 ct24), sl24⟩)
    (cc24 : PySem.W.codeIn K cd24 "law" = true)
    (k24 : PySem.W.keepIn K (.ref f24) = true)
    (xE1 : PySem.W.excIn K c1 [.type "ValueError", .type "Exception", .type "BaseException", .type "object"] "ValueError.__new__" = true)
    (kE1 : PySem.W.keepIn K (.ref c1) = true)
    (bE1 : PySem.W.subIn K (.ref c1) (.type "BaseException") = some true)
    (tE1 : PySem.W.typeIn K (.ref c1) = some (.type "type"))
    (hE1 : PySem.W.hasDictIn K c1 = true)
    (s0_1 : PySem.W.subIn K (.ref c0) (.ref c1) = some false)
    (s1_1 : PySem.W.subIn K (.ref c1) (.ref c1) = some true)
    (pg2 : PySem.W.plainGet K c2 Str.empty = true)
    (hd2 : PySem.W.hasDictIn K c2 = true)
    (po2 : PySem.W.plainOver K c2 = true)
    (sa2 : PySem.W.findIn K (.ref c2) "__setattr__" = some (some (.builtin "object.__setattr__")))
    (nf2_0 : PySem.W.findIn K (.ref c2) "sender" = some none)
    (nf2_1 : PySem.W.findIn K (.ref c2) "title" = some none)
    (nf2_2 : PySem.W.findIn K (.ref c2) "body" = some none)
    (nf2_3 : PySem.W.findIn K (.ref c2) "day" = some none)
    (nf2_4 : PySem.W.findIn K (.ref c2) "answers" = some none)
    (z_all : PySem.W.nsIn K mainGlobals "all" = some none)
    (z_bool : PySem.W.nsIn K mainGlobals "bool" = some none)
    (z_int : PySem.W.nsIn K mainGlobals "int" = some none)
    (z_isinstance : PySem.W.nsIn K mainGlobals "isinstance" = some none)
    (z_len : PySem.W.nsIn K mainGlobals "len" = some none)
    (z_list : PySem.W.nsIn K mainGlobals "list" = some none)
    (z_range : PySem.W.nsIn K mainGlobals "range" = some none)
    (z_str : PySem.W.nsIn K mainGlobals "str" = some none)
    (z_tuple : PySem.W.nsIn K mainGlobals "tuple" = some none)
    (v_FIGURES : PySem.W.nsIn K mainGlobals "FIGURES" = some (some (.str ("0123456789" : Str) t_FIGURES)))
    (v_MOST_BODY : PySem.W.nsIn K mainGlobals "MOST_BODY" = some (some (.int 400 t_MOST_BODY)))
    (v_MOST_DAY : PySem.W.nsIn K mainGlobals "MOST_DAY" = some (some (.int 9999 t_MOST_DAY)))
    (v_MOST_HAND : PySem.W.nsIn K mainGlobals "MOST_HAND" = some (some (.int 8 t_MOST_HAND)))
    (v_MOST_SIGNS : PySem.W.nsIn K mainGlobals "MOST_SIGNS" = some (some (.int 20 t_MOST_SIGNS)))
    (v_MOST_TITLE : PySem.W.nsIn K mainGlobals "MOST_TITLE" = some (some (.int 60 t_MOST_TITLE)))
    (v_SMALL : PySem.W.nsIn K mainGlobals "SMALL" = some (some (.str ("abcdefghijklmnopqrstuvwxyz" : Str) t_SMALL)))
    : ∃ fd : FuncData, (∀ (s : Shared) (v : Value), BindsTo s fd ⟨[v], []⟩ [("_law_script", v)]) ∧ ∀ base : Heap, K.In base → base.Ns mainGlobals mg → FnOk l.prog w K mg base CX0 9 fa fd ["_law_script"] (sp_top K) := by
  have e := hfa.symm.trans (PySem.W.mg_of X H a24)
  cases e
  have F0 := fun_mk (st := s_is_sign) l0 cc0 k0
  have b0 := F0.binds (ps := ["sign"]) fun _ _ _ _ _ _ us hl => match us, hl with | [_], _ => rfl
  have F1 := fun_mk (st := s_is_word) l1 cc1 k1
  have b1 := F1.binds (ps := ["thing"]) fun _ _ _ _ _ _ us hl => match us, hl with | [_], _ => rfl
  have F2 := fun_mk (st := s_is_text) l2 cc2 k2
  have b2 := F2.binds (ps := ["thing", "most"]) fun _ _ _ _ _ _ us hl => match us, hl with | [_, _], _ => rfl
  have F3 := fun_mk (st := s_is_day) l3 cc3 k3
  have b3 := F3.binds (ps := ["thing"]) fun _ _ _ _ _ _ us hl => match us, hl with | [_], _ => rfl
  have F4 : FunD K "__init__" "Letter.__init__" (defArgs s_Letter___init__) (defBody s_Letter___init__) (defScope s_Letter___init__) [.str ("" : Str)] [] f4 _ := ⟨⟨oc4, od4, .ref T4, kV4, dc4, pm4, an4, cd4, ct4, sl4, rfl, l4, cc4, .inr ⟨by simp, T4, _, [.str ("" : Str) Tk4_0], Tn4, rfl, T4l, rfl, (Paired.cons ⟨_, rfl⟩ Paired.nil)⟩, .inl rfl⟩, k4⟩
  have b4 : Binds K (PySem.W.fnOf "__init__" "Letter.__init__" (defArgs s_Letter___init__) (defBody s_Letter___init__) (defScope s_Letter___init__) (.ref T4) kV4 dc4 pm4 an4 cd4 ct4) ["self", "sender", "title", "body", "day", "answers"] [] := by
    obtain ⟨ds, hv, hb⟩ := F4.binds1 (ps := ["self", "sender", "title", "body", "day", "answers"]) 6 1 (by simp) rfl (fun _ _ _ _ _ _ _ us its hl hi => match us, its, hl, hi with | [_, _, _, _, _, _], [_], _, _ => ⟨_, rfl, rfl⟩)
    cases hv; exact hb
  have F5 := fun_mk (st := s_Letter_parts) l5 cc5 k5
  have b5 := F5.binds (ps := ["self"]) fun _ _ _ _ _ _ us hl => match us, hl with | [_], _ => rfl
  have F6 := fun_mk (st := s_letter_of) l6 cc6 k6
  have b6 := F6.binds (ps := ["thing"]) fun _ _ _ _ _ _ us hl => match us, hl with | [_], _ => rfl
  have F7 := fun_mk (st := s_is_count) l7 cc7 k7
  have b7 := F7.binds (ps := ["thing"]) fun _ _ _ _ _ _ us hl => match us, hl with | [_], _ => rfl
  have F8 := fun_mk (st := s_is_hand) l8 cc8 k8
  have b8 := F8.binds (ps := ["thing"]) fun _ _ _ _ _ _ us hl => match us, hl with | [_], _ => rfl
  have F9 := fun_mk (st := s_is_parts) l9 cc9 k9
  have b9 := F9.binds (ps := ["thing"]) fun _ _ _ _ _ _ us hl => match us, hl with | [_], _ => rfl
  have F10 := fun_mk (st := s_is_deed) l10 cc10 k10
  have b10 := F10.binds (ps := ["thing"]) fun _ _ _ _ _ _ us hl => match us, hl with | [_], _ => rfl
  have F11 := fun_mk (st := s_is_stamped) l11 cc11 k11
  have b11 := F11.binds (ps := ["thing"]) fun _ _ _ _ _ _ us hl => match us, hl with | [_], _ => rfl
  have F12 := fun_mk (st := s_stamp_of) l12 cc12 k12
  have b12 := F12.binds (ps := ["stamped"]) fun _ _ _ _ _ _ us hl => match us, hl with | [_], _ => rfl
  have F13 := fun_mk (st := s_law_begin) l13 cc13 k13
  have b13 := F13.binds (ps := ["_law_script"]) fun _ _ _ _ _ _ us hl => match us, hl with | [_], _ => rfl
  have F14 := fun_mk (st := s_law_next) l14 cc14 k14
  have b14 := F14.binds (ps := ["_law_state"]) fun _ _ _ _ _ _ us hl => match us, hl with | [_], _ => rfl
  have F15 := fun_mk (st := s_law_word) l15 cc15 k15
  have b15 := F15.binds (ps := ["_law_state", "_law_signs", "_law_most"]) fun _ _ _ _ _ _ us hl => match us, hl with | [_, _, _], _ => rfl
  have F16 := fun_mk (st := s_law_any_word) l16 cc16 k16
  have b16 := F16.binds (ps := ["_law_state"]) fun _ _ _ _ _ _ us hl => match us, hl with | [_], _ => rfl
  have F17 := fun_mk (st := s_law_hands) l17 cc17 k17
  have b17 := F17.binds (ps := ["_law_state", "_law_many"]) fun _ _ _ _ _ _ us hl => match us, hl with | [_, _], _ => rfl
  have F18 := fun_mk (st := s_law_parts) l18 cc18 k18
  have b18 := F18.binds (ps := ["_law_state"]) fun _ _ _ _ _ _ us hl => match us, hl with | [_], _ => rfl
  have F19 := fun_mk (st := s_law_deed) l19 cc19 k19
  have b19 := F19.binds (ps := ["_law_state", "_law_names", "_law_hand", "_law_puts"]) fun _ _ _ _ _ _ us hl => match us, hl with | [_, _, _, _], _ => rfl
  have F20 := fun_mk (st := s_law_no_word) l20 cc20 k20
  have b20 := F20.binds (ps := ["_law_state"]) fun _ _ _ _ _ _ us hl => match us, hl with | [_], _ => rfl
  have F21 := fun_mk (st := s_law_no_parts) l21 cc21 k21
  have b21 := F21.binds (ps := ["_law_state", "_law_parts_here"]) fun _ _ _ _ _ _ us hl => match us, hl with | [_, _], _ => rfl
  have F22 := fun_mk (st := s_law_no_deed) l22 cc22 k22
  have b22 := F22.binds (ps := ["_law_state", "_law_deed_here"]) fun _ _ _ _ _ _ us hl => match us, hl with | [_, _], _ => rfl
  have F23 := fun_mk (st := s_law_no_stamped) l23 cc23 k23
  have b23 := F23.binds (ps := ["_law_state", "_law_stamped"]) fun _ _ _ _ _ _ us hl => match us, hl with | [_, _], _ => rfl
  have F24 := fun_mk (st := s_law) l24 cc24 k24
  have b24 := F24.binds (ps := ["_law_script"]) fun _ _ _ _ _ _ us hl => match us, hl with | [_], _ => rfl
  let G : Gx := ⟨K, fun a => if a = c2 then some 5 else none, fun i => ([c0, c1, c2] : List Addr).getD i 0⟩
  have hfz2 : G.fz (G.cl 2) = some 5 := by show (if c2 = c2 then some 5 else none) = some 5; rw [if_pos rfl]
  let T : Txt G mg := {
    a_is_sign := f0,
    fd_is_sign := _,
    F_is_sign := F0,
    b_is_sign := b0,
    kp_is_sign := k0,
    g_is_sign := PySem.W.mg_of X H a0,
    a_is_word := f1,
    fd_is_word := _,
    F_is_word := F1,
    b_is_word := b1,
    kp_is_word := k1,
    g_is_word := PySem.W.mg_of X H a1,
    a_is_text := f2,
    fd_is_text := _,
    F_is_text := F2,
    b_is_text := b2,
    kp_is_text := k2,
    g_is_text := PySem.W.mg_of X H a2,
    a_is_day := f3,
    fd_is_day := _,
    F_is_day := F3,
    b_is_day := b3,
    kp_is_day := k3,
    g_is_day := PySem.W.mg_of X H a3,
    a_Letter___init__ := f4,
    fd_Letter___init__ := _,
    F_Letter___init__ := F4,
    b_Letter___init__ := b4,
    kp_Letter___init__ := k4,
    k_Letter := ⟨mk2, a4, i4, kc2⟩,
    a_Letter_parts := f5,
    fd_Letter_parts := _,
    F_Letter_parts := F5,
    b_Letter_parts := b5,
    kp_Letter_parts := k5,
    m_Letter_parts := ⟨a5, i5, k5⟩,
    a_letter_of := f6,
    fd_letter_of := _,
    F_letter_of := F6,
    b_letter_of := b6,
    kp_letter_of := k6,
    g_letter_of := PySem.W.mg_of X H a6,
    a_is_count := f7,
    fd_is_count := _,
    F_is_count := F7,
    b_is_count := b7,
    kp_is_count := k7,
    g_is_count := PySem.W.mg_of X H a7,
    a_is_hand := f8,
    fd_is_hand := _,
    F_is_hand := F8,
    b_is_hand := b8,
    kp_is_hand := k8,
    g_is_hand := PySem.W.mg_of X H a8,
    a_is_parts := f9,
    fd_is_parts := _,
    F_is_parts := F9,
    b_is_parts := b9,
    kp_is_parts := k9,
    g_is_parts := PySem.W.mg_of X H a9,
    a_is_deed := f10,
    fd_is_deed := _,
    F_is_deed := F10,
    b_is_deed := b10,
    kp_is_deed := k10,
    g_is_deed := PySem.W.mg_of X H a10,
    a_is_stamped := f11,
    fd_is_stamped := _,
    F_is_stamped := F11,
    b_is_stamped := b11,
    kp_is_stamped := k11,
    g_is_stamped := PySem.W.mg_of X H a11,
    a_stamp_of := f12,
    fd_stamp_of := _,
    F_stamp_of := F12,
    b_stamp_of := b12,
    kp_stamp_of := k12,
    g_stamp_of := PySem.W.mg_of X H a12,
    a_law_begin := f13,
    fd_law_begin := _,
    F_law_begin := F13,
    b_law_begin := b13,
    kp_law_begin := k13,
    g_law_begin := PySem.W.mg_of X H a13,
    a_law_next := f14,
    fd_law_next := _,
    F_law_next := F14,
    b_law_next := b14,
    kp_law_next := k14,
    g_law_next := PySem.W.mg_of X H a14,
    a_law_word := f15,
    fd_law_word := _,
    F_law_word := F15,
    b_law_word := b15,
    kp_law_word := k15,
    g_law_word := PySem.W.mg_of X H a15,
    a_law_any_word := f16,
    fd_law_any_word := _,
    F_law_any_word := F16,
    b_law_any_word := b16,
    kp_law_any_word := k16,
    g_law_any_word := PySem.W.mg_of X H a16,
    a_law_hands := f17,
    fd_law_hands := _,
    F_law_hands := F17,
    b_law_hands := b17,
    kp_law_hands := k17,
    g_law_hands := PySem.W.mg_of X H a17,
    a_law_parts := f18,
    fd_law_parts := _,
    F_law_parts := F18,
    b_law_parts := b18,
    kp_law_parts := k18,
    g_law_parts := PySem.W.mg_of X H a18,
    a_law_deed := f19,
    fd_law_deed := _,
    F_law_deed := F19,
    b_law_deed := b19,
    kp_law_deed := k19,
    g_law_deed := PySem.W.mg_of X H a19,
    a_law_no_word := f20,
    fd_law_no_word := _,
    F_law_no_word := F20,
    b_law_no_word := b20,
    kp_law_no_word := k20,
    g_law_no_word := PySem.W.mg_of X H a20,
    a_law_no_parts := f21,
    fd_law_no_parts := _,
    F_law_no_parts := F21,
    b_law_no_parts := b21,
    kp_law_no_parts := k21,
    g_law_no_parts := PySem.W.mg_of X H a21,
    a_law_no_deed := f22,
    fd_law_no_deed := _,
    F_law_no_deed := F22,
    b_law_no_deed := b22,
    kp_law_no_deed := k22,
    g_law_no_deed := PySem.W.mg_of X H a22,
    a_law_no_stamped := f23,
    fd_law_no_stamped := _,
    F_law_no_stamped := F23,
    b_law_no_stamped := b23,
    kp_law_no_stamped := k23,
    g_law_no_stamped := PySem.W.mg_of X H a23,
    a_law := fa,
    fd_law := _,
    F_law := F24,
    b_law := b24,
    kp_law := k24,
    g_law := PySem.W.mg_of X H a24,
    g_MailError := PySem.W.mg_of X H ac0,
    g_NoLetter := PySem.W.mg_of X H ac1,
    x_NoLetter := xE1,
    kp_NoLetter := kE1,
    r_NoLetter := fun {Y} hY => raises_own (by rw [hY]; exact bE1) (by rw [hY]; exact tE1),
    ex_NoLetter := by
          intro i hi
          have hi : i ∈ [0, 1] := by simpa using hi
          simp only [List.mem_cons, List.not_mem_nil, or_false] at hi
          rcases hi with rfl | rfl
          · exact PySem.W.exm_ref bE1 hE1 tE1 s0_1
          · exact PySem.W.exm_ref bE1 hE1 tE1 s1_1,
    g_Letter := PySem.W.mg_of X H ac2,
    cl_Letter := ⟨pg2, hd2, po2, sa2⟩,
    n_Letter_sender := nf2_0,
    n_Letter_title := nf2_1,
    n_Letter_body := nf2_2,
    n_Letter_day := nf2_3,
    n_Letter_answers := nf2_4,
    fz_Letter := hfz2,
    z_all := PySem.W.mg_none_of X H z_all,
    z_bool := PySem.W.mg_none_of X H z_bool,
    z_int := PySem.W.mg_none_of X H z_int,
    z_isinstance := PySem.W.mg_none_of X H z_isinstance,
    z_len := PySem.W.mg_none_of X H z_len,
    z_list := PySem.W.mg_none_of X H z_list,
    z_range := PySem.W.mg_none_of X H z_range,
    z_str := PySem.W.mg_none_of X H z_str,
    z_tuple := PySem.W.mg_none_of X H z_tuple,
    t_FIGURES := t_FIGURES,
    c_FIGURES := PySem.W.mg_of X H v_FIGURES,
    t_MOST_BODY := t_MOST_BODY,
    c_MOST_BODY := PySem.W.mg_of X H v_MOST_BODY,
    t_MOST_DAY := t_MOST_DAY,
    c_MOST_DAY := PySem.W.mg_of X H v_MOST_DAY,
    t_MOST_HAND := t_MOST_HAND,
    c_MOST_HAND := PySem.W.mg_of X H v_MOST_HAND,
    t_MOST_SIGNS := t_MOST_SIGNS,
    c_MOST_SIGNS := PySem.W.mg_of X H v_MOST_SIGNS,
    t_MOST_TITLE := t_MOST_TITLE,
    c_MOST_TITLE := PySem.W.mg_of X H v_MOST_TITLE,
    t_SMALL := t_SMALL,
    c_SMALL := PySem.W.mg_of X H v_SMALL }
  refine ⟨T.fd_law, fun s v => .of_eq rfl, fun base _ _ => ((ok_law T : FnOk l.prog w K mg base CX0 9 fa T.fd_law ["_law_script"] (sp_law G)).imp fun vs H Q E hh => ?_)⟩
  obtain ⟨a, ns, rfl, hs, ho, hl, hq⟩ := hh
  exact ⟨.ref a, ⟨ns⟩, star [], rfl, im_of_only (G := G) ho hs, Sep.unstar (M := []) (Sep.nil H), R.wp_of (law_ok ⟨ns⟩ hl) fun H' _ => hq H'⟩
theorem walk {l : PySem.W.OpenLaw} {q : Program} {loose : List Str} {XP : (Str → Option Value) → Heap → Prop} {YP : World → Heap → Prop} {d : DefRec} {K : Params → PySem.W.Frag} (hn : l.most = some 63) (hdf : d.params.defaults = [])
    (hY : ∀ (w : World) (h : Heap), YP w h → (K w.params).In h)
    (F : ∀ (w : World) (mg : Str → Option Value) (fa : Addr) (h : Heap), (K w.params).In h → h.Ns mainGlobals mg → mg d.name = some (.ref fa) →
      ∃ fd : FuncData, (∀ (s : Shared) (u : Value), BindsTo s fd ⟨[u], []⟩ [("_law_script", u)]) ∧ ∀ base : Heap, (K w.params).In base → base.Ns mainGlobals mg → FnOk l.prog w (K w.params) mg base CX0 9 fa fd ["_law_script"] (sp_top (K w.params))) :
    PySem.W.WalkO q loose XP YP l.row.toRowW d [] (fun f vs => PySem.call f vs) :=
  L2.walk_of (n := 63) (k := 9) (x := "_law_script") (CX := fun _ => CX0) (sp := fun w => sp_top (K w.params)) hn (by decide) hdf ⟨rfl, by decide, by decide⟩ hY F
    (fun w H a ns hl hO hS => ⟨a, ns, rfl, hS, hO, hl, fun _ => rfl⟩) fun _ _ _ _ _ z => z
end Lw
open PySem PySem.W PyProof.Rows
set_option maxRecDepth 100000 in
set_option maxHeartbeats 0 in
theorem PySem.Challenge.cw_mailroom_k41_deeds_told_holds : PySem.Challenge.rw_mailroom_k41_deeds_told.Holds := by
  w_on; o_law; k_head; (case hw => w_witness2)
  k_fill
  refine Lw.walk (l := PySem.Challenge.rw_mailroom_k41_deeds_told) rfl rfl (fun w h Y => PySem.W.kIn_of Y) ?F
  case F =>
    intro w mg fa h KX G hmg
    refine' Lw.all_mk KX G hmg ?ac0 ?ac1 ?ac2 ?a0 ?l0 ?cc0 ?k0 ?a1 ?l1 ?cc1 ?k1 ?a2 ?l2 ?cc2 ?k2 ?a3 ?l3 ?cc3 ?k3 ?a4 ?i4 ?l4 ?cc4 ?k4 ?T4l ?mk2 ?kc2 ?a5 ?i5 ?l5 ?cc5 ?k5 ?a6 ?l6 ?cc6 ?k6 ?a7 ?l7 ?cc7 ?k7 ?a8 ?l8 ?cc8 ?k8 ?a9 ?l9 ?cc9 ?k9 ?a10 ?l10 ?cc10 ?k10 ?a11 ?l11 ?cc11 ?k11 ?a12 ?l12 ?cc12 ?k12 ?a13 ?l13 ?cc13 ?k13 ?a14 ?l14 ?cc14 ?k14 ?a15 ?l15 ?cc15 ?k15 ?a16 ?l16 ?cc16 ?k16 ?a17 ?l17 ?cc17 ?k17 ?a18 ?l18 ?cc18 ?k18 ?a19 ?l19 ?cc19 ?k19 ?a20 ?l20 ?cc20 ?k20 ?a21 ?l21 ?cc21 ?k21 ?a22 ?l22 ?cc22 ?k22 ?a23 ?l23 ?cc23 ?k23 ?a24 ?l24 ?cc24 ?k24 ?xE1 ?kE1 ?bE1 ?tE1 ?hE1 ?s0_1 ?s1_1 ?pg2 ?hd2 ?po2 ?sa2 ?nf2_0 ?nf2_1 ?nf2_2 ?nf2_3 ?nf2_4 ?z_all ?z_bool ?z_int ?z_isinstance ?z_len ?z_list ?z_range ?z_str ?z_tuple ?v_FIGURES ?v_MOST_BODY ?v_MOST_DAY ?v_MOST_HAND ?v_MOST_SIGNS ?v_MOST_TITLE ?v_SMALL
    (case ac0 => k_is)
    (case ac1 => k_is)
    (case ac2 => k_is)
    (case a0 => k_is)
    (case l0 => k_is)
    (case cc0 => k_is)
    (case k0 => k_is)
    (case a1 => k_is)
    (case l1 => k_is)
    (case cc1 => k_is)
    (case k1 => k_is)
    (case a2 => k_is)
    (case l2 => k_is)
    (case cc2 => k_is)
    (case k2 => k_is)
    (case a3 => k_is)
    (case l3 => k_is)
    (case cc3 => k_is)
    (case k3 => k_is)
    (case a4 => k_is)
    (case i4 => k_is)
    (case l4 => k_is)
    (case cc4 => k_is)
    (case k4 => k_is)
    (case T4l => k_is)
    (case mk2 => k_is)
    (case kc2 => k_is)
    (case a5 => k_is)
    (case i5 => k_is)
    (case l5 => k_is)
    (case cc5 => k_is)
    (case k5 => k_is)
    (case a6 => k_is)
    (case l6 => k_is)
    (case cc6 => k_is)
    (case k6 => k_is)
    (case a7 => k_is)
    (case l7 => k_is)
    (case cc7 => k_is)
    (case k7 => k_is)
    (case a8 => k_is)
    (case l8 => k_is)
    (case cc8 => k_is)
    (case k8 => k_is)
    (case a9 => k_is)
    (case l9 => k_is)
    (case cc9 => k_is)
    (case k9 => k_is)
    (case a10 => k_is)
    (case l10 => k_is)
    (case cc10 => k_is)
    (case k10 => k_is)
    (case a11 => k_is)
    (case l11 => k_is)
    (case cc11 => k_is)
    (case k11 => k_is)
    (case a12 => k_is)
    (case l12 => k_is)
    (case cc12 => k_is)
    (case k12 => k_is)
    (case a13 => k_is)
    (case l13 => k_is)
    (case cc13 => k_is)
    (case k13 => k_is)
    (case a14 => k_is)
    (case l14 => k_is)
    (case cc14 => k_is)
    (case k14 => k_is)
    (case a15 => k_is)
    (case l15 => k_is)
    (case cc15 => k_is)
    (case k15 => k_is)
    (case a16 => k_is)
    (case l16 => k_is)
    (case cc16 => k_is)
    (case k16 => k_is)
    (case a17 => k_is)
    (case l17 => k_is)
    (case cc17 => k_is)
    (case k17 => k_is)
    (case a18 => k_is)
    (case l18 => k_is)
    (case cc18 => k_is)
    (case k18 => k_is)
    (case a19 => k_is)
    (case l19 => k_is)
    (case cc19 => k_is)
    (case k19 => k_is)
    (case a20 => k_is)
    (case l20 => k_is)
    (case cc20 => k_is)
    (case k20 => k_is)
    (case a21 => k_is)
    (case l21 => k_is)
    (case cc21 => k_is)
    (case k21 => k_is)
    (case a22 => k_is)
    (case l22 => k_is)
    (case cc22 => k_is)
    (case k22 => k_is)
    (case a23 => k_is)
    (case l23 => k_is)
    (case cc23 => k_is)
    (case k23 => k_is)
    (case a24 => k_is)
    (case l24 => k_is)
    (case cc24 => k_is)
    (case k24 => k_is)
    (case xE1 => first | k_exc | k_is)
    (case kE1 => k_is)
    (case bE1 => k_is)
    (case tE1 => k_is)
    (case hE1 => k_is)
    (case s0_1 => k_is)
    (case s1_1 => k_is)
    (case pg2 => k_is)
    (case hd2 => k_is)
    (case po2 => k_is)
    (case sa2 => k_is)
    (case nf2_0 => k_is)
    (case nf2_1 => k_is)
    (case nf2_2 => k_is)
    (case nf2_3 => k_is)
    (case nf2_4 => k_is)
    (case z_all => k_is)
    (case z_bool => k_is)
    (case z_int => k_is)
    (case z_isinstance => k_is)
    (case z_len => k_is)
    (case z_list => k_is)
    (case z_range => k_is)
    (case z_str => k_is)
    (case z_tuple => k_is)
    (case v_FIGURES => k_is)
    (case v_MOST_BODY => k_is)
    (case v_MOST_DAY => k_is)
    (case v_MOST_HAND => k_is)
    (case v_MOST_SIGNS => k_is)
    (case v_MOST_TITLE => k_is)
    (case v_SMALL => k_is)

