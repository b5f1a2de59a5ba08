import PyProof.Rows.All
import Wide.All
import OpenK.AllK
import Wide.FinOn
import HandS.ForMost
import HandS.ForExc
import HandS.SetKeys
import HandS.IsInst
import HandS.Flow
import HandS.Style
import HandS.CallSlots
import HandS.TryMany
import HandS.StrMore
import HandS.Strs
import HandS.TupLe
import HandS.TupAny
import HandS.More
import HandS.Conv
import HandS.Replace
import HandS.FStr
import HandS.ExcIs
import HandS.RaiseMore
import HandS.Defaults
import HandS.DictTup
import HandS.TupSets
import HandS.SortOrd
import HandS.SortKw
import HandS.Lambda
import PyProof.Rows.StrCase
import HandS.TryOnly
import KE.DataFind
import HandS.HotCalls
import HandS.Small
import HandS.WordsDict
import KE.KEqDict
import PyProof.NeKinds
import PyProof.FactsAll.dict_1
import PyProof.FactsAll.dict_2
import PyProof.FactsAll.str
import PyProof.FactsAll.int
import PyProof.FactsAll.subtypes
import HandS.SetTxt0
import HandS.SetFor
import KE.SortData
import KE.DataCmp
import HandS.Iter
import KE.DataMinMax
import PySem.Challenge.RW_mailroom_k14_conditions_read
set_option Elab.async false
set_option linter.all false
set_option maxRecDepth 100000
set_option maxHeartbeats 4000000
namespace Ml
open PySem L2
structure Gx where
  K : PySem.W.Frag
  fz : Addr → Option Nat
  cl : Nat → Addr
/-- what never changes once it stands -/
def per (G : Gx) : HO → Bool
  | .tup _ => true
  | .frz _ (.lst _) => true
  | .ins C _ fs => decide (G.fz C = some fs.length)
  | _ => false
/-- what sort of thing it is -/
def kindOf : HO → Nat
  | .lst _ => 0
  | .frz _ (.lst _) => 0
  | .dK _ => 1
  | .frz _ (.dK _) => 1
  | .dT _ => 6
  | .frz _ (.dT _) => 6
  | .tup _ => 2
  | .set _ _ => 3
  | .ins _ _ _ => 4
  | _ => 5
/-- all that never changes stands on, and nothing becomes another sort of thing -/
def Stab (G : Gx) (H H' : Hp) : Prop := (∀ a o, H a = some o → per G o = true → H' a = some o) ∧ ∀ a o, H a = some o → ∃ o', H' a = some o' ∧ kindOf o' = kindOf o
theorem Stab.refl {G : Gx} (H : Hp) : Stab G H H := ⟨fun _ _ h _ => h, fun _ o h => ⟨o, h, rfl⟩⟩
theorem Stab.trans {G : Gx} {H H1 H2 : Hp} (a : Stab G H H1) (b : Stab G H1 H2) : Stab G H H2 := ⟨fun x o h p => b.1 x o (a.1 x o h p) p, fun x o h => by
  obtain ⟨o1, h1, k1⟩ := a.2 x o h
  obtain ⟨o2, h2, k2⟩ := b.2 x o1 h1
  exact ⟨o2, h2, k2.trans k1⟩⟩
theorem Stab.of_same {G : Gx} {H H' : Hp} (s : Same H H') : Stab G H H' := ⟨fun a o h _ => s a o h, fun a o h => ⟨o, s a o h, rfl⟩⟩
theorem stab_put {G : Gx} {H : Hp} {a : Addr} {o o' : HO} (e : H a = some o) (n : per G o = false) (kd : kindOf o' = kindOf o) : Stab G H (upd H a o') := ⟨fun b x hb pb => by
  by_cases z : b = a
  · subst z; rw [e] at hb; cases hb; rw [n] at pb; cases pb
  · rw [upd_ne z]; exact hb, fun b x hb => by
  by_cases z : b = a
  · subst z; rw [e] at hb; cases hb; exact ⟨o', upd_same, kd⟩
  · exact ⟨x, by rw [upd_ne z]; exact hb, rfl⟩⟩
structure Asn (G : Gx) where
  sat : Hp → List Addr → Prop
  loc : ∀ H H' fp, sat H fp → (∀ a, a ∈ fp → H' a = H a) → Stab G H H' → sat H' fp
variable {G : Gx}
def satL (H : Hp) : List (Asn G) → List Addr → Prop
  | [], fp => fp = []
  | A :: L, fp => ∃ f1 f2, fp = f1 ++ f2 ∧ A.sat H f1 ∧ satL H L f2
theorem satL.loc {H H' : Hp} : ∀ {L : List (Asn G)} {fp : List Addr}, satL H L fp → (∀ a, a ∈ fp → H' a = H a) → Stab G H H' → satL H' L fp
  | [], fp, h, _, _ => h
  | A :: L, fp, ⟨f1, f2, e, h1, h2⟩, k, s => ⟨f1, f2, e, A.loc H H' f1 h1 (fun a m => k a (by rw [e]; exact List.mem_append_left _ m)) s,
      satL.loc h2 (fun a m => k a (by rw [e]; exact List.mem_append_right _ m)) s⟩
theorem satL.perm {H : Hp} {L L' : List (Asn G)} (p : L.Perm L') : ∀ {fp : List Addr}, satL H L fp → ∃ fp', fp'.Perm fp ∧ satL H L' fp' := by
  induction p with
  | nil => intro fp h; exact ⟨fp, .refl _, h⟩
  | cons x _ ih =>
    rintro fp ⟨f1, f2, e, h1, h2⟩
    obtain ⟨g, pg, hg⟩ := ih h2
    exact ⟨f1 ++ g, by rw [e]; exact List.Perm.append_left f1 pg, f1, g, rfl, h1, hg⟩
  | swap x y l =>
    rintro fp ⟨f1, f2, e, h1, g1, g2, e2, k1, k2⟩
    refine ⟨g1 ++ (f1 ++ g2), ?_, g1, f1 ++ g2, rfl, k1, f1, g2, rfl, h1, k2⟩
    rw [e, e2, ← List.append_assoc, ← List.append_assoc]
    exact List.Perm.append_right g2 List.perm_append_comm
  | trans _ _ ih1 ih2 =>
    intro fp h
    obtain ⟨g, pg, hg⟩ := ih1 h
    obtain ⟨k, pk, hk⟩ := ih2 hg
    exact ⟨k, pk.trans pg, hk⟩
theorem satL.append {H : Hp} : ∀ {L L' : List (Asn G)} {fp : List Addr}, satL H (L ++ L') fp ↔ ∃ f1 f2, fp = f1 ++ f2 ∧ satL H L f1 ∧ satL H L' f2
  | [], L', fp => ⟨fun h => ⟨[], fp, rfl, rfl, h⟩, fun ⟨f1, f2, e, h1, h2⟩ => by
      have h1' : f1 = [] := h1
      subst h1'; subst e; exact h2⟩
  | A :: L, L', fp => by
    constructor
    · rintro ⟨f1, f2, e, h1, h2⟩
      obtain ⟨g1, g2, e2, k1, k2⟩ := satL.append.mp h2
      exact ⟨f1 ++ g1, g2, by rw [e, e2, List.append_assoc], ⟨f1, g1, rfl, h1, k1⟩, k2⟩
    · rintro ⟨f1, f2, e, ⟨g1, g2, e2, h1, h2⟩, h3⟩
      exact ⟨g1, g2 ++ f2, by rw [e, e2, List.append_assoc], h1, satL.append.mpr ⟨g2, f2, rfl, h2, h3⟩⟩
/-- the assertions hold, each of its own part of the heap -/
def Sep (H : Hp) (L : List (Asn G)) : Prop := ∃ fp, satL H L fp ∧ fp.Nodup ∧ ∀ a, a ∈ fp → ∃ o, H a = some o ∧ per G o = false
theorem Sep.perm {H : Hp} {L L' : List (Asn G)} (h : Sep H L) (p : L.Perm L') : Sep H L' := by
  obtain ⟨fp, h1, h2, h3⟩ := h
  obtain ⟨g, pg, hg⟩ := satL.perm p h1
  exact ⟨g, hg, pg.nodup_iff.mpr h2, fun a m => h3 a (pg.mem_iff.mp m)⟩
theorem Sep.nil (H : Hp) : Sep H ([] : List (Asn G)) := ⟨[], rfl, List.nodup_nil, fun a m => absurd m (by simp)⟩
theorem Sep.left {H : Hp} {L L' : List (Asn G)} (h : Sep H (L ++ L')) : Sep H L := by
  obtain ⟨fp, h1, h2, h3⟩ := h
  obtain ⟨f1, f2, e, k1, k2⟩ := satL.append.mp h1
  subst e
  exact ⟨f1, k1, (List.nodup_append.mp h2).1, fun a m => h3 a (List.mem_append_left _ m)⟩
/-- old things stand, new ones may come -/
theorem Sep.more {H H' : Hp} {L : List (Asn G)} (h : Sep H L) (s : Same H H') : Sep H' L := by
  obtain ⟨fp, h1, h2, h3⟩ := h
  exact ⟨fp, h1.loc (fun a m => by obtain ⟨o, e, _⟩ := h3 a m; rw [e]; exact s a o e) (.of_same s), h2, fun a m => by
    obtain ⟨o, e, n⟩ := h3 a m; exact ⟨o, s a o e, n⟩⟩
theorem satL.at {H : Hp} {A : Asn G} : ∀ {L : List (Asn G)} {fp : List Addr} {i : Nat}, satL H L fp → L[i]? = some A → ∃ fp, A.sat H fp
  | [], _, _, _, e => by simp at e
  | B :: L, _, 0, ⟨f1, _, _, k1, _⟩, e => ⟨f1, by
      have : B = A := Option.some.inj e
      subst this; exact k1⟩
  | B :: L, _, i + 1, ⟨_, f2, _, _, k2⟩, e => satL.at (L := L) (i := i) k2 (by simpa using e)
theorem Sep.at {H : Hp} {L : List (Asn G)} (h : Sep H L) {i : Nat} {A : Asn G} (e : L[i]? = some A) : ∃ fp, A.sat H fp := by
  obtain ⟨fp, h1, _, _⟩ := h
  exact satL.at h1 e
/-- the i-th one ahead -/
theorem pull_perm {α : Type} : ∀ {L : List α} {i : Nat} {A : α}, L[i]? = some A → L.Perm (A :: L.eraseIdx i)
  | [], _, _, e => by simp at e
  | B :: L, 0, A, e => by
    have : B = A := Option.some.inj e
    subst this
    exact .refl _
  | B :: L, i + 1, A, e => by
    have ih := pull_perm (L := L) (i := i) (A := A) (by simpa using e)
    exact (List.Perm.cons B ih).trans (List.Perm.swap A B _)
theorem set_perm {α : Type} : ∀ {L : List α} {i : Nat} {A B : α}, L[i]? = some A → (B :: L.eraseIdx i).Perm (L.set i B)
  | [], _, _, _, e => by simp at e
  | C :: L, 0, A, B, e => .refl _
  | C :: L, i + 1, A, B, e => by
    have ih := set_perm (L := L) (i := i) (A := A) (B := B) (by simpa using e)
    exact (List.Perm.swap C B _).trans (List.Perm.cons C ih)
/-- chosen ones, in a chosen order -/
def pick {α : Type} (L : List α) (is : List Nat) : List α := is.filterMap fun i => L[i]?
theorem pick_perm {α : Type} : ∀ (is : List Nat) (L : List α), is.Nodup → ∃ R, L.Perm (pick L is ++ R)
  | [], L, _ => ⟨L, .refl _⟩
  | i :: is, L, nd => by
    obtain ⟨n1, n2⟩ := List.nodup_cons.mp nd
    cases e : L[i]? with
    | none =>
      obtain ⟨R, p⟩ := pick_perm is L n2
      refine ⟨R, ?_⟩
      have : pick L (i :: is) = pick L is := by unfold pick; rw [List.filterMap_cons, e]
      rw [this]; exact p
    | some A =>
      -- the others by their places without i
      have key : ∀ (js : List Nat), i ∉ js → pick L js = pick (L.eraseIdx i) (js.map fun j => if j < i then j else j - 1) := by
        intro js hj
        unfold pick
        rw [List.filterMap_map]
        have gen : ∀ js : List Nat, i ∉ js → js.filterMap (fun i => L[i]?) = js.filterMap ((fun j => (L.eraseIdx i)[j]?) ∘ fun j => if j < i then j else j - 1) := by
          intro js
          induction js with
          | nil => intro _; rfl
          | cons j js ih =>
            intro hm
            have hji : j ≠ i := fun z => hm (by rw [z]; exact List.mem_cons_self)
            have ih' := ih fun z => hm (List.mem_cons_of_mem _ z)
            have ej : L[j]? = ((fun j => (L.eraseIdx i)[j]?) ∘ fun j => if j < i then j else j - 1) j := by
              show L[j]? = (L.eraseIdx i)[if j < i then j else j - 1]?
              rw [List.getElem?_eraseIdx]
              by_cases c : j < i
              · rw [if_pos c, if_pos c]
              · rw [if_neg c, if_neg (by omega)]
                congr 1; omega
            rw [List.filterMap_cons, List.filterMap_cons, ih', ej]
        exact gen js hj
      have nd2 : (is.map fun j => if j < i then j else j - 1).Nodup := by
        refine List.pairwise_map.mpr (List.Pairwise.imp_of_mem ?_ n2)
        intro a b ha hb hab z
        have ha' : a ≠ i := fun q => n1 (q ▸ ha)
        have hb' : b ≠ i := fun q => n1 (q ▸ hb)
        split at z <;> split at z <;> omega
      obtain ⟨R, p⟩ := pick_perm (is.map fun j => if j < i then j else j - 1) (L.eraseIdx i) nd2
      refine ⟨R, ?_⟩
      have e2 : pick L (i :: is) = A :: pick L is := by unfold pick; rw [List.filterMap_cons, e]
      rw [e2, key is n1]
      exact (pull_perm e).trans (List.Perm.cons A p)
termination_by is => is.length
theorem Sep.sel {H : Hp} {L L' : List (Asn G)} (h : Sep H L) (is : List Nat) (nd : is.Nodup) (e : pick L is = L') : Sep H L' := by
  obtain ⟨R, p⟩ := pick_perm is L nd
  rw [e] at p
  exact (h.perm p).left
/-- at a stands o, owned -/
def cell (a : Addr) (o : HO) : Asn G := ⟨fun H fp => fp = [a] ∧ H a = some o, fun H H' fp h k _ => ⟨h.1, by rw [k a (by rw [h.1]; simp)]; exact h.2⟩⟩
/-- a fact that stays -/
def fact (p : Hp → Prop) (st : ∀ H H', p H → Stab G H H' → p H') : Asn G := ⟨fun H fp => fp = [] ∧ p H, fun H H' fp h _ s => ⟨h.1, st H H' h.2 s⟩⟩
/-- several as one -/
def star (L : List (Asn G)) : Asn G := ⟨fun H fp => satL H L fp, fun H H' fp h k s => h.loc k s⟩
theorem Sep.star {H : Hp} {L M : List (Asn G)} (h : Sep H (M ++ [Ml.star L])) : Sep H (M ++ L) := by
  obtain ⟨fp, h1, h2, h3⟩ := h
  obtain ⟨f1, f2, e, k1, g1, g2, e2, k2, k3⟩ := satL.append.mp h1
  have k3' : g2 = [] := k3
  subst k3'
  rw [List.append_nil] at e2
  subst e2
  exact ⟨fp, satL.append.mpr ⟨f1, f2, e, k1, k2⟩, h2, h3⟩
theorem Sep.unstar {H : Hp} {L M : List (Asn G)} (h : Sep H (M ++ L)) : Sep H (M ++ [Ml.star L]) := by
  obtain ⟨fp, h1, h2, h3⟩ := h
  obtain ⟨f1, f2, e, k1, k2⟩ := satL.append.mp h1
  exact ⟨fp, satL.append.mpr ⟨f1, f2, e, k1, f2, [], by simp, k2, rfl⟩, h2, h3⟩
/-- another view of the first one, over the same part -/
theorem Sep.view {A B : Asn G} {H : Hp} {M : List (Asn G)} (h : Sep H (A :: M)) (v : ∀ fp, A.sat H fp → B.sat H fp) : Sep H (B :: M) := by
  obtain ⟨fp, ⟨f1, f2, e, h1, k⟩, h2, h3⟩ := h
  exact ⟨fp, ⟨f1, f2, e, v f1 h1, k⟩, h2, h3⟩
theorem Sep.addFact {p : Hp → Prop} {st : ∀ H H', p H → Stab G H H' → p H'} {H : Hp} {M : List (Asn G)} (h : Sep H M) (x : p H) : Sep H (fact p st :: M) := by
  obtain ⟨fp, h1, h2, h3⟩ := h
  exact ⟨fp, ⟨[], fp, rfl, ⟨rfl, x⟩, h1⟩, h2, h3⟩
theorem Sep.getFact {p : Hp → Prop} {st : ∀ H H', p H → Stab G H H' → p H'} {H : Hp} {M : List (Asn G)} (h : Sep H M) {i : Nat} (e : M[i]? = some (fact p st)) : p H := by
  obtain ⟨fp, _, x⟩ := h.at e
  exact x
theorem Sep.getCell {H : Hp} {M : List (Asn G)} (h : Sep H M) {i : Nat} {a : Addr} {o : HO} (e : M[i]? = some (cell a o)) : H a = some o := by
  obtain ⟨fp, _, x⟩ := h.at e
  exact x
theorem same_new {H : Hp} {p : Addr} {o : HO} (h : H p = none) : Same H (upd H p o) := fun b u e => by
  rw [upd_ne (ne_of_none e h)]; exact e
/-- a new thing -/
theorem Sep.new {H : Hp} {M : List (Asn G)} (h : Sep H M) {p : Addr} {o : HO} (hp : H p = none) (n : per G o = false) : Sep (upd H p o) (cell p o :: M) := by
  have h' := h.more (same_new (o := o) hp)
  obtain ⟨fp, h1, h2, h3⟩ := h
  obtain ⟨_, k1, _, _⟩ := (⟨fp, h1, h2, h3⟩ : Sep H M)
  have q : satL (upd H p o) M fp := h1.loc (fun a m => by obtain ⟨u, e, _⟩ := h3 a m; exact upd_ne (ne_of_none e hp)) (.of_same (same_new hp))
  refine ⟨p :: fp, ⟨[p], fp, rfl, ⟨rfl, upd_same⟩, q⟩, List.nodup_cons.mpr ⟨fun m => ?_, h2⟩, fun a m => ?_⟩
  · obtain ⟨u, e, _⟩ := h3 p m
    rw [hp] at e; cases e
  · rcases List.mem_cons.mp m with rfl | m
    · exact ⟨o, upd_same, n⟩
    · obtain ⟨u, e, z⟩ := h3 a m
      exact ⟨u, by rw [upd_ne (ne_of_none e hp)]; exact e, z⟩
/-- a store at the first one's place -/
theorem Sep.put1 {H : Hp} {M : List (Asn G)} {a : Addr} {o o' : HO} (h : Sep H (cell a o :: M)) (n : per G o' = false) (kd : kindOf o' = kindOf o) : Sep (upd H a o') (cell a o' :: M) := by
  obtain ⟨fp, ⟨f1, f2, e, ⟨e1, ho⟩, k⟩, h2, h3⟩ := h
  subst e1; subst e
  have nd : ¬ a ∈ f2 := (List.nodup_cons.mp h2).1
  obtain ⟨u, hu, nu⟩ := h3 a (by simp)
  have st : Stab G H (upd H a o') := stab_put ho (by rw [hu] at ho; cases ho; exact nu) kd
  refine ⟨a :: f2, ⟨[a], f2, rfl, ⟨rfl, upd_same⟩, k.loc (fun b m => upd_ne fun z => nd (z ▸ m)) st⟩, h2, fun b m => ?_⟩
  rcases List.mem_cons.mp m with rfl | m
  · exact ⟨o', upd_same, n⟩
  · obtain ⟨x, hx, nx⟩ := h3 b (by simp [m])
    exact ⟨x, by rw [upd_ne (fun z => nd (by rw [← z]; exact m))]; exact hx, nx⟩
theorem Sep.put {H : Hp} {M : List (Asn G)} {i : Nat} {a : Addr} {o o' : HO} (h : Sep H M) (e : M[i]? = some (cell a o)) (n : per G o' = false) (kd : kindOf o' = kindOf o) : Sep (upd H a o') (M.set i (cell a o')) :=
  ((h.perm (pull_perm e)).put1 n kd).perm (set_perm e)
/-- another view of the i-th one -/
theorem Sep.viewAt {A B : Asn G} {H : Hp} {M : List (Asn G)} {i : Nat} (h : Sep H M) (e : M[i]? = some A) (v : ∀ fp, A.sat H fp → B.sat H fp) : Sep H (M.set i B) :=
  ((h.perm (pull_perm e)).view v).perm (set_perm e)
end Ml
namespace Ml
open PySem L2
structure Exc where
  cls : Nat
  row : Int
  deriving DecidableEq, Repr
inductive R (α : Type) where
  | ok (a : α) | exc (x : Exc) | bad
  deriving DecidableEq, Repr
namespace R
variable {α β σ ρ : Type}
def bind : R α → (α → R β) → R β
  | .ok a, f => f a
  | .exc x, _ => .exc x
  | .bad, _ => .bad
@[simp] theorem bind_ok (a : α) (f : α → R β) : (R.ok a).bind f = f a := rfl
@[simp] theorem bind_exc (x : Exc) (f : α → R β) : (R.exc x : R α).bind f = .exc x := rfl
@[simp] theorem bind_bad (f : α → R β) : (R.bad : R α).bind f = .bad := rfl
def need (p : Prop) [Decidable p] (k : R α) : R α := if p then k else .bad
@[simp] theorem need_pos {p : Prop} [Decidable p] (h : p) (k : R α) : need p k = k := if_pos h
/-- what holds of the answer, or of the error -/
def wp : R α → (α → Prop) → (Exc → Prop) → Prop
  | .ok a, q, _ => q a
  | .exc x, _, e => e x
  | .bad, _, _ => False
theorem wp_bind {m : R α} {f : α → R β} {q : β → Prop} {e : Exc → Prop} (h : wp (m.bind f) q e) : wp m (fun a => wp (f a) q e) e := by
  cases m <;> exact h
theorem wp_need {p : Prop} [Decidable p] {k : R α} {q : α → Prop} {e : Exc → Prop} (h : wp (need p k) q e) : p ∧ wp k q e := by
  unfold need at h
  by_cases c : p
  · rw [if_pos c] at h; exact ⟨c, h⟩
  · rw [if_neg c] at h; exact h.elim
theorem wp_mono {m : R α} {q q' : α → Prop} {e e' : Exc → Prop} (h : wp m q e) (hq : ∀ a, q a → q' a) (he : ∀ x, e x → e' x) : wp m q' e' := by
  cases m with
  | ok a => exact hq a h
  | exc x => exact he x h
  | bad => exact h
theorem wp_of {m : R α} {a : α} {q : α → Prop} {e : Exc → Prop} (h : m = .ok a) (k : q a) : wp m q e := by rw [h]; exact k
theorem wp_if {c : Prop} [Decidable c] {a b : R α} {q : α → Prop} {e : Exc → Prop} (h : wp (if c then a else b) q e) : (c → wp a q e) ∧ (¬ c → wp b q e) := by
  by_cases x : c
  · rw [if_pos x] at h; exact ⟨fun _ => h, fun n => absurd x n⟩
  · rw [if_neg x] at h; exact ⟨fun y => absurd y x, fun _ => h⟩
end R
section
variable {α β σ ρ : Type}
def forR (f : σ → α → R σ) : List α → σ → R σ
  | [], s => .ok s
  | x :: xs, s => (f s x).bind fun s => forR f xs s
/-- a comprehension: what each item gives, the state carried -/
def compR (f : σ → α → R (σ × Option β)) : List α → σ → R (σ × List β)
  | [], s => .ok (s, [])
  | x :: xs, s => (f s x).bind fun r => (compR f xs r.1).bind fun t => .ok (t.1, match r.2 with
    | some y => y :: t.2
    | none => t.2)
end
class Im (G : Gx) (α : Type) where
  im : Hp → V → α → Prop
  st : ∀ {H H' : Hp} {v : V} {x : α}, im H v x → Stab G H H' → im H' v x
class Fv (G : Gx) (α : Type) extends Im G α where
  enc : α → V
  im_iff : ∀ {H : Hp} {v : V} {x : α}, im H v x ↔ v = enc x
variable {G : Gx}
instance imInt : Im G Int := ⟨fun _ v x => v = .int x, fun h _ => h⟩
instance imBool : Im G Bool := ⟨fun _ v x => v = .bl x, fun h _ => h⟩
instance imStr : Im G Str := ⟨fun _ v x => v = .str x, fun h _ => h⟩
instance imUnit : Im G Unit := ⟨fun _ v _ => v = .non, fun h _ => h⟩
instance fInt : Fv G Int := { enc := .int, im_iff := .rfl }
instance fBool : Fv G Bool := { enc := .bl, im_iff := .rfl }
instance fStr : Fv G Str := { enc := .str, im_iff := .rfl }
instance fUnit : Fv G Unit := { enc := fun _ => .non, im_iff := .rfl }
/-- the script -/
structure Script where
  ns : List Int
instance : Im G Script := ⟨fun H v x => ∃ a, v = .ref a ∧ ((∃ o, H a = some (.frz o (.lst (x.ns.map V.int)))) ∨ ∃ o its n, List.lookup a G.K = some o ∧ o.cls = Value.type "list" ∧ o.dict = none ∧ o.data = Data.seq its n ∧ its.size ≤ sizeLine ∧ Vals (x.ns.map V.int) its.toList),
  fun ⟨a, e, h⟩ s => ⟨a, e, h.imp (fun ⟨o, h⟩ => ⟨o, s.1 a _ h rfl⟩) id⟩⟩
theorem im_script {H : Hp} {v : V} {x : Script} (h : Im.im G H v x) : ∃ a, v = .ref a ∧ SqL G.K H a (x.ns.map V.int) := by
  obtain ⟨a, e, h⟩ := h
  refine ⟨a, e, ?_⟩
  rcases h with ⟨o, h⟩ | h
  · exact .inl (.inr ⟨o, h⟩)
  · exact .inr h
theorem sq_script {H : Hp} {a : Addr} {x : Script} (h : Im.im G H (.ref a) x) : SqL G.K H a (x.ns.map V.int) := by
  obtain ⟨b, e, h⟩ := im_script h
  cases e; exact h
def imL {α : Type} [Im G α] (H : Hp) : List V → List α → Prop
  | [], [] => True
  | v :: vs, x :: xs => Im.im G H v x ∧ imL H vs xs
  | _, _ => False
section
variable {α : Type} [Im G α] {H H' : Hp}
theorem imL.st : ∀ {vs : List V} {xs : List α}, imL (G := G) H vs xs → Stab G H H' → imL (G := G) H' vs xs
  | [], [], _, _ => True.intro
  | v :: vs, x :: xs, h, s => ⟨Im.st h.1 s, imL.st h.2 s⟩
  | [], _ :: _, h, _ => h
  | _ :: _, [], h, _ => h
theorem imL.len : ∀ {vs : List V} {xs : List α}, imL (G := G) H vs xs → vs.length = xs.length
  | [], [], _ => rfl
  | v :: vs, x :: xs, h => by rw [List.length_cons, List.length_cons, imL.len h.2]
  | [], _ :: _, h => h.elim
  | _ :: _, [], h => h.elim
theorem imL.app : ∀ {vs ws : List V} {xs ys : List α}, imL (G := G) H vs xs → imL (G := G) H ws ys → imL (G := G) H (vs ++ ws) (xs ++ ys)
  | [], _, [], _, _, h => h
  | v :: vs, _, x :: xs, _, h, k => ⟨h.1, imL.app h.2 k⟩
  | [], _, _ :: _, _, h, _ => h.elim
  | _ :: _, _, [], _, h, _ => h.elim
theorem imL.get : ∀ {vs : List V} {xs : List α} {i : Nat} {x : α}, imL (G := G) H vs xs → xs[i]? = some x → ∃ v, vs[i]? = some v ∧ Im.im G H v x
  | [], [], _, _, _, e => by simp at e
  | v :: vs, x :: xs, 0, y, h, e => by
    have : x = y := Option.some.inj e
    subst this
    exact ⟨v, rfl, h.1⟩
  | v :: vs, x :: xs, i + 1, y, h, e => by
    obtain ⟨u, h1, h2⟩ := imL.get (i := i) (x := y) h.2 (by simpa using e)
    exact ⟨u, by simpa using h1, h2⟩
  | [], _ :: _, _, _, h, _ => h.elim
  | _ :: _, [], _, _, h, _ => h.elim
theorem imL.set : ∀ {vs : List V} {xs : List α} {i : Nat} {x : α} {v : V}, imL (G := G) H vs xs → Im.im G H v x → imL (G := G) H (vs.set i v) (xs.set i x)
  | [], [], _, _, _, _, _ => True.intro
  | v :: vs, x :: xs, 0, y, u, h, k => ⟨k, h.2⟩
  | v :: vs, x :: xs, i + 1, y, u, h, k => ⟨h.1, imL.set h.2 k⟩
  | [], _ :: _, _, _, _, h, _ => h.elim
  | _ :: _, [], _, _, _, h, _ => h.elim
theorem imL.take : ∀ {vs : List V} {xs : List α} (n : Nat), imL (G := G) H vs xs → imL (G := G) H (vs.take n) (xs.take n)
  | [], [], n, _ => by simp [imL]
  | v :: vs, x :: xs, 0, h => True.intro
  | v :: vs, x :: xs, n + 1, h => ⟨h.1, imL.take n h.2⟩
  | [], _ :: _, _, h => h.elim
  | _ :: _, [], _, h => h.elim
theorem imL.drop : ∀ {vs : List V} {xs : List α} (n : Nat), imL (G := G) H vs xs → imL (G := G) H (vs.drop n) (xs.drop n)
  | [], [], n, _ => by simp [imL]
  | v :: vs, x :: xs, 0, h => h
  | v :: vs, x :: xs, n + 1, h => imL.drop n h.2
  | [], _ :: _, _, h => h.elim
  | _ :: _, [], _, h => h.elim
end
section
variable {α : Type} [Fv G α] {H H' : Hp}
theorem imL.flat : ∀ {vs : List V} {xs : List α}, imL (G := G) H vs xs ↔ vs = xs.map (Fv.enc G)
  | [], [] => ⟨fun _ => rfl, fun _ => True.intro⟩
  | v :: vs, x :: xs => by
    show (Im.im G H v x ∧ imL (G := G) H vs xs) ↔ _
    rw [Fv.im_iff, imL.flat]
    simp
  | [], _ :: _ => by simp [imL]
  | _ :: _, [] => by simp [imL]
end
section
variable {α : Type} [Im G α]
def lstA (a : Addr) (xs : List α) : Asn G := ⟨fun H fp => fp = [a] ∧ ∃ vs, H a = some (.lst vs) ∧ imL (G := G) H vs xs,
  fun H H' fp ⟨e, vs, h, m⟩ k s => ⟨e, vs, by rw [k a (by rw [e]; simp)]; exact h, m.st s⟩⟩
/-- a value's fact -/
def imA (v : V) (x : α) : Asn G := fact (fun H => Im.im G H v x) fun H H' h s => Im.st h s
variable {H : Hp} {L : List (Asn G)}
theorem Sep.lst (h : Sep H L) {i : Nat} {a : Addr} {xs : List α} (e : L[i]? = some (lstA a xs)) : ∃ vs, H a = some (.lst vs) ∧ imL (G := G) H vs xs := by
  obtain ⟨fp, _, x⟩ := h.at e
  exact x
theorem Sep.im (h : Sep H L) {i : Nat} {v : V} {x : α} (e : L[i]? = some (imA v x)) : Im.im G H v x := h.getFact e
theorem Sep.addIm (h : Sep H L) {v : V} {x : α} (e : Im.im G H v x) : Sep H (imA v x :: L) := h.addFact e
/-- the list's own cell, and back -/
theorem Sep.openL (h : Sep H L) {i : Nat} {a : Addr} {xs : List α} (e : L[i]? = some (lstA a xs)) : ∃ vs, imL (G := G) H vs xs ∧ Sep H (L.set i (cell a (.lst vs))) := by
  obtain ⟨vs, e1, m⟩ := h.lst e
  exact ⟨vs, m, h.viewAt e fun fp ⟨q, _⟩ => ⟨q, e1⟩⟩
theorem Sep.closeL {i : Nat} {a : Addr} {vs : List V} {xs : List α} (h : Sep H L) (e : L[i]? = some (cell a (.lst vs))) (m : imL (G := G) H vs xs) : Sep H (L.set i (lstA a xs)) :=
  h.viewAt e fun fp ⟨q, r⟩ => ⟨q, vs, r, m⟩
theorem Sep.newL (h : Sep H L) {p : Addr} {vs : List V} {xs : List α} (hp : H p = none) (m : imL (G := G) H vs xs) : Sep (upd H p (.lst vs)) (lstA p xs :: L) :=
  (h.new (o := .lst vs) hp rfl).view fun fp ⟨q, r⟩ => ⟨q, vs, r, m.st (.of_same (same_new hp))⟩
theorem set_set {β : Type} {l : List β} {i : Nat} {x y : β} : (l.set i x).set i y = l.set i y := by simp
theorem get_set {β : Type} {l : List β} {i : Nat} {x y : β} (h : l[i]? = some x) : (l.set i y)[i]? = some y := by
  have : i < l.length := by
    have := List.getElem?_eq_some_iff.mp h
    exact this.1
  simp [this]
theorem Sep.putL (h : Sep H L) {i : Nat} {a : Addr} {xs ys : List α} {vs : List V} (e : L[i]? = some (lstA a xs)) (m : imL (G := G) H vs ys) : Sep (upd H a (.lst vs)) (L.set i (lstA a ys)) := by
  obtain ⟨us, mu, h1⟩ := h.openL e
  have e1 := get_set (y := cell (G := G) a (.lst us)) e
  have h2 := h1.put (o' := .lst vs) e1 rfl rfl
  rw [set_set] at h2
  have st : Stab G H (upd H a (.lst vs)) := stab_put (h1.getCell e1) rfl rfl
  have h3 := h2.closeL (get_set e) (m.st st)
  rw [set_set] at h3
  exact h3
end
end Ml
namespace Ml
open PySem L2
variable {G : Gx}
def Ev (te : TE) (σ : St) (H : Hp) (v : V) : Prop := ∀ Q : VK, Q v H → te σ H Q
def Et (t : TT) (σ : St) (H : Hp) (b : Bool) : Prop := ∀ Q : Bool → Hp → Prop, Q b H → t σ H Q
def Ea (t : TA) (σ : St) (H : Hp) (vs : List V) : Prop := ∀ Q : List V → Hp → Prop, Q vs H → t σ H Q
def Eo (t : TO) (σ : St) (H : Hp) (o : Option Int) : Prop := ∀ Q : Option Int → Hp → Prop, Q o H → t σ H Q
section
variable {σ : St} {H : Hp} {ta tb tc te : TE} {t u : TT} {x y v : V} {i j : Int} {a b : Bool} {s z : Str} {vs : List V}
theorem ev_var {k : Nat} (h : σ[k]? = some (some v)) : Ev (tVar k) σ H v := fun _ q => ⟨v, h, q⟩
theorem ev_c : Ev (tC v) σ H v := fun _ q => q
theorem ev_op {r : R2} (ha : Ev ta σ H x) (hb : Ev tb σ H y) (hr : ∀ Q : VK, Q v H → r x y H Q) : Ev (tOp r ta tb) σ H v := fun Q q => ha _ (hb _ (hr _ q))
theorem ev_un {r : V → Hp → VK → Prop} (ha : Ev ta σ H x) (hr : ∀ Q : VK, Q v H → r x H Q) : Ev (tUn r ta) σ H v := fun Q q => ha _ (hr _ q)
theorem r_I0 {g : Int → Int → V} (Q : VK) (q : Q (g i j) H) : rI0 g (.int i) (.int j) H Q := ⟨i, j, rfl, rfl, q⟩
theorem r_I {C : Int → Int → Prop} {g : Int → Int → V} (c : C i j) (Q : VK) (q : Q (g i j) H) : rI C g (.int i) (.int j) H Q := ⟨i, j, rfl, rfl, c, q⟩
theorem ev_i0 {g : Int → Int → V} (ha : Ev ta σ H (.int i)) (hb : Ev tb σ H (.int j)) : Ev (tOp (rI0 g) ta tb) σ H (g i j) := ev_op ha hb fun Q q => r_I0 Q q
theorem ev_i {C : Int → Int → Prop} {g : Int → Int → V} (ha : Ev ta σ H (.int i)) (hb : Ev tb σ H (.int j)) (c : C i j) : Ev (tOp (rI C g) ta tb) σ H (g i j) := ev_op ha hb fun Q q => r_I c Q q
theorem ev_mul (ha : Ev ta σ H (.int i)) (hb : Ev tb σ H (.int j)) (c : CMul i j) : Ev (tOp (rI CMul fun i j => .int (i * j)) ta tb) σ H (.int (i * j)) := ev_i ha hb c
theorem ev_fdiv (ha : Ev ta σ H (.int i)) (hb : Ev tb σ H (.int j)) (c : 0 < j ∧ j < 1073741824) : Ev (tOp (rI CDiv fun i j => .int (i / j)) ta tb) σ H (.int (i / j)) := ev_i ha hb c
theorem ev_mod (ha : Ev ta σ H (.int i)) (hb : Ev tb σ H (.int j)) (c : 0 < j) : Ev (tOp (rI (fun _ j => 0 < j) fun i j => .int (i % j)) ta tb) σ H (.int (i % j)) := ev_i ha hb c
theorem ev_add (ha : Ev ta σ H (.int i)) (hb : Ev tb σ H (.int j)) : Ev (tOp (rI0 fun i j => .int (i + j)) ta tb) σ H (.int (i + j)) := ev_i0 ha hb
theorem ev_sub (ha : Ev ta σ H (.int i)) (hb : Ev tb σ H (.int j)) : Ev (tOp (rI0 fun i j => .int (i - j)) ta tb) σ H (.int (i - j)) := ev_i0 ha hb
theorem r_eqI (Q : VK) (q : Q (.bl (decide (i = j))) H) : rEq (.int i) (.int j) H Q := ⟨rfl, by
  have : decide (V.int i = V.int j) = decide (i = j) := by simp
  rw [this]; exact q⟩
theorem r_neI (Q : VK) (q : Q (.bl (!decide (i = j))) H) : rNe (.int i) (.int j) H Q := ⟨rfl, by
  have : decide (V.int i = V.int j) = decide (i = j) := by simp
  rw [this]; exact q⟩
theorem r_eqS (Q : VK) (q : Q (.bl (decide (s = z))) H) : rEq (.str s) (.str z) H Q := ⟨rfl, by
  have : decide (V.str s = V.str z) = decide (s = z) := by simp
  rw [this]; exact q⟩
theorem r_neS (Q : VK) (q : Q (.bl (!decide (s = z))) H) : rNe (.str s) (.str z) H Q := ⟨rfl, by
  have : decide (V.str s = V.str z) = decide (s = z) := by simp
  rw [this]; exact q⟩
theorem ev_eqI (ha : Ev ta σ H (.int i)) (hb : Ev tb σ H (.int j)) : Ev (tOp rEq ta tb) σ H (.bl (decide (i = j))) := ev_op ha hb fun Q q => r_eqI Q q
theorem ev_neI (ha : Ev ta σ H (.int i)) (hb : Ev tb σ H (.int j)) : Ev (tOp rNe ta tb) σ H (.bl (!decide (i = j))) := ev_op ha hb fun Q q => r_neI Q q
theorem ev_eqS (ha : Ev ta σ H (.str s)) (hb : Ev tb σ H (.str z)) : Ev (tOp rEq ta tb) σ H (.bl (decide (s = z))) := ev_op ha hb fun Q q => r_eqS Q q
theorem ev_neS (ha : Ev ta σ H (.str s)) (hb : Ev tb σ H (.str z)) : Ev (tOp rNe ta tb) σ H (.bl (!decide (s = z))) := ev_op ha hb fun Q q => r_neS Q q
def rCatS : R2 := fun x y H Q => ∃ i j, x = .str i ∧ y = .str j ∧ i.length + j.length ≤ sizeLine ∧ Q (.str (i ++ j)) H
theorem op_catS {X : Cx} : OpR X (binaryOp .Add) rCatS := op_add_str
theorem r_catS (c : s.length + z.length ≤ sizeLine) (Q : VK) (q : Q (.str (s ++ z)) H) : rCatS (.str s) (.str z) H Q := ⟨s, z, rfl, rfl, c, q⟩
theorem ev_catS (ha : Ev ta σ H (.str s)) (hb : Ev tb σ H (.str z)) (c : s.length + z.length ≤ sizeLine) : Ev (tOp rCatS ta tb) σ H (.str (s ++ z)) := ev_op ha hb fun Q q => r_catS c Q q
/-- a sign in a written text -/
def rInSg : R2 := fun x y H Q => ∃ (c : Nat) (z : Str), x = .str ⟨#[c]⟩ ∧ y = .str z ∧ Q (.bl (decide (c ∈ z.cps.toList))) H
theorem op_inSg {X : Cx} : OpR X (compareOp .In) rInSg := op_in_sign
theorem ev_inSg {c : Nat} (ha : Ev ta σ H (.str ⟨#[c]⟩)) (hb : Ev tb σ H (.str z)) : Ev (tOp rInSg ta tb) σ H (.bl (decide (c ∈ z.cps.toList))) := ev_op ha hb fun Q q => ⟨c, z, rfl, rfl, q⟩
theorem et_test (h : Ev te σ H (.bl b)) : Et (tTest te) σ H b := fun _ q => h _ ⟨b, rfl, q⟩
theorem et_B (h : Ev te σ H (.bl b)) : Et (tB te) σ H b := fun _ q => h _ ⟨b, rfl, q⟩
theorem et_not (h : Et t σ H a) : Et (tNot t) σ H (!a) := fun _ q => h _ q
theorem et_and (h1 : Et t σ H a) (h2 : a = true → Et u σ H b) : Et (tAnd t u) σ H (a && b) := fun Q q => h1 _ (by
  cases a with
  | true => exact h2 rfl _ q
  | false => exact q)
theorem ev_orV (h1 : Ev ta σ H (.bl a)) (h2 : a = false → Ev tb σ H (.bl b)) : Ev (tOrV ta tb) σ H (.bl (a || b)) := fun Q q => h1 _ ⟨a, rfl, by
  cases a with
  | true => exact q
  | false => exact h2 rfl _ q⟩
theorem ev_chainB {r r' : R2} (ha : Ev ta σ H x) (hb : Ev tb σ H y) (hc : a = true → Ev tc σ H v) (h1 : ∀ Q : VK, Q (.bl a) H → r x y H Q) (h2 : a = true → ∀ Q : VK, Q (.bl b) H → r' y v H Q) :
    Ev (tChain r r' ta tb tc) σ H (.bl (a && b)) := fun Q q => ha _ (hb _ (h1 _ ⟨a, rfl, by
  cases a with
  | true => exact hc rfl _ (h2 rfl _ q)
  | false => exact q⟩))
theorem ea_nil : Ea tNil σ H [] := fun _ q => q
theorem ea_cons {tr : TA} (h : Ev ta σ H x) (hr : Ea tr σ H vs) : Ea (tCons ta tr) σ H (x :: vs) := fun _ q => h _ (hr _ q)
theorem eo_no : Eo tNoPart σ H none := fun _ q => q
theorem eo_some (h : Ev te σ H (.int i)) : Eo (tPart te) σ H (some i) := fun _ q => h _ ⟨i, rfl, q⟩
theorem ev_cb {r : List V → Hp → VK → Prop} {tr : TA} (h : Ea tr σ H vs) (hr : ∀ Q : VK, Q v H → r vs H Q) : Ev (tCB r tr) σ H v := fun Q q => h _ (hr _ q)
variable {K : PySem.W.Frag} {α : Type}
theorem ev_ixSq {p : Addr} {ws : List V} (ha : Ev ta σ H (.ref p)) (hb : Ev tb σ H (.int i)) (hs : SqL K H p ws) (e : atI ws i = some v) : Ev (tOp (rIxL K) ta tb) σ H v := ev_op ha hb fun _ q => ⟨p, ws, i, v, rfl, rfl, hs, e, q⟩
theorem ev_ixS {c : Nat} (ha : Ev ta σ H (.str z)) (hb : Ev tb σ H (.int i)) (hl : z.length ≤ sizeLine) (e : atI z.cps.toList i = some c) : Ev (tOp rIxS ta tb) σ H (.str ⟨#[c]⟩) := ev_op ha hb fun _ q => ⟨z, i, c, rfl, rfl, hl, e, q⟩
def rLenSq (K : PySem.W.Frag) : List V → Hp → VK → Prop := fun xs H Q => ∃ p ys, xs = [.ref p] ∧ (SqL K H p ys ∨ SqT K H p ys) ∧ Q (.int ys.length) H
theorem call_lenSq {X : Cx} : CallR X (.builtin "len") (rLenSq X.K) := call_len_seq
def rLenS : List V → Hp → VK → Prop := fun xs H Q => ∃ z, xs = [.str z] ∧ z.length ≤ sizeLine ∧ Q (.int z.length) H
theorem call_lenS {X : Cx} : CallR X (.builtin "len") rLenS := call_len_str
theorem ev_lenL {p : Addr} {ws : List V} (ha : Ev ta σ H (.ref p)) (hs : SqL K H p ws) : Ev (tCB (rLenSq K) (tCons ta tNil)) σ H (.int ws.length) := ev_cb (ea_cons ha ea_nil) fun _ q => ⟨p, ws, rfl, .inl hs, q⟩
theorem ev_lenS (ha : Ev ta σ H (.str z)) (hl : z.length ≤ sizeLine) : Ev (tCB rLenS (tCons ta tNil)) σ H (.int z.length) := ev_cb (ea_cons ha ea_nil) fun _ q => ⟨z, rfl, hl, q⟩
end
section
variable {σ σ' : St} {H : Hp} {te : TE} {t : TT} {D : Ends} {t1 t2 tb : TS} {v : V} {b : Bool}
theorem ev_to (h : Ev te σ H v) {Q : VK} (q : Q v H) : te σ H Q := h Q q
theorem ea_to {t : TA} {vs : List V} (h : Ea t σ H vs) {Q : List V → Hp → Prop} (q : Q vs H) : t σ H Q := h Q q
theorem eo_to {t : TO} {o : Option Int} (h : Eo t σ H o) {Q : Option Int → Hp → Prop} (q : Q o H) : t σ H Q := h Q q
theorem et_to (h : Et t σ H b) {Q : Bool → Hp → Prop} (q : Q b H) : t σ H Q := h Q q
end
section
variable {α β τ ρ : Type} {H : Hp} {σ : St} {D : Ends} {tb : TS} {g : TG} {K : PySem.W.Frag}
/-- a walk J over the items xs: at turn i it yields a v of which the i-th item holds -/
structure Wk (J : It) (I : St → Hp → Prop) (im : Hp → V → α → Prop) (xs : List α) : Prop where
  go : ∀ i σ H, I σ H → i < xs.length → J.go i H
  yl : ∀ i σ H v H' x, I σ H → xs[i]? = some x → J.yld i H v H' → I σ H' ∧ im H' v x
  sp : ∀ σ H, I σ H → J.stop xs.length H
/-- for .. in ..: the state s : τ, I s its place in slots and heap; each turn reckons f -/
theorem for_walk {J : It} {I : τ → St → Hp → Prop} {im : Hp → V → α → Prop} {xs : List α} {f : τ → α → R τ} {k : τ → Prop} {e : Exc → Prop} {s : τ}
    (w : ∀ s, Wk J (I s) im xs) (h0 : I s σ H) (hm : R.wp (forR f xs s) k e)
    (turn : ∀ (s : τ) (x : α) (v : V) (σ : St) (H : Hp) (q : τ → Prop) (N : St → Hp → Prop), I s σ H → im H v x → R.wp (f s x) q e → (∀ s' σ' H', q s' → I s' σ' H' → N σ' H') → g v σ H fun σ2 H2 => tb { D with nx := N, ct := N, bk := D.nx } σ2 H2)
    (done : ∀ s σ H, k s → I s σ H → D.nx σ H) :
    ∃ W : Nat → Nat → St → Hp → Prop, (∃ m, W 0 m σ H) ∧ ∀ i m σ H, W i m σ H →
      (J.stop i H ∧ D.nx σ H) ∨ (J.go i H ∧ ∃ N : St → Hp → Prop, (∀ σ' H', N σ' H' → ∃ m', m' < m ∧ W (i + 1) m' σ' H') ∧ ∀ x H', J.yld i H x H' → g x σ H' fun σ2 H2 => tb { D with nx := N, ct := N, bk := D.nx } σ2 H2) := by
  refine ⟨fun i m σ H => m = xs.length - i ∧ i ≤ xs.length ∧ ∃ s, I s σ H ∧ R.wp (forR f (xs.drop i) s) k e, ⟨xs.length, by simp, Nat.zero_le _, s, h0, by simpa using hm⟩, ?_⟩
  rintro i m σ H ⟨rfl, hi, s, hI, hw⟩
  by_cases c : i < xs.length
  · have ed : xs.drop i = xs[i] :: xs.drop (i + 1) := List.drop_eq_getElem_cons c
    rw [ed] at hw
    refine .inr ⟨(w s).go i σ H hI c, fun σ' H' => ∃ s', I s' σ' H' ∧ R.wp (forR f (xs.drop (i + 1)) s') k e, fun σ' H' ⟨s', h1, h2⟩ => ⟨xs.length - (i + 1), by omega, rfl, c, s', h1, h2⟩, fun v H' y => ?_⟩
    obtain ⟨hI', hv⟩ := (w s).yl i σ H v H' xs[i] hI (List.getElem?_eq_getElem c) y
    exact turn s xs[i] v σ H' _ _ hI' hv (R.wp_bind hw) fun s' σ' H'' q hI'' => ⟨s', hI'', q⟩
  · have ei : i = xs.length := by omega
    subst ei
    rw [List.drop_length] at hw
    exact .inl ⟨(w s).sp σ H hI, done s σ H hw hI⟩
/-- a comprehension -/
theorem lc_walk {J : It} {I : Addr → τ → List β → Hp → Prop} {im : Hp → V → α → Prop} [Im G β] {xs : List α} {f : τ → α → R (τ × Option β)} {k : τ × List β → Prop} {e : Exc → Prop} {s : τ} {tt : TT} {te : TE} {vs : List Nat} {Q : VK} {Dr : Addr}
    (w : ∀ s ys, Wk J (fun _ H => I Dr s ys H) im xs) (h0 : I Dr s [] (upd H Dr (.lst []))) (hm : R.wp (compR f xs s) k e) (hl : xs.length ≤ sizeLine)
    (turn : ∀ (s : τ) (ys : List β) (x : α) (v : V) (H : Hp) (q : τ × Option β → Prop) (Nx : Hp → Prop), I Dr s ys H → im H v x → R.wp (f s x) q e → ys.length < sizeLine →
      (∀ s' y u H', q (s', some y) → Im.im G H' u y → I Dr s' ys H' → ∃ acc, H' Dr = some (.lst acc) ∧ acc.length < sizeLine ∧ Nx (upd H' Dr (.lst (acc ++ [u])))) → (∀ s' H', q (s', none) → I Dr s' ys H' → Nx H') →
      g v (wipe σ vs) H fun σ2 H2 => wipe σ2 vs = wipe σ vs ∧ tt σ2 H2 fun b H3 => if b = true then te σ2 H3 fun y H4 => ∃ acc, H4 Dr = some (.lst acc) ∧ acc.length < sizeLine ∧ Nx (upd H4 Dr (.lst (acc ++ [y]))) else Nx H3)
    (app : ∀ s ys y u H, I Dr s ys H → Im.im G H u y → ∃ acc, H Dr = some (.lst acc) ∧ acc.length = ys.length ∧ I Dr s (ys ++ [y]) (upd H Dr (.lst (acc ++ [u]))))
    (done : ∀ s ys H, k (s, ys) → I Dr s ys H → Q (.ref Dr) H) :
    ∃ W : Nat → Nat → Hp → Prop, (∃ m, W 0 m (upd H Dr (.lst []))) ∧ ∀ i m H, W i m H →
      (J.stop i H ∧ Q (.ref Dr) H) ∨ (J.go i H ∧ ∃ Nx : Hp → Prop, (∀ H', Nx H' → ∃ m', m' < m ∧ W (i + 1) m' H') ∧ ∀ x H', J.yld i H x H' → g x (wipe σ vs) H' fun σ2 H2 => wipe σ2 vs = wipe σ vs ∧ tt σ2 H2 fun b H3 =>
        if b = true then te σ2 H3 fun y H4 => ∃ acc, H4 Dr = some (.lst acc) ∧ acc.length < sizeLine ∧ Nx (upd H4 Dr (.lst (acc ++ [y]))) else Nx H3) := by
  refine ⟨fun i m H => m = xs.length - i ∧ i ≤ xs.length ∧ ∃ s ys, ys.length ≤ i ∧ I Dr s ys H ∧ R.wp (compR f (xs.drop i) s) (fun t => k (t.1, ys ++ t.2)) e, ⟨xs.length, by simp, Nat.zero_le _, s, [], Nat.le_refl _, h0, by simpa using hm⟩, ?_⟩
  rintro i m H ⟨rfl, hi, s, ys, hy, hI, hw⟩
  by_cases c : i < xs.length
  · have ed : xs.drop i = xs[i] :: xs.drop (i + 1) := List.drop_eq_getElem_cons c
    rw [ed] at hw
    refine .inr ⟨(w s ys).go i [] H hI c, fun H' => ∃ s' ys', ys'.length ≤ i + 1 ∧ I Dr s' ys' H' ∧ R.wp (compR f (xs.drop (i + 1)) s') (fun t => k (t.1, ys' ++ t.2)) e,
      fun H' ⟨s', ys', h0, h1, h2⟩ => ⟨xs.length - (i + 1), by omega, rfl, c, s', ys', h0, h1, h2⟩, fun v H' y => ?_⟩
    obtain ⟨hI', hv⟩ := (w s ys).yl i [] H v H' xs[i] hI (List.getElem?_eq_getElem c) y
    have hw' := R.wp_bind hw
    refine turn s ys xs[i] v H' _ _ hI' hv hw' (by omega) (fun s' y u H'' q hu hI'' => ?_) (fun s' H'' q hI'' => ?_)
    · have q' := R.wp_bind q
      obtain ⟨acc, ea, la, hI3⟩ := app s' ys y u H'' hI'' hu
      refine ⟨acc, ea, by omega, s', ys ++ [y], by simp; omega, hI3, ?_⟩
      refine R.wp_mono q' (fun t ht => ?_) fun _ z => z
      have ht' : k (t.1, ys ++ y :: t.2) := ht
      rw [List.append_assoc]; exact ht'
    · have q' := R.wp_bind q
      exact ⟨s', ys, by omega, hI'', R.wp_mono q' (fun t ht => ht) fun _ z => z⟩
  · have ei : i = xs.length := by omega
    subst ei
    rw [List.drop_length] at hw
    have hw : k (s, ys ++ []) := hw
    rw [List.append_nil] at hw
    exact .inl ⟨(w s ys).sp [] H hI, done s ys H hw hI⟩
end
end Ml
namespace Ml
open PySem L2
variable {G : Gx}
def idxR {α : Type} (xs : List α) (i : Int) : R α := match atI xs i with
  | some x => .ok x
  | none => .bad
theorem wp_idx {α ρ : Type} {xs : List α} {i : Int} {f : α → R ρ} {q : ρ → Prop} {e : Exc → Prop} (h : R.wp ((idxR xs i).bind f) q e) : ∃ x, atI xs i = some x ∧ R.wp (f x) q e := by
  unfold idxR at h
  cases c : atI xs i with
  | some x => rw [c] at h; exact ⟨x, rfl, h⟩
  | none => rw [c] at h; exact h.elim
theorem atI_map {α β : Type} {xs : List α} {f : α → β} {i : Int} {x : α} (h : atI xs i = some x) : atI (xs.map f) i = some (f x) := by
  unfold atI at h ⊢
  rw [List.length_map]
  cases e : ixN xs.length i with
  | none => rw [e] at h; cases h
  | some j =>
    rw [e] at h
    show (xs.map f)[j]? = some (f x)
    have h : xs[j]? = some x := h
    rw [List.getElem?_map, h]; rfl
theorem atI_im {α : Type} [Im G α] {H : Hp} {vs : List V} {xs : List α} {i : Int} {x : α} (m : imL (G := G) H vs xs) (h : atI xs i = some x) : ∃ v, atI vs i = some v ∧ Im.im G H v x := by
  unfold atI at h ⊢
  rw [m.len]
  cases e : ixN xs.length i with
  | none => rw [e] at h; cases h
  | some j =>
    rw [e] at h
    exact m.get h
theorem atI_ok {α : Type} {xs : List α} {i : Int} (h0 : 0 ≤ i) (h1 : i < xs.length) : ∃ x, xs[i.toNat]? = some x ∧ atI xs i = some x := by
  have hj : i.toNat < xs.length := by omega
  refine ⟨xs[i.toNat], List.getElem?_eq_getElem hj, ?_⟩
  unfold atI ixN
  rw [if_pos h0, if_pos h1]
  exact List.getElem?_eq_getElem hj
theorem idxR_ok {α : Type} {xs : List α} {i : Int} {x : α} (h0 : 0 ≤ i) (h1 : xs[i.toNat]? = some x) : idxR xs i = .ok x := by
  have hl : i.toNat < xs.length := (List.getElem?_eq_some_iff.mp h1).1
  obtain ⟨y, hy, h⟩ := atI_ok (xs := xs) h0 (by omega)
  rw [h1] at hy; cases hy
  unfold idxR; rw [h]
/-- one sign as a text -/
abbrev sg (c : Nat) : Str := ⟨#[c]⟩
def mulOk (i j : Int) : Prop := (-(2 ^ 64) < i ∧ i < 2 ^ 64) ∨ (-(2 ^ 64) < j ∧ j < 2 ^ 64)
instance (i j : Int) : Decidable (mulOk i j) := by unfold mulOk; infer_instance
def rngL (lo : Int) (n : Nat) : List Int := (List.range n).map fun (i : Nat) => lo + (i : Int)
theorem rngL_len (lo : Int) (n : Nat) : (rngL lo n).length = n := by simp [rngL]
theorem rngL_get {lo : Int} {n i : Nat} {x : Int} (h : (rngL lo n)[i]? = some x) : x = lo + (i : Int) ∧ i < n := by
  have hl : i < (rngL lo n).length := (List.getElem?_eq_some_iff.mp h).1
  rw [rngL_len] at hl
  unfold rngL at h
  rw [List.getElem?_map, List.getElem?_range hl] at h
  exact ⟨(Option.some.inj h).symm, hl⟩
section
variable {α τ : Type} {I : St → Hp → Prop} {K : PySem.W.Frag} {a : Addr}
theorem wk_list [Im G α] {xs : List α} (h : ∀ σ H, I σ H → ∃ vs, SqL K H a vs ∧ imL (G := G) H vs xs) : Wk (Itl K a) I (Im.im G) xs where
  go := fun i σ H hI hi => by
    obtain ⟨vs, s, m⟩ := h σ H hI
    have hl : i < vs.length := by rw [m.len]; exact hi
    exact ⟨vs, vs[i], s, List.getElem?_eq_getElem hl⟩
  yl := fun i σ H v H' x hI hx y => by
    obtain ⟨vs, s, m⟩ := h σ H hI
    obtain ⟨rfl, y⟩ := y
    obtain ⟨u, hu, im⟩ := m.get hx
    have e := y vs s
    rw [hu] at e; cases e
    exact ⟨hI, im⟩
  sp := fun σ H hI => by
    obtain ⟨vs, s, m⟩ := h σ H hI
    exact ⟨vs, s, by rw [m.len]; exact Nat.le_refl _⟩
theorem wk_range {lo : Int} {n : Nat} : Wk (Itr lo n) I (fun _ v (x : Int) => v = .int x) (rngL lo n) where
  go := fun i σ H _ hi => by rw [rngL_len] at hi; exact hi
  yl := fun i σ H v H' x hI hx y => by
    obtain ⟨rfl, y⟩ := y
    obtain ⟨e, _⟩ := rngL_get hx
    exact ⟨hI, by rw [y, e]⟩
  sp := fun σ H _ => by rw [rngL_len]; exact Nat.le_refl _
theorem wk_str {z : Str} : Wk (Its z) I (fun _ v (c : Nat) => v = .str (sg c)) z.cps.toList where
  go := fun i σ H _ hi => by show i < z.cps.size; simpa using hi
  yl := fun i σ H v H' x hI hx y => by
    obtain ⟨rfl, c, hc, y⟩ := y
    have : z.cps[i]? = some x := by simpa using hx
    rw [hc] at this; cases this
    exact ⟨hI, y⟩
  sp := fun σ H _ => by show z.cps.size ≤ _; simp
end
theorem Sep.sq {α : Type} [Im G α] {H : Hp} {L : List (Asn G)} (h : Sep H L) {i : Nat} {a : Addr} {xs : List α} (e : L[i]? = some (lstA a xs)) : ∃ vs, SqL G.K H a vs ∧ imL (G := G) H vs xs := by
  obtain ⟨vs, e, m⟩ := h.lst e
  exact ⟨vs, .inl (.inl e), m⟩
theorem Sep.sqF {α : Type} [Fv G α] {H : Hp} {L : List (Asn G)} (h : Sep H L) {i : Nat} {a : Addr} {xs : List α} (e : L[i]? = some (lstA a xs)) : SqL G.K H a (xs.map (Fv.enc G)) := by
  obtain ⟨vs, e, m⟩ := h.sq e
  rw [imL.flat.mp m] at e
  exact e
section
variable {σ σ' : St} {H : Hp} {L L' : List (Asn G)} {D : Ends} {Q : VK} {te ta tb : TE} {α β : Type}
theorem c_op {r : R2} (h : ta σ H fun x H1 => tb σ H1 fun y H2 => r x y H2 Q) : tOp r ta tb σ H Q := h
theorem c_cons {tr : TA} {P : List V → Hp → Prop} (h : ta σ H fun x H1 => tr σ H1 fun xs H2 => P (x :: xs) H2) : tCons ta tr σ H P := h
theorem c_nil {P : List V → Hp → Prop} (h : P [] H) : tNil σ H P := h
theorem c_call {sp : Sp} {dvs : List V} {E : XK} {t : TA} (h : t σ H fun vs H1 => sp (vs ++ dvs) H1 Q E) : tCall sp dvs E t σ H Q := h
theorem c_cb {r : List V → Hp → VK → Prop} {t : TA} (h : t σ H fun vs H1 => r vs H1 Q) : tCB r t σ H Q := h
theorem c_asg {i : Nat} (h : te σ H fun v H1 => D.nx (σ.set i (some v)) H1) : tAsg te (gName i) D σ H := h
theorem c_ret (h : te σ H D.rt) : tRet te D σ H := h
theorem c_drop (h : te σ H fun _ H1 => D.nx σ H1) : tDrop te D σ H := h
theorem c_set {i : Nat} {v : V} (e : σ.set i (some v) = σ') (h : D.nx σ' H) : D.nx (σ.set i (some v)) H := by rw [e]; exact h
/-- a new list of written items -/
def lstK (Q : VK) : List V → Hp → Prop := fun xs H1 => xs.length ≤ sizeLine ∧ ∀ p, H1 p = none → Q (.ref p) (upd H1 p (.lst xs))
def tupK (Q : VK) : List V → Hp → Prop := fun xs H1 => xs.length ≤ sizeLine ∧ ∀ p, H1 p = none → Q (.ref p) (upd H1 p (.tup xs))
theorem k_lst [Im G α] {vs : List V} {xs : List α} (hS : Sep H L) (m : imL (G := G) H vs xs) (z : vs.length ≤ sizeLine) (k : ∀ p H', Sep H' (lstA p xs :: L) → Q (.ref p) H') :
    lstK Q vs H := ⟨z, fun p hp => k p _ (hS.newL hp m)⟩
theorem c_lst {t : TA} (h : t σ H (lstK Q)) : tLst t σ H Q := h
theorem c_tup {t : TA} (h : t σ H (tupK Q)) : tTup t σ H Q := h
theorem c_bm {K : PySem.W.Frag} {T : String} {r : V → List V → Hp → VK → Prop} {to : TE} {t : TA} (h : to σ H fun x H1 => tyV K T x H1 ∧ t σ H1 fun xs H2 => r x xs H2 Q) : tBM K T r to t σ H Q := h
theorem tyL [Im G α] {i : Nat} {a : Addr} {xs : List α} (hS : Sep H L) (e : L[i]? = some (lstA a xs)) : tyV G.K "list" (.ref a) H := by
  obtain ⟨vs, h, _⟩ := hS.sq e
  exact .inl ⟨rfl, vs, h⟩
theorem k_append [Im G α] {i : Nat} {a : Addr} {xs : List α} {x : α} {v : V} (hS : Sep H L) (e : L[i]? = some (lstA a xs)) (hv : Im.im G H v x) (z : xs.length < sizeLine) (e2 : L.set i (lstA a (xs ++ [x])) = L')
    (k : ∀ H', Sep H' L' → Q .non H') : rAppend (.ref a) [v] H Q := by
  obtain ⟨vs, h, m⟩ := hS.lst e
  refine ⟨a, vs, v, rfl, rfl, h, by rw [m.len]; exact z, k _ ?_⟩
  subst e2
  exact hS.putL e (m.app (vs := vs) (ws := [v]) ⟨hv, True.intro⟩)
def cutL (xs : List α) (lo hi : Option Int) : List α := (xs.drop (HT.sIx xs.length 0 lo)).take (HT.sIx xs.length xs.length hi - HT.sIx xs.length 0 lo)
theorem cutL_im [Im G α] {vs : List V} {xs : List α} {lo hi : Option Int} (m : imL (G := G) H vs xs) : imL (G := G) H (cutV vs lo hi) (cutL xs lo hi) := by
  unfold cutV cutL
  rw [m.len]
  exact (m.drop _).take _
theorem c_sl {r : V → Option Int → Option Int → Hp → VK → Prop} {tl th : TO} (h : te σ H fun x H1 => tl σ H1 fun l H2 => th σ H2 fun u H3 => r x l u H3 Q) : tSl r te tl th σ H Q := h
def rListSq (K : PySem.W.Frag) : List V → Hp → VK → Prop := fun xs H Q => ∃ p ys, xs = [.ref p] ∧ (SqL K H p ys ∨ SqT K H p ys) ∧ ∀ l, H l = none → Q (.ref l) (upd H l (.lst ys))
theorem call_listSq {X : Cx} : CallR X (.type "list") (rListSq X.K) := call_list_of
end
end Ml
namespace Ml
open PySem L2
variable {G : Gx}
section
variable {κ β : Type} [DecidableEq κ]
def dput (kvs : List (κ × β)) (k : κ) (v : β) : List (κ × β) :=
  if (kvs.any fun kv => decide (kv.1 = k)) = true then kvs.map (fun kv => if kv.1 = k then (kv.1, v) else kv) else kvs ++ [(k, v)]
def ddrop (kvs : List (κ × β)) (k : κ) : List (κ × β) := kvs.filter fun kv => decide (kv.1 ≠ k)
end
class Kx (κ : Type) where
  key : κ → Key
  inj : ∀ {a b : κ}, key a = key b → a = b
instance : Kx Int := ⟨Sum.inl, fun h => Sum.inl.inj h⟩
instance : Kx Str := ⟨Sum.inr, fun h => Sum.inr.inj h⟩
section
variable {κ β : Type} [DecidableEq κ] [Kx κ] [Im G β]
def imD (H : Hp) : List (Key × V) → List (κ × β) → Prop
  | [], [] => True
  | p :: ps, q :: qs => (p.1 = Kx.key q.1 ∧ Im.im G H p.2 q.2) ∧ imD H ps qs
  | _, _ => False
variable {H H' : Hp}
theorem imD.st : ∀ {ps : List (Key × V)} {qs : List (κ × β)}, imD (G := G) H ps qs → Stab G H H' → imD (G := G) H' ps qs
  | [], [], _, _ => True.intro
  | p :: ps, q :: qs, h, s => ⟨⟨h.1.1, Im.st h.1.2 s⟩, imD.st h.2 s⟩
  | [], _ :: _, h, _ => h
  | _ :: _, [], h, _ => h
theorem imD.len : ∀ {ps : List (Key × V)} {qs : List (κ × β)}, imD (G := G) H ps qs → ps.length = qs.length
  | [], [], _ => rfl
  | p :: ps, q :: qs, h => by rw [List.length_cons, List.length_cons, imD.len h.2]
  | [], _ :: _, h => h.elim
  | _ :: _, [], h => h.elim
theorem key_dec (a b : κ) : decide (Kx.key a = Kx.key b) = decide (a = b) := by
  by_cases h : a = b
  · subst h; simp
  · have : ¬ Kx.key a = Kx.key b := fun e => h (Kx.inj e)
    simp [h, this]
theorem imD.any : ∀ {ps : List (Key × V)} {qs : List (κ × β)} (k : κ), imD (G := G) H ps qs → (ps.any fun kv => decide (kv.1 = Kx.key k)) = qs.any fun kv => decide (kv.1 = k)
  | [], [], _, _ => rfl
  | p :: ps, q :: qs, k, ⟨⟨e1, e2⟩, h⟩ => by
    rw [List.any_cons, List.any_cons, imD.any k h, e1, key_dec]
  | [], _ :: _, _, h => h.elim
  | _ :: _, [], _, h => h.elim
theorem imD.app : ∀ {ps rs : List (Key × V)} {qs ts : List (κ × β)}, imD (G := G) H ps qs → imD (G := G) H rs ts → imD (G := G) H (ps ++ rs) (qs ++ ts)
  | [], _, [], _, _, h => h
  | _ :: _, _, _ :: _, _, h, k => ⟨h.1, imD.app h.2 k⟩
  | [], _, _ :: _, _, h, _ => h.elim
  | _ :: _, _, [], _, h, _ => h.elim
theorem imD.rep : ∀ {ps : List (Key × V)} {qs : List (κ × β)} {k : κ} {v : V} {y : β}, imD (G := G) H ps qs → Im.im G H v y →
    imD (G := G) H (ps.map fun kv => if kv.1 = Kx.key k then (kv.1, v) else kv) (qs.map fun kv => if kv.1 = k then (kv.1, y) else kv)
  | [], [], _, _, _, _, _ => True.intro
  | p :: ps, q :: qs, k, v, y, ⟨⟨e1, e2⟩, h⟩, hv => by
    refine ⟨?_, imD.rep h hv⟩
    show (if p.1 = Kx.key k then (p.1, v) else p).1 = Kx.key (if q.1 = k then (q.1, y) else q).1 ∧ Im.im G H (if p.1 = Kx.key k then (p.1, v) else p).2 (if q.1 = k then (q.1, y) else q).2
    by_cases c : q.1 = k
    · have c1 : p.1 = Kx.key k := by rw [e1, c]
      rw [if_pos c, if_pos c1]; exact ⟨e1, hv⟩
    · have c1 : ¬ p.1 = Kx.key k := fun z => c (Kx.inj (e1.symm.trans z))
      rw [if_neg c, if_neg c1]; exact ⟨e1, e2⟩
  | [], _ :: _, _, _, _, h, _ => h.elim
  | _ :: _, [], _, _, _, h, _ => h.elim
theorem imD.put {ps : List (Key × V)} {qs : List (κ × β)} {k : κ} {v : V} {y : β} (h : imD (G := G) H ps qs) (hv : Im.im G H v y) : imD (G := G) H (putK ps (Kx.key k) v) (dput qs k y) := by
  unfold putK dput
  rw [h.any k]
  split
  · exact h.rep hv
  · exact h.app (rs := [(Kx.key k, v)]) (ts := [(k, y)]) ⟨⟨rfl, hv⟩, True.intro⟩
theorem imD.drop : ∀ {ps : List (Key × V)} {qs : List (κ × β)} (k : κ), imD (G := G) H ps qs → imD (G := G) H (dropK ps (Kx.key k)) (ddrop qs k)
  | [], [], _, _ => True.intro
  | p :: ps, q :: qs, k, ⟨⟨e1, e2⟩, h⟩ => by
    have ih := imD.drop k h
    unfold dropK ddrop at ih ⊢
    rw [List.filter_cons, List.filter_cons]
    by_cases c : q.1 = k
    · have c1 : p.1 = Kx.key k := by rw [e1, c]
      simp only [c, c1, ne_eq, not_true_eq_false, decide_false, Bool.false_eq_true, if_false]
      exact ih
    · have c1 : ¬ p.1 = Kx.key k := fun z => c (Kx.inj (e1.symm.trans z))
      simp only [c, c1, ne_eq, not_false_eq_true, decide_true, if_true]
      exact ⟨⟨e1, e2⟩, ih⟩
  | [], _ :: _, _, h => h.elim
  | _ :: _, [], _, h => h.elim
def dictA (a : Addr) (kvs : List (κ × β)) : Asn G := ⟨fun H fp => fp = [a] ∧ ∃ ps, H a = some (.dK ps) ∧ imD (G := G) H ps kvs,
  fun H H' fp ⟨e, ps, h, m⟩ k s => ⟨e, ps, by rw [k a (by rw [e]; simp)]; exact h, m.st s⟩⟩
variable {L L' : List (Asn G)}
theorem Sep.dict (h : Sep H L) {i : Nat} {a : Addr} {kvs : List (κ × β)} (e : L[i]? = some (dictA a kvs)) : ∃ ps, H a = some (.dK ps) ∧ imD (G := G) H ps kvs := by
  obtain ⟨fp, _, x⟩ := h.at e
  exact x
variable {σ : St} {Q : VK} {td ty tx : TE} {k : κ} {a : Addr} {xs : List (κ × β)} {i : Nat}
end
class Lay (α : Type) where
  lay : α → Bool
instance : Lay Int := ⟨fun _ => true⟩
instance : Lay Bool := ⟨fun _ => true⟩
instance : Lay Str := ⟨fun x => PyData.strOk x⟩
def layAllB {α : Type} [Lay α] (xs : List α) : Bool := xs.all Lay.lay
class Pd (G : Gx) (α : Type) [Im G α] [DecidableEq α] [Lay α] where
  pd : α → PyData
  dep : Nat
  dp : ∀ {H : Hp} {v : V} {x : α}, Im.im G H v x → Dp G.K H v (pd x)
  lay_ok : ∀ x, Lay.lay x = true → (pd x).canLay0 = true
  dep_ok : ∀ x, (pd x).depth ≤ dep
  eqv : ∀ x y, PyData.eqv (pd x) (pd y) = decide (x = y)
instance pInt : Pd G Int where
  pd := .int
  dep := 0
  dp := fun {H v x} h => by
    have h : v = .int x := h
    subst h; exact .int x
  lay_ok := fun _ _ => rfl
  dep_ok := fun _ => Nat.le_refl _
  eqv := fun x y => by
    show (x == y) = decide (x = y)
    rfl
instance pBool : Pd G Bool where
  pd := .bool
  dep := 0
  dp := fun {H v x} h => by
    have h : v = .bl x := h
    subst h; exact .bl x
  lay_ok := fun _ _ => rfl
  dep_ok := fun _ => Nat.le_refl _
  eqv := fun x y => by cases x <;> cases y <;> rfl
theorem str_beq (x y : Str) : (x == y) = decide (x = y) := by
  by_cases h : x = y
  · subst h; simp
  · simp [h]
instance pStr : Pd G Str where
  pd := .str
  dep := 0
  dp := fun {H v x} h => by
    have h : v = .str x := h
    subst h; exact .str x
  lay_ok := fun _ h => h
  dep_ok := fun _ => Nat.le_refl _
  eqv := fun x y => str_beq x y
section
variable {α : Type} [Im G α] [DecidableEq α] [Lay α] [Pd G α] {H : Hp} {L : List (Asn G)}
theorem dpAll : ∀ {vs : List V} {xs : List α}, imL (G := G) H vs xs → DpAll G.K H vs (xs.map (Pd.pd G))
  | [], [], _ => .nil
  | v :: vs, x :: xs, h => .cons (Pd.dp h.1) (dpAll h.2)
  | [], _ :: _, h => h.elim
  | _ :: _, [], h => h.elim
theorem layAll : ∀ {xs : List α}, layAllB xs = true → PyData.canLayAll0 (xs.map (Pd.pd G)) = true
  | [], _ => rfl
  | x :: xs, h => by
    unfold layAllB at h
    rw [List.all_cons, Bool.and_eq_true] at h
    show ((Pd.pd G x).canLay0 && PyData.canLayAll0 (xs.map (Pd.pd G))) = true
    rw [Pd.lay_ok x h.1, layAll h.2]; rfl
theorem depAll : ∀ (xs : List α), PyData.depthAll (xs.map (Pd.pd G)) ≤ Pd.dep G α
  | [] => Nat.zero_le _
  | x :: xs => by
    show max (Pd.pd G x).depth (PyData.depthAll (xs.map (Pd.pd G))) ≤ _
    exact Nat.max_le.mpr ⟨Pd.dep_ok x, depAll xs⟩
theorem eqvAll_is : ∀ (xs ys : List α), PyData.eqvAll (xs.map (Pd.pd G)) (ys.map (Pd.pd G)) = decide (xs = ys)
  | [], [] => rfl
  | x :: xs, y :: ys => by
    show (PyData.eqv (Pd.pd G x) (Pd.pd G y) && PyData.eqvAll (xs.map (Pd.pd G)) (ys.map (Pd.pd G))) = _
    rw [Pd.eqv, eqvAll_is xs ys]
    simp
  | [], _ :: _ => rfl
  | _ :: _, [] => rfl
variable {a b : Addr} {xs ys : List α} {i j : Nat} {σ : St} {ta tb : TE}
end
section
variable {H : Hp} {L : List (Asn G)} {σ : St} {ta tb : TE} {a : Addr} {i : Nat}
theorem inV_str (x : Str) : ∀ ys : List Str, inV (.str x) (ys.map V.str) = decide (x ∈ ys)
  | [] => rfl
  | y :: ys => by
    have ih := inV_str x ys
    unfold inV at ih ⊢
    rw [List.map_cons, List.any_cons, ih]
    show ((y == x) || _) = _
    by_cases h : y = x
    · subst h; simp
    · have h' : ¬ x = y := fun e => h e.symm
      simp [h, h']
theorem flat_str : ∀ ys : List Str, (ys.map V.str).all flatV = true
  | [] => rfl
  | y :: ys => by rw [List.map_cons, List.all_cons, flat_str ys]; rfl
theorem ev_niL {x : Str} {ys : List Str} (hS : Sep H L) (e : L[i]? = some (lstA a ys)) (ha : Ev ta σ H (.str x)) (hb : Ev tb σ H (.ref a)) : Ev (tOp (rIn G.K true) ta tb) σ H (.bl (!decide (x ∈ ys))) := ev_op ha hb fun Q q =>
  ⟨a, ys.map V.str, rfl, .inl (hS.sqF e), rfl, flat_str ys, by
    show Q (.bl (!inV (.str x) (ys.map V.str))) H
    rw [inV_str]; exact q⟩
theorem ev_isi {x : V} {T U : String} {b : Bool} (ha : Ev ta σ H x) (hb : Ev tb σ H (.ty U)) (t : TyX G.K H x (.type T)) (e : kitB T U = some b) : Ev (tCB (rIsi G.K) (tCons ta (tCons tb tNil))) σ H (.bl b) :=
  ev_cb (ea_cons ha (ea_cons hb ea_nil)) fun Q q => ⟨x, .ty U, _, _, b, rfl, .ty U, t, kit_ty e, q⟩
end
end Ml
namespace Ml
open PySem L2
variable {G : Gx}
section
variable {σ σ' : St} {H : Hp} {L L' M : List (Asn G)} {D : Ends} {Q : VK} {te : TE} {tt : TT} {tb : TS} {α β τ ρ : Type} {i : Nat} {v : V} {vs : List Nat}
theorem c_gN {P : St → Hp → Prop} (e : σ.set i (some v) = σ') (h : P σ' H) : gName i v σ H P := by
  show P (σ.set i (some v)) H
  rw [e]; exact h
theorem c_gLc {P : Bool → Hp → Prop} (e : (wipe σ vs).set i (some v) = σ') (hw : wipe σ' vs = wipe σ vs) (h : tt σ' H P) : gName i v (wipe σ vs) H fun σ2 H2 => wipe σ2 vs = wipe σ vs ∧ tt σ2 H2 P := by
  show wipe ((wipe σ vs).set i (some v)) vs = wipe σ vs ∧ tt ((wipe σ vs).set i (some v)) H P
  rw [e]; exact ⟨hw, h⟩
theorem c_yes {A B : Hp → Prop} (h : A H) : tYes σ H fun b H3 => if b = true then A H3 else B H3 := h
theorem lc_app [Im G β] {Dr : Addr} {ys : List β} {y : β} {u : V} (hS : Sep H (lstA Dr ys :: M)) (hu : Im.im G H u y) : ∃ acc, H Dr = some (.lst acc) ∧ acc.length = ys.length ∧ Sep (upd H Dr (.lst (acc ++ [u]))) (lstA Dr (ys ++ [y]) :: M) := by
  obtain ⟨acc, h, m⟩ := hS.lst (i := 0) rfl
  exact ⟨acc, h, m.len, hS.putL (i := 0) rfl (m.app (vs := acc) (ws := [u]) ⟨hu, True.intro⟩)⟩
theorem st_nx (h : D.nx σ H) : tNext D σ H := h
def sq (t : TS) (D : Ends) : Ends := { D with nx := t D }
theorem f_seq {t1 t2 : TS} (h : t1 (sq t2 D) σ H) : tSeq t1 t2 D σ H := h
theorem sq_nx {t2 : TS} (h : t2 D σ H) : (sq t2 D).nx σ H := h
def forK (g : TG) (tb : TS) (D : Ends) (σ : L2.St) : It → Hp → Prop := fun J H1 => ∃ W : Nat → Nat → L2.St → Hp → Prop, (∃ m, W 0 m σ H1) ∧ ∀ i m σ H, W i m σ H →
  (J.stop i H ∧ D.nx σ H) ∨ (J.go i H ∧ ∃ N : L2.St → Hp → Prop, (∀ σ' H', N σ' H' → ∃ m', m' < m ∧ W (i + 1) m' σ' H') ∧ ∀ x H', J.yld i H x H' → g x σ H' fun σ2 H2 => tb { D with nx := N, ct := N, bk := D.nx } σ2 H2)
def loopD (D : Ends) (N B : L2.St → Hp → Prop) : Ends := { D with nx := N, ct := N, bk := B }
theorem c_for {wi : TI} {g : TG} (h : wi σ H (forK g tb D σ)) : tFor wi g tb D σ H := h
def lcK (g : TG) (tt : TT) (te : TE) (vs : List Nat) (σ : L2.St) (Q : VK) : It → Hp → Prop := fun J H1 => ∀ D, H1 D = none → ∃ W : Nat → Nat → Hp → Prop, (∃ m, W 0 m (upd H1 D (.lst []))) ∧ ∀ i m H, W i m H →
  (J.stop i H ∧ Q (.ref D) H) ∨ (J.go i H ∧ ∃ Nx : Hp → Prop, (∀ H', Nx H' → ∃ m', m' < m ∧ W (i + 1) m' H') ∧ ∀ x H', J.yld i H x H' → g x (wipe σ vs) H' fun σ2 H2 => wipe σ2 vs = wipe σ vs ∧ tt σ2 H2 fun b H3 =>
    if b = true then te σ2 H3 fun y H4 => ∃ acc, H4 D = some (.lst acc) ∧ acc.length < sizeLine ∧ Nx (upd H4 D (.lst (acc ++ [y]))) else Nx H3)
theorem c_lc {wi : TI} {g : TG} (h : wi σ H (lcK g tt te vs σ Q)) : tLc wi g tt te vs σ H Q := h
def rng1K (R : It → Hp → Prop) : List V → Hp → Prop := fun vs H1 => ∃ j : Int, vs = [.int j] ∧ -(2 ^ 62) ≤ j ∧ j < 2 ^ 62 ∧ R (Itr 0 j.toNat) H1
def ilK (K : PySem.W.Frag) (R : It → Hp → Prop) : VK := fun x H1 => ∃ a, x = .ref a ∧ (∃ xs, SqL K H1 a xs) ∧ R (Itl K a) H1
def isK (R : It → Hp → Prop) : VK := fun v H1 => ∃ x, v = .str x ∧ R (Its x) H1
theorem c_rng1 {ta : TA} {R : It → Hp → Prop} (h : ta σ H (rng1K R)) : iRng1 ta σ H R := h
theorem c_il {K : PySem.W.Frag} {R : It → Hp → Prop} (h : te σ H (ilK K R)) : iList K te σ H R := h
theorem c_is {R : It → Hp → Prop} (h : te σ H (isK R)) : iStr te σ H R := h
theorem k_rng1 {R : It → Hp → Prop} {j : Int} (h1 : -(2 ^ 62) ≤ j) (h2 : j < 2 ^ 62) (h : R (Itr 0 j.toNat) H) : rng1K R [.int j] H := ⟨j, rfl, h1, h2, h⟩
theorem k_il [Im G α] {a : Addr} {xs : List α} {R : It → Hp → Prop} (hS : Sep H L) (e : L[i]? = some (lstA a xs)) (h : R (Itl G.K a) H) : ilK G.K R (.ref a) H := by
  obtain ⟨vs, s, _⟩ := hS.sq e
  exact ⟨a, rfl, ⟨vs, s⟩, h⟩
theorem k_is {z : Str} {R : It → Hp → Prop} (h : R (Its z) H) : isK R (.str z) H := ⟨z, rfl, h⟩
/-- for .. in .. -/
theorem k_for {J : It} {g : TG} {im : Hp → V → α → Prop} {xs : List α} {f : τ → α → R τ} {rest : τ → R ρ} {q : ρ → Prop} {e : Exc → Prop} {s : τ} (I : τ → L2.St → Hp → Prop)
    (w : ∀ s, Wk J (I s) im xs) (h0 : I s σ H) (hm : R.wp ((forR f xs s).bind rest) q e)
    (turn : ∀ (s : τ) (x : α) (v : V) (σ : L2.St) (H : Hp) (q : τ → Prop) (N : L2.St → Hp → Prop), I s σ H → im H v x → R.wp (f s x) q e → (∀ s' σ' H', q s' → I s' σ' H' → N σ' H') → g v σ H fun σ2 H2 => tb (loopD D N D.nx) σ2 H2)
    (done : ∀ s σ H, R.wp (rest s) q e → I s σ H → D.nx σ H) : forK g tb D σ J H :=
  for_walk (I := I) w h0 (R.wp_bind hm) turn done
/-- a comprehension over owned things -/
theorem lc_sep [Im G β] {J : It} {im : Hp → V → α → Prop} {xs : List α} {f : τ → α → R (τ × Option β)} {rest : τ × List β → R ρ} {q : ρ → Prop} {e : Exc → Prop} {s : τ} (M : τ → List (Asn G))
    (hS : Sep H (M s)) (w : ∀ (Dr : Addr) (s : τ) (ys : List β), Wk J (fun (_ : St) H => Sep H (lstA Dr ys :: M s)) im xs) (hl : xs.length ≤ sizeLine) (hm : R.wp ((compR f xs s).bind rest) q e)
    (turn : ∀ (Dr : Addr) (s : τ) (ys : List β) (x : α) (v : V) (H : Hp) (q : τ × Option β → Prop) (Nx : Hp → Prop), Sep H (lstA Dr ys :: M s) → im H v x → R.wp (f s x) q e →
      (∀ s' y u H', q (s', some y) → Im.im G H' u y → Sep H' (lstA Dr ys :: M s') → ∃ acc, H' Dr = some (.lst acc) ∧ acc.length < sizeLine ∧ Nx (upd H' Dr (.lst (acc ++ [u])))) → (∀ s' H', q (s', none) → Sep H' (lstA Dr ys :: M s') → Nx H') →
      gName i v (wipe σ vs) H fun σ2 H2 => wipe σ2 vs = wipe σ vs ∧ tt σ2 H2 fun b H3 => if b = true then te σ2 H3 fun y H4 => ∃ acc, H4 Dr = some (.lst acc) ∧ acc.length < sizeLine ∧ Nx (upd H4 Dr (.lst (acc ++ [y]))) else Nx H3)
    (done : ∀ (Dr : Addr) (t : τ × List β) H, R.wp (rest t) q e → Sep H (lstA Dr t.2 :: M t.1) → Q (.ref Dr) H) :
    lcK (gName i) tt te vs σ Q J H := fun Dr hD =>
  lc_walk (G := G) (I := fun Dr s ys H => Sep H (lstA Dr ys :: M s)) (im := im) (xs := xs) (f := f) (k := fun t => R.wp (rest t) q e) (e := e) (s := s) (w Dr)
    (hS.newL (vs := []) (xs := ([] : List β)) hD True.intro) (R.wp_bind hm) hl
    (fun s ys x v H q Nx hI hv hw _ k1 k2 => turn Dr s ys x v H q Nx hI hv hw k1 k2)
    (fun s ys y u H hI hu => lc_app hI hu)
    (fun s ys H hk hI => done Dr (s, ys) H hk hI)
theorem c_aug {ti : TIp} {x : V} (e : σ[i]? = some (some x)) (h : te σ H fun y H1 => ti x y H1 fun z H2 => D.nx (σ.set i (some z)) H2) : tAug i te ti D σ H := ⟨x, e, h⟩
def ipS : TIp := fun x y H Q => ∃ i j, x = .str i ∧ y = .str j ∧ i.length + j.length ≤ sizeLine ∧ Q (.str (i ++ j)) H
theorem ip_catS {X : Cx} : PIp X .Add ipS := iop_add_str
theorem m2 {X : Cx} {o : Expr} {m : Str} {apos : Pos} {e f : Expr} {cpos : Pos} (base : attributeBase o m X.env (eval o X.env) = eval o X.env := by rfl)
  (few : ((backTo cpos (starEach [e, f] X.env)).all (fun x => !x.1) && (backToKw cpos (keywordEach [] X.env)).all (fun x => x.1.isSome)
    && decide (([e, f] : List Expr).length + ([] : List Keyword).length + (if ([] : List Keyword).isEmpty then 0 else 1) < 30)) = true := by rfl)
  (line : (apos.endLine == cpos.line) = true := by rfl) (trees : backTo cpos (starEach [e, f] X.env) = [(false, eval e X.env), (false, eval f X.env)] := by rfl) : M2 X o m apos e f cpos := ⟨base, few, line, trees⟩
theorem r_ixSq {K : PySem.W.Frag} {p : Addr} {ws : List V} {i : Int} (hs : SqL K H p ws) (e : atI ws i = some v) (Q : VK) (q : Q v H) : rIxL K (.ref p) (.int i) H Q := ⟨p, ws, i, v, rfl, rfl, hs, e, q⟩
theorem ev_lenLm {K : PySem.W.Frag} {ta : TE} {p : Addr} {xs : List α} {f : α → V} (ha : Ev ta σ H (.ref p)) (hs : SqL K H p (xs.map f)) : Ev (tCB (rLenSq K) (tCons ta tNil)) σ H (.int xs.length) := by
  have := ev_lenL ha hs
  rw [List.length_map] at this
  exact this
end
end Ml
namespace Ml
open PySem L2
variable {G : Gx}
def andK (u : TT) (σ : St) (P : Bool → Hp → Prop) : Bool → Hp → Prop := fun c H => if c = true then u σ H P else P false H
def orK (u : TT) (σ : St) (P : Bool → Hp → Prop) : Bool → Hp → Prop := fun c H => if c = true then P true H else u σ H P
def notK (P : Bool → Hp → Prop) : Bool → Hp → Prop := fun c H => P (!c) H
def ifK (t1 t2 : TS) (D : Ends) (σ : St) : Bool → Hp → Prop := fun c H => if c = true then t1 D σ H else t2 D σ H
/-- a value that is a Bool -/
def blK (P : Bool → Hp → Prop) : VK := fun x H => ∃ k, x = .bl k ∧ P k H
def andVK (tb : TE) (σ : St) (Q : VK) : VK := fun x H => ∃ c, x = .bl c ∧ if c = true then tb σ H Q else Q (.bl false) H
section
variable {σ : St} {H : Hp} {L : List (Asn G)} {D : Ends} {Q : VK} {P : Bool → Hp → Prop} {t u : TT} {t1 t2 : TS} {ta tb te : TE} {ρ τ : Type} {a b : Bool} {v w : V}
theorem f_and (h : t σ H (andK u σ P)) : tAnd t u σ H P := h
theorem f_or (h : t σ H (orK u σ P)) : tOr t u σ H P := h
theorem f_not (h : t σ H (notK P)) : tNot t σ H P := h
theorem f_if (h : t σ H (ifK t1 t2 D σ)) : tIfS t t1 t2 D σ H := h
theorem f_test (h : te σ H (blK P)) : tTest te σ H P := h
theorem f_B (h : te σ H (blK P)) : tB te σ H P := h
theorem f_bl (h : P b H) : blK P (.bl b) H := ⟨b, rfl, h⟩
theorem f_andV (h : ta σ H (andVK tb σ Q)) : tAndV ta tb σ H Q := h
theorem f_nK (h : P (!b) H) : notK P b H := h
theorem ifK_f (h : t2 D σ H) : ifK t1 t2 D σ false H := h
variable {A B : R Bool} {rest : Bool → R ρ} {q : ρ → Prop} {e : Exc → Prop}
theorem andK_J (hm : R.wp ((if a = true then A else .ok false).bind rest) q e) (hS : Sep H L)
    (h1 : a = true → ∀ q' : Bool → Prop, R.wp A q' e → (∀ b H', q' b → Sep H' L → P b H') → u σ H P) (k : ∀ b H', R.wp (rest b) q e → Sep H' L → P b H') : andK u σ P a H := by
  have hm' := R.wp_bind hm
  cases a with
  | true => exact h1 rfl _ hm' k
  | false => exact k false H hm' hS
theorem orK_J (hm : R.wp ((if a = true then .ok true else A).bind rest) q e) (hS : Sep H L)
    (h1 : a = false → ∀ q' : Bool → Prop, R.wp A q' e → (∀ b H', q' b → Sep H' L → P b H') → u σ H P) (k : ∀ b H', R.wp (rest b) q e → Sep H' L → P b H') : orK u σ P a H := by
  have hm' := R.wp_bind hm
  cases a with
  | true => exact k true H hm' hS
  | false => exact h1 rfl _ hm' k
theorem andVK_J (hm : R.wp ((if a = true then A else .ok false).bind rest) q e) (hS : Sep H L)
    (h1 : a = true → ∀ q' : Bool → Prop, R.wp A q' e → (∀ b H', q' b → Sep H' L → Q (.bl b) H') → tb σ H Q) (k : ∀ b H', R.wp (rest b) q e → Sep H' L → Q (.bl b) H') : andVK tb σ Q (.bl a) H := by
  have hm' := R.wp_bind hm
  refine ⟨a, rfl, ?_⟩
  cases a with
  | true => exact h1 rfl _ hm' k
  | false => exact k false H hm' hS
theorem ifK_2 (h1 : a = true → t1 D σ H) (h2 : a = false → t2 D σ H) : ifK t1 t2 D σ a H := by
  cases a with
  | true => exact h1 rfl
  | false => exact h2 rfl
theorem ifK_J {A B : R τ} {rest : τ → R ρ} (J : τ → St → Hp → Prop) (hm : R.wp ((if a = true then A else B).bind rest) q e)
    (h1 : a = true → ∀ q' : τ → Prop, R.wp A q' e → (∀ s σ' H', q' s → J s σ' H' → D.nx σ' H') → t1 D σ H)
    (h2 : a = false → ∀ q' : τ → Prop, R.wp B q' e → (∀ s σ' H', q' s → J s σ' H' → D.nx σ' H') → t2 D σ H)
    (k : ∀ s σ' H', R.wp (rest s) q e → J s σ' H' → D.nx σ' H') : ifK t1 t2 D σ a H := by
  have hm' := R.wp_bind hm
  cases a with
  | true => exact h1 rfl _ hm' k
  | false => exact h2 rfl _ hm' k
theorem wp_let {α : Type} {x : α} {f : α → R ρ} (hm : R.wp ((R.ok x).bind f) q e) : ∃ y, x = y ∧ R.wp (f y) q e := ⟨x, rfl, hm⟩
theorem ev_is (h : Ev te σ H v) (e : v = w) : Ev te σ H w := by rw [← e]; exact h
theorem n_is {i : Nat} (e : v = w) (h : D.nx (σ.set i (some w)) H) : D.nx (σ.set i (some v)) H := by rw [e]; exact h
/-- [elt ..] with a test: the two ways -/
theorem lc_if {A B : Prop} (h1 : a = true → A) (h2 : a = false → B) : if a = true then A else B := by
  cases a with
  | true => exact h1 rfl
  | false => exact h2 rfl
end
end Ml
namespace Ml
open PySem L2
section
variable {X : Cx} (K : PySem.W.Frag) (hK : X.K = K := by rfl)
include hK
theorem ix_listK : IxR X (rIxL K) := by subst hK; exact ix_list
theorem ix_tupK : IxR X (rIxT K) := by subst hK; exact ix_tup
theorem sl_listK : SlR X (rSlL K) := by subst hK; exact sl_list
theorem lenSqK : CallR X (.builtin "len") (rLenSq K) := by subst hK; exact call_lenSq
theorem listSqK : CallR X (.type "list") (rListSq K) := by subst hK; exact call_listSq
theorem isiK : CallR X (.builtin "isinstance") (rIsi K) := by subst hK; exact call_isi
theorem inSqK : OpR X (compareOp .In) (rIn K false) := by subst hK; exact op_in_seq
theorem niSqK : OpR X (compareOp .NotIn) (rIn K true) := by subst hK; exact op_notIn_seq
end
theorem eqDK {X : Cx} (K : PySem.W.Frag) (hu : X.A.units + 64 < cLine) (hK : X.K = K := by rfl) : OpR X (compareOp .Eq) (rEqD K) := by subst hK; exact op_eqD hu
theorem allK {X : Cx} (K : PySem.W.Frag) (hc : X.calm = true) (hK : X.K = K := by rfl) : CallR X (.builtin "all") (rAll K) := by subst hK; exact cr_all hc
theorem pi_listK {X : Cx} {tg e : Expr} {tl : TE} (K : PySem.W.Frag) (h : PE X e tl) (hK : X.K = K := by rfl) : PI X tg e (iList K tl) := by subst hK; exact pi_list h
section
variable {X : Cx} {T : String} {name : Str} {id : String} {r : V → List V → Hp → VK → Prop} {o e : Expr} {es : List Expr} {to : TE} {t : TA} {apos cpos : Pos}
theorem pe_bmK (K : PySem.W.Frag) (pa : PlainAttrs T) (slot : Slot T name id) (hty : typeOf (.builtin id) = pure (.type "method_descriptor")) (hm : MtR X id r) (ho : PE X o to) (ha : PA X (e :: es) t) (hK : X.K = K := by rfl)
    (hbase : attributeBase o name X.env (eval o X.env) = eval o X.env := by rfl)
    (hfew : ((backTo cpos (starEach (e :: es) X.env)).all (fun x => !x.1) && (backToKw cpos (keywordEach [] X.env)).all (fun x => x.1.isSome)
      && decide ((e :: es).length + ([] : List Keyword).length + (if ([] : List Keyword).isEmpty then 0 else 1) < 30)) = true := by rfl)
    (hline : (apos.endLine == cpos.line) = true := by rfl) (hs : starEach (e :: es) X.env = (false, eval e X.env) :: starEach es X.env := by rfl) (hplain : (backTo cpos (starEach es X.env)).any (·.1) = false := by rfl) :
    PE X (.Call (.Attribute o name apos) (e :: es) [] cpos) (tBM K T r to t) := by subst hK; exact pe_bm pa slot hty hm ho ha hbase hfew hline hs hplain
end
end Ml
namespace Ml
open PySem L2
theorem im_of_only {G : Gx} {H : Hp} {a : Addr} {ns : List Int} (hO : Only H) (hS : SqL G.K H a (ns.map V.int)) : Im.im G H (.ref a) (⟨ns⟩ : Script) := by
  refine ⟨a, rfl, ?_⟩
  rcases hS with (h | ⟨o, h⟩) | h
  · rcases hO a with z | ⟨o, xs, z⟩
    · rw [h] at z; cases z
    · rw [h] at z; cases z
  · exact .inl ⟨o, h⟩
  · exact .inr h
end Ml
namespace Ml
open PySem L2
variable {G : Gx} {σ : St} {H : Hp} {L : List (Asn G)} {D : Ends} {Q : VK} {α ρ : Type} {v : V}
theorem r_mod {i j : Int} (c : 0 < j) (q : Q (.int (i % j)) H) : rI (fun _ j => 0 < j) (fun i j => V.int (i % j)) (.int i) (.int j) H Q := ⟨i, j, rfl, rfl, c, q⟩
end Ml
namespace Ml
open PySem L2
def fzK (Q : VK) : VK := fun v H => Q v H ∨ ∃ a u, v = .ref a ∧ H a = some u ∧ Mut (some u) ∧ ∀ o, Q v (upd H a (.frz o u))
def tFz (t : TE) : TE := fun σ H Q => t σ H (fzK Q)
theorem pe_fz {X : Cx} {e : Expr} {t : TE} (h : PE X e t) : PE X e (tFz t) := by
  refine ⟨fun pins s σ H Q I hw => ?_⟩
  refine thn (h.run pins s σ H _ I hw) fun v s1 ⟨x, H1, I1, r, q⟩ => ?_
  rcases q with q | ⟨a, u, e, ha, mu, q⟩
  · exact ⟨x, H1, I1, r, q⟩
  · obtain ⟨od, I2⟩ := I1.lock ha mu
    exact ⟨x, _, I2, r, q od⟩
variable {G : Gx}
section
variable {σ : St} {H : Hp} {L : List (Asn G)} {te : TE} {Q : VK} {v : V} {α : Type}
theorem c_fz (h : te σ H (fzK Q)) : tFz te σ H Q := h
theorem fz_no (h : Q v H) : fzK Q v H := .inl h
theorem ev_fz (h : Ev te σ H v) : Ev (tFz te) σ H v := fun Q q => h _ (.inl q)
/-- a locked list: a value -/
instance imList [Im G α] : Im G (List α) := ⟨fun H v xs => ∃ a vs, v = .ref a ∧ (∃ o, H a = some (.frz o (.lst vs))) ∧ imL (G := G) H vs xs,
  fun ⟨a, vs, e, ⟨o, h⟩, m⟩ s => ⟨a, vs, e, ⟨o, s.1 a _ h rfl⟩, m.st s⟩⟩
/-- the i-th thing is dropped, the rest stays while its cell changes -/
theorem Sep.drop1 {a : Addr} {o o' : HO} {M : List (Asn G)} (h : Sep H (cell a o :: M)) (kd : kindOf o' = kindOf o) : Sep (upd H a o') M := by
  obtain ⟨fp, ⟨f1, f2, e, ⟨e1, ho⟩, k⟩, h2, h3⟩ := h
  subst e1; subst e
  have nd : ¬ a ∈ f2 := (List.nodup_cons.mp h2).1
  obtain ⟨u, hu, nu⟩ := h3 a (by simp)
  have eu : u = o := by rw [ho] at hu; cases hu; rfl
  have st : Stab G H (upd H a o') := stab_put hu nu (by rw [eu]; exact kd)
  refine ⟨f2, k.loc (fun b m => upd_ne fun z => nd (z ▸ m)) st, (List.nodup_cons.mp h2).2, fun b m => ?_⟩
  obtain ⟨x, hx, nx⟩ := h3 b (by simp [m])
  exact ⟨x, by rw [upd_ne (fun z => nd (by rw [← z]; exact m))]; exact hx, nx⟩
end
structure T3 (α β γ : Type) where
  a : α
  b : β
  c : γ
  deriving DecidableEq, Repr
structure T4 (α β γ δ : Type) where
  a : α
  b : β
  c : γ
  d : δ
  deriving DecidableEq, Repr
structure T5 (α β γ δ ε : Type) where
  a : α
  b : β
  c : γ
  d : δ
  e : ε
  deriving DecidableEq, Repr
structure T1 (α : Type) where
  a : α
  deriving DecidableEq, Repr
section
variable {α β γ δ ε : Type} [Im G α] [Im G β] [Im G γ] [Im G δ] [Im G ε] {H H' : Hp} {a : Addr} {u1 u2 u3 u4 u5 : V}
instance imT1 : Im G (T1 α) := ⟨fun H v x => ∃ a u1, v = .ref a ∧ H a = some (.tup [u1]) ∧ Im.im G H u1 x.a,
  fun ⟨a, u1, e, h, i1⟩ s => ⟨a, u1, e, s.1 a _ h rfl, Im.st i1 s⟩⟩
instance imT2 : Im G (α × β) := ⟨fun H v x => ∃ a u1 u2, v = .ref a ∧ H a = some (.tup [u1, u2]) ∧ Im.im G H u1 x.1 ∧ Im.im G H u2 x.2,
  fun ⟨a, u1, u2, e, h, i1, i2⟩ s => ⟨a, u1, u2, e, s.1 a _ h rfl, Im.st i1 s, Im.st i2 s⟩⟩
instance imT3 : Im G (T3 α β γ) := ⟨fun H v x => ∃ a u1 u2 u3, v = .ref a ∧ H a = some (.tup [u1, u2, u3]) ∧ Im.im G H u1 x.a ∧ Im.im G H u2 x.b ∧ Im.im G H u3 x.c,
  fun ⟨a, u1, u2, u3, e, h, i1, i2, i3⟩ s => ⟨a, u1, u2, u3, e, s.1 a _ h rfl, Im.st i1 s, Im.st i2 s, Im.st i3 s⟩⟩
instance imT4 : Im G (T4 α β γ δ) := ⟨fun H v x => ∃ a u1 u2 u3 u4, v = .ref a ∧ H a = some (.tup [u1, u2, u3, u4]) ∧ Im.im G H u1 x.a ∧ Im.im G H u2 x.b ∧ Im.im G H u3 x.c ∧ Im.im G H u4 x.d,
  fun ⟨a, u1, u2, u3, u4, e, h, i1, i2, i3, i4⟩ s => ⟨a, u1, u2, u3, u4, e, s.1 a _ h rfl, Im.st i1 s, Im.st i2 s, Im.st i3 s, Im.st i4 s⟩⟩
instance imT5 : Im G (T5 α β γ δ ε) := ⟨fun H v x => ∃ a u1 u2 u3 u4 u5, v = .ref a ∧ H a = some (.tup [u1, u2, u3, u4, u5]) ∧ Im.im G H u1 x.a ∧ Im.im G H u2 x.b ∧ Im.im G H u3 x.c ∧ Im.im G H u4 x.d ∧ Im.im G H u5 x.e,
  fun ⟨a, u1, u2, u3, u4, u5, e, h, i1, i2, i3, i4, i5⟩ s => ⟨a, u1, u2, u3, u4, u5, e, s.1 a _ h rfl, Im.st i1 s, Im.st i2 s, Im.st i3 s, Im.st i4 s, Im.st i5 s⟩⟩
theorem im2 {x : α × β} (h : Im.im G H (.ref a) x) : ∃ u1 u2, H a = some (.tup [u1, u2]) ∧ Im.im G H u1 x.1 ∧ Im.im G H u2 x.2 := by
  obtain ⟨b, u1, u2, e, h⟩ := h; cases e; exact ⟨u1, u2, h⟩
theorem im3 {x : T3 α β γ} (h : Im.im G H (.ref a) x) : ∃ u1 u2 u3, H a = some (.tup [u1, u2, u3]) ∧ Im.im G H u1 x.a ∧ Im.im G H u2 x.b ∧ Im.im G H u3 x.c := by
  obtain ⟨b, u1, u2, u3, e, h⟩ := h; cases e; exact ⟨u1, u2, u3, h⟩
theorem mk2 {x : α × β} (i1 : Im.im G H u1 x.1) (i2 : Im.im G H u2 x.2) (h : H' a = some (.tup [u1, u2])) (s : Stab G H H') : Im.im G H' (.ref a) x := ⟨a, u1, u2, rfl, h, Im.st i1 s, Im.st i2 s⟩
theorem mk3 {x : T3 α β γ} (i1 : Im.im G H u1 x.a) (i2 : Im.im G H u2 x.b) (i3 : Im.im G H u3 x.c) (h : H' a = some (.tup [u1, u2, u3])) (s : Stab G H H') : Im.im G H' (.ref a) x := ⟨a, u1, u2, u3, rfl, h, Im.st i1 s, Im.st i2 s, Im.st i3 s⟩
theorem mk4 {x : T4 α β γ δ} (i1 : Im.im G H u1 x.a) (i2 : Im.im G H u2 x.b) (i3 : Im.im G H u3 x.c) (i4 : Im.im G H u4 x.d) (h : H' a = some (.tup [u1, u2, u3, u4])) (s : Stab G H H') : Im.im G H' (.ref a) x := ⟨a, u1, u2, u3, u4, rfl, h, Im.st i1 s, Im.st i2 s, Im.st i3 s, Im.st i4 s⟩
theorem mk5 {x : T5 α β γ δ ε} (i1 : Im.im G H u1 x.a) (i2 : Im.im G H u2 x.b) (i3 : Im.im G H u3 x.c) (i4 : Im.im G H u4 x.d) (i5 : Im.im G H u5 x.e) (h : H' a = some (.tup [u1, u2, u3, u4, u5])) (s : Stab G H H') : Im.im G H' (.ref a) x :=
  ⟨a, u1, u2, u3, u4, u5, rfl, h, Im.st i1 s, Im.st i2 s, Im.st i3 s, Im.st i4 s, Im.st i5 s⟩
end
class IsRef (G : Gx) (α : Type) [Im G α] : Prop where
  isref : ∀ {H : Hp} {v : V} {x : α}, Im.im G H v x → ∃ a, v = .ref a
theorem isref {α : Type} [Im G α] [IsRef G α] {H : Hp} {v : V} {x : α} (h : Im.im G H v x) : ∃ a, v = .ref a := IsRef.isref h
section
variable {α β γ δ ε : Type} [Im G α] [Im G β] [Im G γ] [Im G δ] [Im G ε]
instance : IsRef G (List α) := ⟨fun h => by obtain ⟨a, _, e, _⟩ := h; exact ⟨a, e⟩⟩
instance : IsRef G (T1 α) := ⟨fun h => by obtain ⟨a, _, e, _⟩ := h; exact ⟨a, e⟩⟩
instance : IsRef G (α × β) := ⟨fun h => by obtain ⟨a, _, _, e, _⟩ := h; exact ⟨a, e⟩⟩
instance : IsRef G (T3 α β γ) := ⟨fun h => by obtain ⟨a, _, _, _, e, _⟩ := h; exact ⟨a, e⟩⟩
instance : IsRef G (T4 α β γ δ) := ⟨fun h => by obtain ⟨a, _, _, _, _, e, _⟩ := h; exact ⟨a, e⟩⟩
instance : IsRef G (T5 α β γ δ ε) := ⟨fun h => by obtain ⟨a, _, _, _, _, _, e, _⟩ := h; exact ⟨a, e⟩⟩
end
section
variable {σ σ' : St} {H : Hp} {L : List (Asn G)} {D : Ends} {Q : VK} {te ta tb : TE} {α : Type} {K : PySem.W.Frag} {v : V}
/-- a tuple is laid -/
theorem k_tupP [Im G α] {vs : List V} {x : α} (hS : Sep H L) (mk : ∀ (H' : Hp) (p : Addr), H' p = some (.tup vs) → Stab G H H' → Im.im G H' (.ref p) x) (hl : vs.length ≤ sizeLine)
    (k : ∀ p H', Sep H' (imA (.ref p) x :: L) → Q (.ref p) H') : tupK Q vs H :=
  ⟨hl, fun p hp => k p _ ((hS.more (same_new hp)).addIm (mk _ p upd_same (.of_same (same_new hp))))⟩
theorem ev_ixT {a : Addr} {i : Int} {us : List V} (ha : Ev ta σ H (.ref a)) (hb : Ev tb σ H (.int i)) (h : H a = some (.tup us)) (e : atI us i = some v) : Ev (tOp (rIxT K) ta tb) σ H v :=
  ev_op ha hb fun _ q => ⟨a, us, i, v, rfl, rfl, SqT.of h, e, q⟩
theorem r_ixT {a : Addr} {i : Int} {us : List V} (h : H a = some (.tup us)) (e : atI us i = some v) (q : Q v H) : rIxT K (.ref a) (.int i) H Q := ⟨a, us, i, v, rfl, rfl, SqT.of h, e, q⟩
/-- a field -/
theorem ev_fld {a C dx : Addr} {fs : List (Str × V)} {f : Str} (ha : Ev ta σ H (.ref a)) (h : H a = some (.ins C dx fs)) (c : Cls K C) (n : NoAttr K C f) (l : fs.lookup f = some v) : Ev (tFld K ta f) σ H v :=
  fun _ q => ha _ ⟨a, C, dx, fs, v, rfl, h, c, n, l, q⟩
end
end Ml
namespace Ml
open PySem L2
inductive Any where
  | str (s : Str) | int (i : Int) | bl (b : Bool) | non | tup (xs : List Any) | lst (xs : List Any) | oth (k : Nat)
section
variable (G : Gx)
mutual
def imAny (H : Hp) : V → Any → Prop
  | v, .str s => v = .str s
  | v, .int i => v = .int i
  | v, .bl b => v = .bl b
  | v, .non => v = .non
  | v, .tup xs => ∃ a vs, v = .ref a ∧ H a = some (.tup vs) ∧ imAnyL H vs xs
  | v, .lst xs => ∃ a vs, v = .ref a ∧ (∃ o, H a = some (.frz o (.lst vs))) ∧ imAnyL H vs xs
  | v, .oth k => ∃ a o, v = .ref a ∧ H a = some o ∧ kindOf o = k ∧ (k = 0 ∨ k = 1)
def imAnyL (H : Hp) : List V → List Any → Prop
  | [], [] => True
  | v :: vs, x :: xs => imAny H v x ∧ imAnyL H vs xs
  | _, _ => False
end
variable {G} {H H' : Hp}
mutual
theorem imAny.st : ∀ {v : V} {x : Any}, imAny H v x → Stab G H H' → imAny H' v x
  | v, .str s, h, _ => by rw [imAny] at h ⊢; exact h
  | v, .int i, h, _ => by rw [imAny] at h ⊢; exact h
  | v, .bl b, h, _ => by rw [imAny] at h ⊢; exact h
  | v, .non, h, _ => by rw [imAny] at h ⊢; exact h
  | v, .tup xs, h, s => by
    rw [imAny] at h ⊢
    obtain ⟨a, vs, e, g, m⟩ := h
    exact ⟨a, vs, e, s.1 a _ g rfl, imAnyL.st m s⟩
  | v, .lst xs, h, s => by
    rw [imAny] at h ⊢
    obtain ⟨a, vs, e, ⟨o, g⟩, m⟩ := h
    exact ⟨a, vs, e, ⟨o, s.1 a _ g rfl⟩, imAnyL.st m s⟩
  | v, .oth k, h, s => by
    rw [imAny] at h ⊢
    obtain ⟨a, o, e, g, q, z⟩ := h
    obtain ⟨o', g', q'⟩ := s.2 a o g
    exact ⟨a, o', e, g', q'.trans q, z⟩
theorem imAnyL.st : ∀ {vs : List V} {xs : List Any}, imAnyL H vs xs → Stab G H H' → imAnyL H' vs xs
  | [], [], h, _ => h
  | v :: vs, x :: xs, h, s => by
    rw [imAnyL] at h ⊢
    exact ⟨imAny.st h.1 s, imAnyL.st h.2 s⟩
  | [], _ :: _, h, _ => by rw [imAnyL] at h; exact h.elim; all_goals simp
  | _ :: _, [], h, _ => by rw [imAnyL] at h; exact h.elim; all_goals simp
end
instance imAnyI : Im G Any := ⟨fun H v x => imAny H v x, fun h s => imAny.st h s⟩
end
variable {G : Gx} {H : Hp} {L : List (Asn G)}
theorem any_str {v : V} {s : Str} : Im.im G H v (Any.str s) ↔ v = .str s := by show imAny H v (.str s) ↔ _; rw [imAny]
theorem any_int {v : V} {s : Int} : Im.im G H v (Any.int s) ↔ v = .int s := by show imAny H v (.int s) ↔ _; rw [imAny]
theorem any_bl {v : V} {s : Bool} : Im.im G H v (Any.bl s) ↔ v = .bl s := by show imAny H v (.bl s) ↔ _; rw [imAny]
theorem any_non {v : V} : Im.im G H v Any.non ↔ v = .non := by show imAny H v .non ↔ _; rw [imAny]
theorem imAnyL_eq : ∀ {vs : List V} {xs : List Any}, imAnyL H vs xs ↔ imL (G := G) H vs xs
  | [], [] => by rw [imAnyL]; exact Iff.rfl
  | v :: vs, x :: xs => by
    rw [imAnyL]
    exact and_congr_right fun _ => imAnyL_eq (vs := vs) (xs := xs)
  | [], _ :: _ => ⟨fun h => by rw [imAnyL] at h; exact h.elim; all_goals simp, fun h => h.elim⟩
  | _ :: _, [] => ⟨fun h => by rw [imAnyL] at h; exact h.elim; all_goals simp, fun h => h.elim⟩
theorem any_tup {v : V} {xs : List Any} : Im.im G H v (Any.tup xs) ↔ ∃ a vs, v = .ref a ∧ H a = some (.tup vs) ∧ imL (G := G) H vs xs := by
  show imAny H v (.tup xs) ↔ _
  rw [imAny]
  exact exists_congr fun a => exists_congr fun vs => and_congr_right fun _ => and_congr_right fun _ => imAnyL_eq
theorem any_lsts {v : V} {xs : List Any} : Im.im G H v (Any.lst xs) ↔ ∃ a vs, v = .ref a ∧ (∃ o, H a = some (.frz o (.lst vs))) ∧ imL (G := G) H vs xs := by
  show imAny H v (.lst xs) ↔ _
  rw [imAny]
  exact exists_congr fun a => exists_congr fun vs => and_congr_right fun _ => and_congr_right fun _ => imAnyL_eq
theorem any_oth {v : V} {k : Nat} : Im.im G H v (Any.oth k) ↔ ∃ a o, v = .ref a ∧ H a = some o ∧ kindOf o = k ∧ (k = 0 ∨ k = 1) := by
  show imAny H v (.oth k) ↔ _
  rw [imAny]
def Any.ty : Any → String
  | .str _ => "str"
  | .int _ => "int"
  | .bl _ => "bool"
  | .non => "NoneType"
  | .tup _ => "tuple"
  | .lst _ => "list"
  | .oth 0 => "list"
  | .oth _ => "dict"
theorem ty_of_kind {K : PySem.W.Frag} {a : Addr} {o : HO} {k : Nat} (h : H a = some o) (e : kindOf o = k) (z : k = 0 ∨ k = 1) : TyX K H (.ref a) (.type (Any.oth k).ty) := by
  rcases z with rfl | rfl
  · cases o with
    | lst xs => exact .base (.lst h)
    | frz o x => cases x with
      | lst xs => exact .base (.frz h)
      | _ => cases e
    | _ => cases e
  · cases o with
    | dK xs => exact .base (.dK h)
    | frz o x => cases x with
      | dK xs => exact .fDict h
      | _ => cases e
    | _ => cases e
theorem ty_any {v : V} {x : Any} (h : Im.im G H v x) : TyX G.K H v (.type x.ty) := by
  cases x with
  | str s => rw [any_str] at h; subst h; exact .base (.str s)
  | int s => rw [any_int] at h; subst h; exact .base (.int s)
  | bl s => rw [any_bl] at h; subst h; exact .base (.bl s)
  | non => rw [any_non] at h; subst h; exact .base .non
  | tup xs => rw [any_tup] at h; obtain ⟨a, vs, rfl, g, _⟩ := h; exact .base (.tup g)
  | lst xs => rw [any_lsts] at h; obtain ⟨a, vs, rfl, ⟨o, g⟩, _⟩ := h; exact .base (.frz g)
  | oth k => rw [any_oth] at h; obtain ⟨a, o, rfl, g, q, z⟩ := h; exact ty_of_kind g q z
/-- isinstance of a plain type -/
def Any.is (x : Any) (t : String) : Bool := x.ty == t || (x.ty == "bool" && t == "int")
theorem any_kit (x : Any) (t : String) (ht : t ∈ ["str", "int", "bool", "tuple", "list", "dict"]) : kitB x.ty t = some (x.is t) := by
  have : ∀ u, u ∈ ["str", "int", "bool", "tuple", "list", "dict", "NoneType"] → ∀ t, t ∈ ["str", "int", "bool", "tuple", "list", "dict"] → kitB u t = some (u == t || (u == "bool" && t == "int")) := by decide +kernel
  refine this _ ?_ t ht
  unfold Any.ty
  split <;> decide
theorem ev_isAny {σ : St} {ta tb : TE} {v : V} {x : Any} {t : String} (ha : Ev ta σ H v) (hb : Ev tb σ H (.ty t)) (h : Im.im G H v x) (ht : t ∈ ["str", "int", "bool", "tuple", "list", "dict"]) : Ev (tCB (rIsi G.K) (tCons ta (tCons tb tNil))) σ H (.bl (x.is t)) :=
  ev_isi ha hb (ty_any h) (any_kit x t ht)
end Ml
namespace Ml
open PySem L2
variable {G : Gx} {H : Hp} {L : List (Asn G)} {ρ : Type} {q : ρ → Prop} {e : Exc → Prop} {Q : VK} {σ : St}
def Any.asStr : Any → R Str
  | .str s => .ok s
  | _ => .bad
def Any.asInt : Any → R Int
  | .int s => .ok s
  | _ => .bad
def Any.asTup : Any → R (List Any)
  | .tup s => .ok s
  | _ => .bad
theorem wp_asStr {x : Any} {f : Str → R ρ} (h : R.wp (x.asStr.bind f) q e) : ∃ s, x = .str s ∧ R.wp (f s) q e := by
  cases x with
  | str s => exact ⟨s, rfl, h⟩
  | _ => exact h.elim
theorem wp_asInt {x : Any} {f : Int → R ρ} (h : R.wp (x.asInt.bind f) q e) : ∃ s, x = .int s ∧ R.wp (f s) q e := by
  cases x with
  | int s => exact ⟨s, rfl, h⟩
  | _ => exact h.elim
theorem wp_asTup {x : Any} {f : List Any → R ρ} (h : R.wp (x.asTup.bind f) q e) : ∃ s, x = .tup s ∧ R.wp (f s) q e := by
  cases x with
  | tup s => exact ⟨s, rfl, h⟩
  | _ => exact h.elim
theorem v_str {v : V} {x : Any} {s : Str} (h : Im.im G H v x) (e : x = .str s) : v = .str s := any_str.mp (e ▸ h)
theorem v_int {v : V} {x : Any} {s : Int} (h : Im.im G H v x) (e : x = .int s) : v = .int s := any_int.mp (e ▸ h)
/-- a tuple, of things of any sort -/
theorem k_tupA {vs : List V} {xs : List Any} (hS : Sep H L) (m : imL (G := G) H vs xs) (hl : vs.length ≤ sizeLine) (k : ∀ p H', Sep H' (imA (.ref p) (Any.tup xs) :: L) → Q (.ref p) H') :
    tupK Q vs H :=
  ⟨hl, fun p hp => k p _ ((hS.more (same_new hp)).addIm (any_tup.mpr ⟨p, vs, rfl, upd_same, m.st (.of_same (same_new hp))⟩))⟩
end Ml
namespace Ml
open PySem L2
variable {G : Gx}
section
variable {α β γ δ ε : Type} [Lay α] [Lay β] [Lay γ] [Lay δ] [Lay ε]
instance layList : Lay (List α) := ⟨layAllB⟩
instance layT1 : Lay (T1 α) := ⟨fun x => Lay.lay x.a⟩
instance layT2 : Lay (α × β) := ⟨fun x => Lay.lay x.1 && Lay.lay x.2⟩
instance layT3 : Lay (T3 α β γ) := ⟨fun x => Lay.lay x.a && (Lay.lay x.b && Lay.lay x.c)⟩
instance layT4 : Lay (T4 α β γ δ) := ⟨fun x => Lay.lay x.a && (Lay.lay x.b && (Lay.lay x.c && Lay.lay x.d))⟩
instance layT5 : Lay (T5 α β γ δ ε) := ⟨fun x => Lay.lay x.a && (Lay.lay x.b && (Lay.lay x.c && (Lay.lay x.d && Lay.lay x.e)))⟩
end
section
variable {α β γ δ ε : Type} [Im G α] [DecidableEq α] [Lay α] [Pd G α] [Im G β] [DecidableEq β] [Lay β] [Pd G β] [Im G γ] [DecidableEq γ] [Lay γ] [Pd G γ] [Im G δ] [DecidableEq δ] [Lay δ] [Pd G δ] [Im G ε] [DecidableEq ε] [Lay ε] [Pd G ε]
instance pdList : Pd G (List α) where
  pd := fun xs => .list (xs.map (Pd.pd G))
  dep := Pd.dep G α + 1
  dp := fun {H v x} h => by
    obtain ⟨a, vs, rfl, ⟨o, g⟩, m⟩ := h
    exact .lst (.inl (.inr ⟨o, g⟩)) (dpAll m)
  lay_ok := fun x h => layAll (G := G) h
  dep_ok := fun x => Nat.succ_le_succ (depAll (G := G) x)
  eqv := fun x y => eqvAll_is x y
theorem canTup (ds : List PyData) : (PyData.tuple ds).canLay0 = PyData.canLayAll0 ds := rfl
theorem canCons (d : PyData) (ds : List PyData) : PyData.canLayAll0 (d :: ds) = (d.canLay0 && PyData.canLayAll0 ds) := rfl
theorem depTup (ds : List PyData) : (PyData.tuple ds).depth = PyData.depthAll ds + 1 := rfl
theorem depCons (d : PyData) (ds : List PyData) : PyData.depthAll (d :: ds) = max d.depth (PyData.depthAll ds) := rfl
theorem depNil : PyData.depthAll [] = 0 := rfl
theorem eqvTup (ds es : List PyData) : PyData.eqv (.tuple ds) (.tuple es) = PyData.eqvAll ds es := rfl
theorem eqvCons (d e : PyData) (ds es : List PyData) : PyData.eqvAll (d :: ds) (e :: es) = (PyData.eqv d e && PyData.eqvAll ds es) := rfl
theorem eqvNil : PyData.eqvAll [] [] = true := rfl
instance pdT1 : Pd G (T1 α) where
  pd := fun x => .tuple [Pd.pd G x.a]
  dep := Pd.dep G α + 1
  dp := fun {H v x} h => by
    obtain ⟨a, u1, rfl, g, i1⟩ := h
    exact .tup (SqT.of g) (.cons (Pd.dp i1) .nil)
  lay_ok := fun x h => by rw [canTup, canCons, Pd.lay_ok x.a h]; rfl
  dep_ok := fun x => by
    rw [depTup, depCons, depNil]
    have := Pd.dep_ok (G := G) x.a
    omega
  eqv := fun x y => by
    rw [eqvTup, eqvCons, eqvNil, Pd.eqv]
    obtain ⟨a⟩ := x; obtain ⟨b⟩ := y
    simp
instance pdT2 : Pd G (α × β) where
  pd := fun x => .tuple [Pd.pd G x.1, Pd.pd G x.2]
  dep := max (Pd.dep G α) (Pd.dep G β) + 1
  dp := fun {H v x} h => by
    obtain ⟨a, u1, u2, rfl, g, i1, i2⟩ := h
    exact .tup (SqT.of g) (.cons (Pd.dp i1) (.cons (Pd.dp i2) .nil))
  lay_ok := fun x h => by
    have h : (Lay.lay x.1 && Lay.lay x.2) = true := h
    rw [Bool.and_eq_true] at h
    rw [canTup, canCons, canCons, Pd.lay_ok x.1 h.1, Pd.lay_ok x.2 h.2]; rfl
  dep_ok := fun x => by
    rw [depTup, depCons, depCons, depNil]
    have := Pd.dep_ok (G := G) x.1
    have := Pd.dep_ok (G := G) x.2
    omega
  eqv := fun x y => by
    rw [eqvTup, eqvCons, eqvCons, eqvNil, Pd.eqv, Pd.eqv]
    obtain ⟨a, b⟩ := x; obtain ⟨c, d⟩ := y
    simp
instance pdT3 : Pd G (T3 α β γ) where
  pd := fun x => .tuple [Pd.pd G x.a, Pd.pd G x.b, Pd.pd G x.c]
  dep := max (Pd.dep G α) (max (Pd.dep G β) (Pd.dep G γ)) + 1
  dp := fun {H v x} h => by
    obtain ⟨a, u1, u2, u3, rfl, g, i1, i2, i3⟩ := h
    exact .tup (SqT.of g) (.cons (Pd.dp i1) (.cons (Pd.dp i2) (.cons (Pd.dp i3) .nil)))
  lay_ok := fun x h => by
    have h : (Lay.lay x.a && (Lay.lay x.b && Lay.lay x.c)) = true := h
    simp only [Bool.and_eq_true] at h
    rw [canTup, canCons, canCons, canCons, Pd.lay_ok x.a h.1, Pd.lay_ok x.b h.2.1, Pd.lay_ok x.c h.2.2]; rfl
  dep_ok := fun x => by
    rw [depTup, depCons, depCons, depCons, depNil]
    have := Pd.dep_ok (G := G) x.a
    have := Pd.dep_ok (G := G) x.b
    have := Pd.dep_ok (G := G) x.c
    omega
  eqv := fun x y => by
    rw [eqvTup, eqvCons, eqvCons, eqvCons, eqvNil, Pd.eqv, Pd.eqv, Pd.eqv]
    obtain ⟨a, b, c⟩ := x; obtain ⟨d, e, f⟩ := y
    simp
instance pdT4 : Pd G (T4 α β γ δ) where
  pd := fun x => .tuple [Pd.pd G x.a, Pd.pd G x.b, Pd.pd G x.c, Pd.pd G x.d]
  dep := max (Pd.dep G α) (max (Pd.dep G β) (max (Pd.dep G γ) (Pd.dep G δ))) + 1
  dp := fun {H v x} h => by
    obtain ⟨a, u1, u2, u3, u4, rfl, g, i1, i2, i3, i4⟩ := h
    exact .tup (SqT.of g) (.cons (Pd.dp i1) (.cons (Pd.dp i2) (.cons (Pd.dp i3) (.cons (Pd.dp i4) .nil))))
  lay_ok := fun x h => by
    have h : (Lay.lay x.a && (Lay.lay x.b && (Lay.lay x.c && Lay.lay x.d))) = true := h
    simp only [Bool.and_eq_true] at h
    rw [canTup, canCons, canCons, canCons, canCons, Pd.lay_ok x.a h.1, Pd.lay_ok x.b h.2.1, Pd.lay_ok x.c h.2.2.1, Pd.lay_ok x.d h.2.2.2]; rfl
  dep_ok := fun x => by
    rw [depTup, depCons, depCons, depCons, depCons, depNil]
    have := Pd.dep_ok (G := G) x.a
    have := Pd.dep_ok (G := G) x.b
    have := Pd.dep_ok (G := G) x.c
    have := Pd.dep_ok (G := G) x.d
    omega
  eqv := fun x y => by
    rw [eqvTup, eqvCons, eqvCons, eqvCons, eqvCons, eqvNil, Pd.eqv, Pd.eqv, Pd.eqv, Pd.eqv]
    obtain ⟨a, b, c, d⟩ := x; obtain ⟨a', b', c', d'⟩ := y
    simp
instance pdT5 : Pd G (T5 α β γ δ ε) where
  pd := fun x => .tuple [Pd.pd G x.a, Pd.pd G x.b, Pd.pd G x.c, Pd.pd G x.d, Pd.pd G x.e]
  dep := max (Pd.dep G α) (max (Pd.dep G β) (max (Pd.dep G γ) (max (Pd.dep G δ) (Pd.dep G ε)))) + 1
  dp := fun {H v x} h => by
    obtain ⟨a, u1, u2, u3, u4, u5, rfl, g, i1, i2, i3, i4, i5⟩ := h
    exact .tup (SqT.of g) (.cons (Pd.dp i1) (.cons (Pd.dp i2) (.cons (Pd.dp i3) (.cons (Pd.dp i4) (.cons (Pd.dp i5) .nil)))))
  lay_ok := fun x h => by
    have h : (Lay.lay x.a && (Lay.lay x.b && (Lay.lay x.c && (Lay.lay x.d && Lay.lay x.e)))) = true := h
    simp only [Bool.and_eq_true] at h
    rw [canTup, canCons, canCons, canCons, canCons, canCons, Pd.lay_ok x.a h.1, Pd.lay_ok x.b h.2.1, Pd.lay_ok x.c h.2.2.1, Pd.lay_ok x.d h.2.2.2.1, Pd.lay_ok x.e h.2.2.2.2]; rfl
  dep_ok := fun x => by
    rw [depTup, depCons, depCons, depCons, depCons, depCons, depNil]
    have := Pd.dep_ok (G := G) x.a
    have := Pd.dep_ok (G := G) x.b
    have := Pd.dep_ok (G := G) x.c
    have := Pd.dep_ok (G := G) x.d
    have := Pd.dep_ok (G := G) x.e
    omega
  eqv := fun x y => by
    rw [eqvTup, eqvCons, eqvCons, eqvCons, eqvCons, eqvCons, eqvNil, Pd.eqv, Pd.eqv, Pd.eqv, Pd.eqv, Pd.eqv]
    obtain ⟨a, b, c, d, e⟩ := x; obtain ⟨a', b', c', d', e'⟩ := y
    simp
end
mutual
def pdA : Any → PyData
  | .str s => .str s
  | .int i => .int i
  | .bl b => .bool b
  | .non => .none
  | .tup xs => .tuple (pdAL xs)
  | .lst xs => .list (pdAL xs)
  | .oth _ => .none
def pdAL : List Any → List PyData
  | [] => []
  | x :: xs => pdA x :: pdAL xs
end
mutual
def plA : Any → Bool
  | .tup xs => plAL xs
  | .lst xs => plAL xs
  | .oth _ => false
  | _ => true
def plAL : List Any → Bool
  | [] => true
  | x :: xs => plA x && plAL xs
end
section
variable {H : Hp}
mutual
theorem dpA : ∀ {v : V} {x : Any}, imAny H v x → plA x = true → Dp G.K H v (pdA x)
  | v, .str s, h, _ => by rw [imAny] at h; subst h; rw [pdA]; exact .str s
  | v, .int s, h, _ => by rw [imAny] at h; subst h; rw [pdA]; exact .int s
  | v, .bl s, h, _ => by rw [imAny] at h; subst h; rw [pdA]; exact .bl s
  | v, .non, h, _ => by rw [imAny] at h; subst h; rw [pdA]; exact .non
  | v, .tup xs, h, l => by
    rw [imAny] at h; rw [plA] at l; rw [pdA]
    obtain ⟨a, vs, rfl, g, m⟩ := h
    exact .tup (SqT.of g) (dpAL m l)
  | v, .lst xs, h, l => by
    rw [imAny] at h; rw [plA] at l; rw [pdA]
    obtain ⟨a, vs, rfl, ⟨o, g⟩, m⟩ := h
    exact .lst (.inl (.inr ⟨o, g⟩)) (dpAL m l)
  | v, .oth k, h, l => by rw [plA] at l; cases l
theorem dpAL : ∀ {vs : List V} {xs : List Any}, imAnyL H vs xs → plAL xs = true → DpAll G.K H vs (pdAL xs)
  | [], [], h, _ => by rw [pdAL]; exact .nil
  | v :: vs, x :: xs, h, l => by
    rw [imAnyL] at h; rw [plAL, Bool.and_eq_true] at l; rw [pdAL]
    exact .cons (dpA h.1 l.1) (dpAL h.2 l.2)
  | [], _ :: _, h, _ => by rw [imAnyL] at h; exact h.elim; all_goals simp
  | _ :: _, [], h, _ => by rw [imAnyL] at h; exact h.elim; all_goals simp
end
end
/-- x == y of things of any sort -/
def eqA (x y : Any) : R Bool := R.need (plA x = true ∧ plA y = true ∧ SeqAt.shaped (pdA x) = true ∧ SeqAt.shaped (pdA y) = true) (.ok (PyData.eqv (pdA x) (pdA y)))
section
variable {H : Hp} {σ : St} {ta tb : TE} {Q : VK} {v w : V} {x y : Any} {ρ : Type} {q : ρ → Prop} {e : Exc → Prop}
theorem wp_eqA {f : Bool → R ρ} (h : R.wp ((eqA x y).bind f) q e) : ∃ b, (plA x = true ∧ plA y = true ∧ SeqAt.shaped (pdA x) = true ∧ SeqAt.shaped (pdA y) = true ∧ b = PyData.eqv (pdA x) (pdA y)) ∧ R.wp (f b) q e := by
  unfold eqA R.need at h
  by_cases c : plA x = true ∧ plA y = true ∧ SeqAt.shaped (pdA x) = true ∧ SeqAt.shaped (pdA y) = true
  · rw [if_pos c] at h; exact ⟨_, ⟨c.1, c.2.1, c.2.2.1, c.2.2.2, rfl⟩, h⟩
  · rw [if_neg c] at h; exact h.elim
theorem ev_eqA {b : Bool} (ha : Ev ta σ H v) (hb : Ev tb σ H w) (i1 : Im.im G H v x) (i2 : Im.im G H w y) (h : plA x = true ∧ plA y = true ∧ SeqAt.shaped (pdA x) = true ∧ SeqAt.shaped (pdA y) = true ∧ b = PyData.eqv (pdA x) (pdA y)) :
    Ev (tOp (rEqD G.K) ta tb) σ H (.bl b) := ev_op ha hb fun Q q => by
  obtain ⟨h1, h2, h3, h4, rfl⟩ := h
  exact ⟨_, _, dpA i1 h1, dpA i2 h2, h3, h4, q⟩
end
end Ml
namespace L2
open PySem PySem.Spec PyProof.Rows
/-- list + list, either may be locked -/
def rCatR : R2 := fun x y H Q => ∃ l b xs zs, x = .ref l ∧ y = .ref b ∧ Rd H l (.lst xs) ∧ Rd H b (.lst zs) ∧ xs.length + zs.length ≤ sizeLine ∧ ∀ p, H p = none → Q (.ref p) (upd H p (.lst (xs ++ zs)))
theorem op_catR {X : Cx} : OpR X (binaryOp .Add) rCatR := by
  intro pins s σ H x y v u Q I rx ry h
  obtain ⟨l, b, xs, zs, rfl, rfl, hH, hB, hz, q⟩ := h
  cases rx
  cases ry
  obtain ⟨z, its, n, r, e⟩ := hH.ok I.hok
  obtain ⟨z2, its2, n2, r2, e2⟩ := hB.ok I.hok
  have hl := r.length
  have hl2 := r2.length
  refine PySem.P.add_list e e2 ?_ (by rw [List.size_toArray, List.size_toArray]; omega)
  have ea : its.toArray ++ its2.toArray = (its ++ its2).toArray := by simp
  rw [ea]
  exact ⟨.ref _, _, I.lnew (t' := s.toks) (r.append r2) (by rw [List.length_append]; omega), rfl, q _ I.fresh⟩
/-- len of a text, a list, a tuple -/
def rLenAny (K : PySem.W.Frag) : List V → Hp → VK → Prop := fun xs H Q => Ml.rLenS xs H Q ∨ Ml.rLenSq K xs H Q
theorem call_lenAny {X : Cx} : CallR X (.builtin "len") (rLenAny X.K) := by
  intro pins s σ H xs us Q I r h
  rcases h with h | h
  · exact Ml.call_lenS pins s σ H xs us Q I r h
  · exact Ml.call_lenSq pins s σ H xs us Q I r h
end L2
namespace Ml
open PySem L2
variable {G : Gx}
section
variable {σ σ' : St} {H : Hp} {L L' : List (Asn G)} {D : Ends} {Q : VK} {te ta tb : TE} {α β τ ρ : Type} {v w : V} {q : ρ → Prop} {e : Exc → Prop}
theorem k_catG [Im G α] {a b : Addr} {xs ys : List α} (hS : Sep H L) (h1 : ∃ vs, Rd H a (.lst vs) ∧ imL (G := G) H vs xs) (h2 : ∃ vs, Rd H b (.lst vs) ∧ imL (G := G) H vs ys) (z : xs.length + ys.length ≤ sizeLine)
    (k : ∀ p H', Sep H' (lstA p (xs ++ ys) :: L) → Q (.ref p) H') : rCatR (.ref a) (.ref b) H Q := by
  obtain ⟨vs, r1, m1⟩ := h1
  obtain ⟨ws, r2, m2⟩ := h2
  exact ⟨a, b, vs, ws, rfl, rfl, r1, r2, by rw [m1.len, m2.len]; exact z, fun p hp => k p _ (hS.newL hp (m1.app m2))⟩
theorem k_slG [Im G α] {a : Addr} {xs : List α} {lo hi : Option Int} (hS : Sep H L) (h : ∃ vs, SqL G.K H a vs ∧ imL (G := G) H vs xs)
    (k : ∀ p H', Sep H' (lstA p (cutL xs lo hi) :: L) → Q (.ref p) H') : rSlL G.K (.ref a) lo hi H Q := by
  obtain ⟨vs, h, m⟩ := h
  exact ⟨a, vs, rfl, h, fun p hp => k p _ (hS.newL hp (cutL_im m))⟩
theorem ev_lenG [Im G α] {a : Addr} {xs : List α} (ha : Ev ta σ H (.ref a)) (h : ∃ vs, SqL G.K H a vs ∧ imL (G := G) H vs xs) : Ev (tCB (rLenSq G.K) (tCons ta tNil)) σ H (.int xs.length) := by
  obtain ⟨vs, s, m⟩ := h
  have := ev_lenL ha s
  rw [m.len] at this
  exact this
/-- the rule on values alone -/
theorem ev_op2 {r : R2} {x y : V} (h : Ev (tOp r (tC x) (tC y)) [] H v) (q : Q v H) : r x y H Q := h Q q
theorem ev_cb2 {r : List V → Hp → VK → Prop} {x y : V} (h : Ev (tCB r (tCons (tC x) (tCons (tC y) tNil))) [] H v) (q : Q v H) : r [x, y] H Q := h Q q
theorem any_tupE {v : V} {x : Any} {xs : List Any} (h : Im.im G H v x) (e : x = .tup xs) : ∃ a vs, v = .ref a ∧ H a = some (.tup vs) ∧ imL (G := G) H vs xs := any_tup.mp (e ▸ h)
def lenA : Any → R Int
  | .str s => R.need (s.length ≤ sizeLine) (.ok s.length)
  | .tup xs => .ok xs.length
  | .lst xs => .ok xs.length
  | _ => .bad
theorem wp_lenA {x : Any} {f : Int → R ρ} (h : R.wp ((lenA x).bind f) q e) : ∃ n, lenA x = .ok n ∧ R.wp (f n) q e := by
  cases c : lenA x with
  | ok n => rw [c] at h; exact ⟨n, rfl, h⟩
  | exc y => exact absurd c (by cases x <;> simp [lenA, R.need] <;> split <;> simp)
  | bad => rw [c] at h; exact h.elim
theorem ev_lenA {x : Any} {n : Int} (ha : Ev ta σ H v) (h : Im.im G H v x) (hn : lenA x = .ok n) : Ev (tCB (rLenAny G.K) (tCons ta tNil)) σ H (.int n) := ev_cb (ea_cons ha ea_nil) fun Q q => by
  cases x with
  | str s =>
    rw [any_str] at h; subst h
    have hn : R.need (s.length ≤ sizeLine) (.ok (s.length : Int)) = .ok n := hn
    by_cases c : s.length ≤ sizeLine
    · rw [R.need_pos c] at hn; cases hn; exact .inl ⟨s, rfl, c, q⟩
    · unfold R.need at hn; rw [if_neg c] at hn; cases hn
  | tup xs =>
    rw [any_tup] at h
    obtain ⟨a, vs, rfl, g, m⟩ := h
    cases hn
    exact .inr ⟨a, vs, rfl, .inr (SqT.of g), by rw [m.len]; exact q⟩
  | lst xs =>
    rw [any_lsts] at h
    obtain ⟨a, vs, rfl, ⟨o, g⟩, m⟩ := h
    cases hn
    exact .inr ⟨a, vs, rfl, .inl (.inl (.inr ⟨o, g⟩)), by rw [m.len]; exact q⟩
  | _ => cases hn
def intR (a : Str) : R Int := match PySem.intText? a with
  | some n => R.need (a.length ≤ 640) (.ok n)
  | none => .bad
theorem wp_intR {a : Str} {f : Int → R ρ} (h : R.wp ((intR a).bind f) q e) : ∃ n, (PySem.intText? a = some n ∧ a.length ≤ 640) ∧ R.wp (f n) q e := by
  unfold intR at h
  cases c : PySem.intText? a with
  | some n =>
    rw [c] at h
    unfold R.need at h
    by_cases l : a.length ≤ 640
    · dsimp only at h; rw [if_pos l] at h; exact ⟨n, ⟨rfl, l⟩, h⟩
    · dsimp only at h; rw [if_neg l] at h; exact h.elim
  | none => rw [c] at h; exact h.elim
theorem ev_intS {a : Str} {n : Int} (ha : Ev ta σ H (.str a)) (h : PySem.intText? a = some n ∧ a.length ≤ 640) : Ev (tCB (fun xs H Q => ∃ a n, xs = [.str a] ∧ PySem.intText? a = some n ∧ a.length ≤ 640 ∧ Q (.int n) H) (tCons ta tNil)) σ H (.int n) :=
  ev_cb (ea_cons ha ea_nil) fun _ q => ⟨a, n, rfl, h.1, h.2, q⟩
theorem Sep.newI {C x dx : Addr} (h : Sep H L) (hx : H x = none) (hd : H dx = none) (ne : dx ≠ x) (n : ¬ G.fz C = some 0) : Sep (upd (upd H dx (.own x)) x (.ins C dx [])) (cell x (.ins C dx []) :: L) := by
  have h1 := h.more (same_new (o := HO.own x) hd)
  refine h1.new (o := .ins C dx []) (by rw [upd_ne (Ne.symm ne)]; exact hx) ?_
  show decide (G.fz C = some 0) = false
  exact decide_eq_false n
theorem c_sfld {K : PySem.W.Frag} {f : Str} (h : tb σ H fun y H1 => ta σ H1 fun x H2 => ∃ a C dx fs, x = .ref a ∧ H2 a = some (.ins C dx fs) ∧ Cls K C ∧ NoAttr K C f ∧ fs.length < 1000 ∧ D.nx σ (upd H2 a (.ins C dx (putF f y fs)))) : sFld K ta tb f D σ H := h
theorem k_sfld {K : PySem.W.Frag} {i : Nat} {a C dx : Addr} {fs fs' : List (Str × V)} {f : Str} {y : V} (hS : Sep H L) (e : L[i]? = some (cell a (.ins C dx fs))) (c : Cls K C) (n : NoAttr K C f) (ef : putF f y fs = fs') (hl : fs.length < 1000)
    (np : per G (.ins C dx fs') = false) (eL : L.set i (cell a (.ins C dx fs')) = L') (k : ∀ H', Sep H' L' → D.nx σ H') :
    ∃ a' C' dx' fs'', V.ref a = .ref a' ∧ H a' = some (.ins C' dx' fs'') ∧ Cls K C' ∧ NoAttr K C' f ∧ fs''.length < 1000 ∧ D.nx σ (upd H a' (.ins C' dx' (putF f y fs''))) := by
  refine ⟨a, C, dx, fs, rfl, hS.getCell e, c, n, hl, ?_⟩
  rw [ef]
  refine k _ ?_
  subst eL
  exact hS.put e np rfl
theorem k_sfldP {K : PySem.W.Frag} {i : Nat} {a C dx : Addr} {fs fs' : List (Str × V)} {f : Str} {y : V} (hS : Sep H L) (e : L[i]? = some (cell a (.ins C dx fs))) (c : Cls K C) (n : NoAttr K C f) (ef : putF f y fs = fs') (hl : fs.length < 1000)
    (np : per G (.ins C dx fs') = true) (eL : L.eraseIdx i = L') (k : ∀ H', H' a = some (.ins C dx fs') → Stab G H H' → Sep H' L' → D.nx σ H') :
    ∃ a' C' dx' fs'', V.ref a = .ref a' ∧ H a' = some (.ins C' dx' fs'') ∧ Cls K C' ∧ NoAttr K C' f ∧ fs''.length < 1000 ∧ D.nx σ (upd H a' (.ins C' dx' (putF f y fs''))) := by
  refine ⟨a, C, dx, fs, rfl, hS.getCell e, c, n, hl, ?_⟩
  rw [ef]
  have h1 := hS.perm (pull_perm e)
  obtain ⟨fp, ⟨f1, f2, e0, ⟨e1, ho⟩, _⟩, _, h3⟩ := id h1
  subst e1
  obtain ⟨u, hu, nu⟩ := h3 a (by rw [e0]; simp)
  have eu : u = .ins C dx fs := by rw [ho] at hu; cases hu; rfl
  refine k _ upd_same (stab_put hu nu (by rw [eu]; rfl)) ?_
  subst eL
  exact h1.drop1 rfl
theorem c_meth {C : Addr} {m : Str} {sp : Sp} {dvs : List V} {E : XK} {t : TA} (h : ta σ H fun x H1 => ∃ a dx fs, x = .ref a ∧ H1 a = some (.ins C dx fs) ∧ fs.lookup m = none ∧ t σ H1 fun vs H2 => sp (x :: (vs ++ dvs)) H2 Q E) : tMeth C m sp dvs E ta t σ H Q := h
theorem c_make {C : Addr} {sp : Sp} {dvs : List V} {E : XK} {t : TA} (h : t σ H fun vs H1 => ∀ x dx, H1 x = none → H1 dx = none → dx ≠ x → sp (.ref x :: (vs ++ dvs)) (upd (upd H1 dx (.own x)) x (.ins C dx [])) (fun v H2 => v = .non ∧ Q (.ref x) H2) E) : tMake C sp dvs E t σ H Q := h
end
section
variable {X : Cx} (K : PySem.W.Frag) (hK : X.K = K := by rfl)
include hK
theorem sl_tupK : SlR X (rSlT K) := by subst hK; exact sl_tup
theorem lenAnyK : CallR X (.builtin "len") (rLenAny K) := by subst hK; exact call_lenAny
end
end Ml
namespace L2
open PySem PySem.Spec PyProof.Rows
end L2
namespace Ml
open PySem PySem.Spec PyProof.Rows L2
end Ml
namespace Ml
open PySem L2
section
variable {α β σ ρ : Type}
theorem forR_ok {f : σ → α → R σ} (I : List α → σ → Prop) : ∀ {xs : List α} {s : σ} (pre : List α), I pre s → (∀ p x q s, pre ++ xs = p ++ x :: q → I p s → ∃ s', f s x = .ok s' ∧ I (p ++ [x]) s') → ∃ s', forR f xs s = .ok s' ∧ I (pre ++ xs) s'
  | [], s, pre, h0, _ => ⟨s, rfl, by rw [List.append_nil]; exact h0⟩
  | x :: xs, s, pre, h0, hs => by
    obtain ⟨s1, e1, h1⟩ := hs pre x xs s rfl h0
    obtain ⟨s2, e2, h2⟩ := forR_ok I (xs := xs) (s := s1) (pre ++ [x]) h1 fun p y q s e => hs p y q s (by rw [← e]; simp)
    refine ⟨s2, ?_, by rw [List.append_assoc] at h2; exact h2⟩
    show (f s x).bind _ = _
    rw [e1, R.bind_ok]; exact e2
theorem forR_inv {f : σ → α → R σ} {xs : List α} {s : σ} (I : List α → σ → Prop) (h0 : I [] s) (hs : ∀ p x q s, xs = p ++ x :: q → I p s → ∃ s', f s x = .ok s' ∧ I (p ++ [x]) s') : ∃ s', forR f xs s = .ok s' ∧ I xs s' := by
  obtain ⟨s', h1, h2⟩ := forR_ok I (xs := xs) (s := s) [] h0 fun p x q s e => hs p x q s (by simpa using e)
  exact ⟨s', h1, by simpa using h2⟩
theorem compR_map {f : Unit → α → R (Unit × Option β)} {g : α → β} {xs : List α} (h : ∀ x, x ∈ xs → f () x = .ok ((), some (g x))) : compR f xs () = .ok ((), xs.map g) := by
  induction xs with
  | nil => rfl
  | cons x xs ih =>
    show (f () x).bind _ = _
    rw [h x (by simp), R.bind_ok, ih fun y hy => h y (by simp [hy])]
    rfl
theorem idxR_mem {xs : List α} {i : Int} (h0 : 0 ≤ i) (h1 : i < xs.length) : ∃ x, idxR xs i = .ok x ∧ x ∈ xs ∧ xs[i.toNat]? = some x := by
  obtain ⟨x, h, _⟩ := atI_ok h0 h1
  exact ⟨x, idxR_ok h0 h, List.mem_of_getElem? h, h⟩
theorem cutL_sub {xs : List α} {lo hi : Option Int} : (cutL xs lo hi).Sublist xs := (List.take_sublist _ _).trans (List.drop_sublist _ _)
theorem cutL_mem {xs : List α} {lo hi : Option Int} {x : α} (h : x ∈ cutL xs lo hi) : x ∈ xs := cutL_sub.subset h
theorem sIx_nn {n d : Nat} {i : Int} (h : 0 ≤ i) : HT.sIx n d (some i) = min i.toNat n := by
  show (if i < 0 then (i + (n : Int)).toNat else min i.toNat n) = _
  rw [if_neg (by omega)]
theorem cutL_from {xs : List α} {i : Int} (h : 0 ≤ i) : cutL xs (some i) none = xs.drop i.toNat := by
  unfold cutL
  rw [sIx_nn h, HT.sIx_none]
  by_cases c : i.toNat ≤ xs.length
  · rw [Nat.min_eq_left c, List.take_of_length_le (by rw [List.length_drop]; exact Nat.le_refl _)]
  · rw [Nat.min_eq_right (by omega), List.drop_length, List.drop_of_length_le (by omega), List.take_nil]
theorem cutL_but1 {xs : List α} : cutL xs none (some (-1)) = xs.dropLast := by
  unfold cutL
  have e : HT.sIx xs.length xs.length (some (-1)) = (-1 + (xs.length : Int)).toNat := by
    show (if (-1 : Int) < 0 then (-1 + (xs.length : Int)).toNat else min (-1 : Int).toNat xs.length) = _
    rw [if_pos (by decide)]
  rw [HT.sIx_none, e, List.drop_zero, Nat.sub_zero, List.dropLast_eq_take]
  congr 1; omega
theorem rngL_mem {lo x : Int} {n : Nat} (h : x ∈ rngL lo n) : lo ≤ x ∧ x < lo + n := by
  unfold rngL at h
  obtain ⟨i, hi, rfl⟩ := List.mem_map.mp h
  have := List.mem_range.mp hi
  omega
end
theorem len_app (a b : Str) : (a ++ b).length = a.length + b.length := by
  show (a.cps ++ b.cps).size = a.cps.size + b.cps.size
  rw [Array.size_append]
theorem tl_app (a b : Str) : (a ++ b).cps.toList = a.cps.toList ++ b.cps.toList := by
  show (a.cps ++ b.cps).toList = _
  rw [Array.toList_append]
theorem len_tl (x : Str) : x.length = x.cps.toList.length := by simp [Str.length]
theorem str_ext {x y : Str} (h : x.cps.toList = y.cps.toList) : x = y := Str.ext' (Array.toList_inj.mp h)
/-- all signs below 128 -/
def Asc (x : Str) : Prop := ∀ c, c ∈ x.cps.toList → c < 128
theorem Asc.app {a b : Str} (ha : Asc a) (hb : Asc b) : Asc (a ++ b) := fun c hc => by
  rw [tl_app] at hc
  rcases List.mem_append.mp hc with h | h
  · exact ha c h
  · exact hb c h
theorem Asc.lit {x : Str} (h : x.cps.toList.all (· < 128) = true) : Asc x := fun c hc => by
  have := List.all_eq_true.mp h c hc
  simpa using this
theorem Asc.lay {x : Str} (h : Asc x) : (Lay.lay x : Bool) = true := by
  show PyData.strOk x = true
  unfold PyData.strOk
  rw [← Array.all_toList]
  exact List.all_eq_true.mpr fun c hc => decide_eq_true (Nat.lt_trans (h c hc) (by decide))
theorem len_sg (c : Nat) : (sg c).length = 1 := rfl
theorem log2_small {i : Int} (h0 : -1000000000000 < i) (h1 : i < 1000000000000) : i.natAbs.log2 < 1920 := by
  have h : i.natAbs < 2 ^ 40 := by omega
  by_cases z : i.natAbs = 0
  · rw [z]; decide
  · exact Nat.lt_trans ((Nat.log2_lt z).mpr h) (by decide)
theorem tl_num (n : Nat) : (Str.ofString (toString ((n : Nat) : Int))).cps.toList = TL.numL n := TL.tl_num n
end Ml
namespace Ml
open PySem L2
def Ok {α : Type} (m : R α) (P : α → Prop) : Prop := ∃ a, m = .ok a ∧ P a
namespace Ok
variable {α β σ ρ : Type} {P : ρ → Prop}
theorem ret {a : ρ} (h : P a) : Ok (.ok a) P := ⟨a, rfl, h⟩
theorem bind {m : R α} {f : α → R ρ} {Q : α → Prop} (h : Ok m Q) (k : ∀ a, Q a → Ok (f a) P) : Ok (m.bind f) P := by
  obtain ⟨a, e, q⟩ := h
  rw [e, R.bind_ok]; exact k a q
theorem bindE {m : R α} {f : α → R ρ} {a : α} (h : m = .ok a) (k : Ok (f a) P) : Ok (m.bind f) P := by
  rw [h, R.bind_ok]; exact k
theorem lets {a : α} {f : α → R ρ} (k : Ok (f a) P) : Ok ((R.ok a).bind f) P := k
theorem name {a : α} {f : α → R ρ} (k : ∀ y, y = a → Ok (f y) P) : Ok ((R.ok a).bind f) P := k a rfl
theorem need {p : Prop} [Decidable p] {m : R ρ} (h : p) (k : Ok m P) : Ok (R.need p m) P := by rw [R.need_pos h]; exact k
theorem ite {c : Prop} [Decidable c] {a b : R ρ} (h1 : c → Ok a P) (h2 : ¬ c → Ok b P) : Ok (if c then a else b) P := by
  by_cases h : c
  · rw [if_pos h]; exact h1 h
  · rw [if_neg h]; exact h2 h
theorem ifT {c : Prop} [Decidable c] {a b : R ρ} (h : c) (k : Ok a P) : Ok (if c then a else b) P := by rw [if_pos h]; exact k
theorem ifF {c : Prop} [Decidable c] {a b : R ρ} (h : ¬ c) (k : Ok b P) : Ok (if c then a else b) P := by rw [if_neg h]; exact k
theorem mono {Q : ρ → Prop} {m : R ρ} (h : Ok m Q) (k : ∀ a, Q a → P a) : Ok m P := by
  obtain ⟨a, e, q⟩ := h
  exact ⟨a, e, k a q⟩
theorem eq {m : R ρ} {v : ρ} (h : Ok m (· = v)) : m = .ok v := by
  obtain ⟨a, e, q⟩ := h
  rw [e, q]
theorem idx {xs : List α} {i : Int} {f : α → R ρ} (h0 : 0 ≤ i) (h1 : i < xs.length) (k : ∀ x, x ∈ xs → xs[i.toNat]? = some x → Ok (f x) P) : Ok ((idxR xs i).bind f) P := by
  obtain ⟨x, e, m, g⟩ := idxR_mem h0 h1
  rw [e, R.bind_ok]; exact k x m g
theorem forI {f : σ → α → R σ} {xs : List α} {s : σ} {rest : σ → R ρ} (I : List α → σ → Prop) (h0 : I [] s) (hs : ∀ p x q s, xs = p ++ x :: q → I p s → Ok (f s x) (I (p ++ [x]))) (k : ∀ s, I xs s → Ok (rest s) P) : Ok ((forR f xs s).bind rest) P :=
  bind (forR_inv I h0 hs) k
end Ok
theorem pre_lt {α : Type} {xs p q : List α} {x : α} (e : xs = p ++ x :: q) : p.length < xs.length := by
  rw [e, List.length_append, List.length_cons]; omega
theorem lt_line {n m : Nat} (h : n ≤ m) (hm : m < 16777216) : n < sizeLine := Nat.lt_of_le_of_lt h hm
theorem le_line {n : Nat} (h : n ≤ 16777216) : n ≤ sizeLine := h
end Ml
namespace Ml
open PySem PySem.Spec PyProof.Rows L2
variable {G : Gx}
/-- a text, n times -/
def repS (a : Str) (n : Nat) : Str := ⟨(List.replicate n a.cps).foldl (· ++ ·) #[]⟩
theorem rep_tl (a : Str) (n : Nat) : (repS a n).cps.toList = (List.replicate n a.cps.toList).flatten := by
  have g : ∀ (n : Nat) (z : Array Nat), ((List.replicate n a.cps).foldl (· ++ ·) z).toList = z.toList ++ (List.replicate n a.cps.toList).flatten := by
    intro n
    induction n with
    | zero => intro z; simp
    | succ n ih => intro z; simp [List.replicate_succ, ih]
  show ((List.replicate n a.cps).foldl (· ++ ·) #[]).toList = _
  rw [g]; simp
theorem rep_len (a : Str) (n : Nat) : (repS a n).length = a.length * n := by
  rw [len_tl, rep_tl, len_tl]; simp [Nat.mul_comm]
def rRepS : R2 := fun x y H Q => ∃ (a : Str) (n : Int), x = .str a ∧ y = .int n ∧ -(2 ^ 62) ≤ n ∧ a.length * n.toNat ≤ sizeLine ∧ n < 2 ^ 62 ∧ Q (.str (repS a n.toNat)) H
theorem op_repS {X : Cx} : OpR X (binaryOp .Mult) rRepS := by
  intro pins s σ H x y v u Q I rx ry h
  obtain ⟨a, n, rfl, rfl, h1, h2, h3, q⟩ := h
  obtain ⟨t, rfl⟩ := rx
  obtain ⟨t2, rfl⟩ := ry
  refine PySem.P.mul_str (by rw [decide_eq_false (by omega), decide_eq_false (by omega)]; rfl) (fun z1 z2 => ?_) (fun z1 z2 => ?_) ?_
  · have hn : 0 < n := by omega
    intro z
    have h4 : (a.length : Int) * n ≤ 2 ^ 63 - 1 := by
      have e : ((a.length * n.toNat : Nat) : Int) = (a.length : Int) * n := by
        rw [Int.natCast_mul, Int.toNat_of_nonneg (by omega)]
      have := sizeLine_eq
      omega
    have := (Int.le_ediv_iff_mul_le hn).mpr h4
    omega
  · exact decide_eq_false (Nat.not_lt.mpr h2)
  · by_cases z : n < 1
    · rw [if_pos z]
      have e : n.toNat = 0 := by omega
      rw [e] at q
      exact ⟨by decide, ⟨.str Str.empty, H, I.tok _, ⟨_, rfl⟩, q⟩⟩
    · rw [if_neg z]
      by_cases c : (n == 1 || a.length == 0) = true
      · rw [if_pos c]
        have e : repS a n.toNat = a := by
          apply str_ext
          rw [rep_tl]
          rw [Bool.or_eq_true] at c
          rcases c with c | c
          · have : n = 1 := by simpa using c
            subst this; simp
          · have : a.length = 0 := by simpa using c
            have : a.cps.toList = [] := List.eq_nil_of_length_eq_zero (by rw [← len_tl]; exact this)
            rw [this]; simp
        rw [e] at q
        exact ⟨.str a, H, I, ⟨_, rfl⟩, q⟩
      · rw [if_neg c]
        exact ⟨by show (repS a n.toNat).length ≤ sizeLine; rw [rep_len]; exact h2, ⟨.str (repS a n.toNat), H, I.tok _, ⟨_, rfl⟩, q⟩⟩
theorem ev_repS {σ : L2.St} {H : Hp} {ta tb : TE} {a : Str} {n : Int} (ha : Ev ta σ H (.str a)) (hb : Ev tb σ H (.int n)) (h : a.length * n.toNat ≤ sizeLine ∧ -(2 ^ 62) ≤ n ∧ n < 2 ^ 62) : Ev (tOp rRepS ta tb) σ H (.str (repS a n.toNat)) :=
  ev_op ha hb fun Q q => ⟨a, n, rfl, rfl, h.2.1, h.1, h.2.2, q⟩
end Ml
namespace PySem.W
open PySem PySem.Spec PySem.Calls PyProof.Rows
theorem kit_own {K : Frag} {i j : Addr} {b : Bool} (hdct : hasDictIn K j = true) (ht : typeIn K (.ref j) = some (.type "type")) (h : subIn K (.ref i) (.ref j) = some b) (hn : b = true ∨ ¬ i = j) : kitOne K (.ref i) (.ref j) = some b := by
  obtain ⟨cd, hc, _⟩ := any_some hdct
  have e2 : ((clsIn K j).isSome && typeIn K (.ref j) == some (.type "type")) = true := by rw [hc, ht] <;> rfl
  have e3 : kitCls K (.ref i) (.ref j) = some b := by
    show (if ((clsIn K j).isSome && typeIn K (.ref j) == some (.type "type")) = true then subIn K (.ref i) (.ref j) else none) = some b
    rw [if_pos e2]; exact h
  unfold kitOne
  split
  · next q =>
    rcases hn with rfl | hn
    · rfl
    · have : Value.ref i = Value.ref j := eq_of_beq q
      exact absurd (by injection this) hn
  · exact e3
end PySem.W
namespace Ml
open PySem PySem.Spec PyProof.Rows L2
variable {G : Gx}
inductive StV where
  | i (n : Int) | s (x : Script)
def stIm (G : Gx) (H : Hp) (v : V) : StV → Prop
  | .i n => v = .int n
  | .s s => Im.im G H v s
theorem stIm_st {H H' : Hp} {v : V} {x : StV} (h : stIm G H v x) (st : Stab G H H') : stIm G H' v x := by
  cases x with
  | i n => exact h
  | s s =>
    have h : Im.im G H v s := h
    exact (Im.st h st : Im.im G H' v s)
instance stvI : Im G StV := ⟨stIm G, fun h s => stIm_st h s⟩
end Ml
namespace L2
open PySem PySem.Spec PyProof.Rows
end L2
namespace Ml
open PySem PySem.Spec PyProof.Rows L2
variable {G : Gx} {H : Hp} {L : List (Asn G)} {Q : VK}
theorem k_slA {v : V} {xs : List Any} {lo hi : Option Int} (hS : Sep H L) (h1 : Im.im G H v (Any.tup xs)) (n : ¬ (HT.sIx xs.length 0 lo = 0 ∧ HT.sIx xs.length xs.length hi = xs.length))
    (k : ∀ v' H', Sep H' (imA v' (Any.tup (cutL xs lo hi)) :: L) → Q v' H') : rSlT G.K v lo hi H Q := by
  obtain ⟨a, us, rfl, g1, m1⟩ := any_tup.mp h1
  refine ⟨a, us, rfl, SqT.of g1, by rw [m1.len]; exact n, fun p hp => k _ _ ((hS.more (same_new hp)).addIm (any_tup.mpr ⟨p, _, rfl, upd_same, ?_⟩))⟩
  exact (cutL_im m1).st (.of_same (same_new hp))
theorem tupE {v : V} {x : Any} {xs : List Any} (h : Im.im G H v x) (e : x = .tup xs) : Im.im G H v (Any.tup xs) := e ▸ h
end Ml
namespace Ml
open PySem PySem.Spec PyProof.Rows L2
end Ml
namespace Ml
open PySem PySem.Spec PyProof.Rows L2
end Ml
namespace Ml
open PySem PySem.Spec PyProof.Rows L2
end Ml
namespace Ml
open PySem PySem.Spec PyProof.Rows L2
end Ml
namespace PySem.SeqAt
open AutoSeq1 (wpAny_loadPart')
open MeetsSeq MeetsSeq2 MeetsSeq3
section
variable {prog : Program} {w : World} {A : Around} {s : Shared} {E : Value → Shared → Prop}
def DictAt (s : Shared) (d : Addr) : Prop := ∃ dd es ep sl, s.heap.get? d = some ⟨.type "dict", dd, .dict es ep, sl⟩
theorem DictAt.ty {d : Addr} (h : DictAt s d) : s.TypeIs (.ref d) "dict" := by obtain ⟨dd, es, ep, sl, h⟩ := h; exact ⟨_, h, rfl⟩
end
end PySem.SeqAt
namespace L2
open PySem PySem.Spec PyProof.Rows
end L2
namespace Ml
open PySem PySem.Spec PyProof.Rows L2
variable {G : Gx} {H : Hp} {L : List (Asn G)} {Q : VK}
theorem R.need_rev {α : Type} {p : Prop} {inst : Decidable p} {k : R α} {q : α → Prop} {e : Exc → Prop} {Z : Prop} (f : p → k.wp q e → Z) (h : (@R.need α p inst k).wp q e) : Z := f (R.wp_need h).1 (R.wp_need h).2
end Ml
namespace Ml
open PySem PySem.Spec PyProof.Rows
end Ml
namespace L2
open PySem PySem.Spec PyProof.Rows PySem.Froz Ml
end L2
namespace L2
open PySem PySem.Spec PyProof.Rows Ml
end L2
namespace Ml
open PySem PySem.Spec PyProof.Rows L2
variable {G : Gx} {σ : L2.St} {H : Hp} {L : List (Asn G)} {Q : VK} {te : TE} {D : Ends}
def strsR : List Any → R (List Str)
  | [] => .ok []
  | .str s :: r => (strsR r).bind fun l => .ok (s :: l)
  | _ => .bad
def Any.asStrs : Any → R (List Str)
  | .lst xs => strsR xs
  | .tup xs => strsR xs
  | _ => .bad
theorem strsR_im {ρ : Type} {q : ρ → Prop} {e : Exc → Prop} : ∀ {xs : List Any} {f : List Str → R ρ}, R.wp ((strsR xs).bind f) q e → ∃ ss, xs = ss.map Any.str ∧ R.wp (f ss) q e
  | [], f, h => ⟨[], rfl, h⟩
  | .str s :: r, f, h => by
    have h' : R.wp ((strsR r).bind fun l => f (s :: l)) q e := by
      have z : ((strsR r).bind fun l => R.ok (s :: l)).bind f = (strsR r).bind fun l => f (s :: l) := by
        cases strsR r <;> rfl
      rw [← z]
      exact h
    obtain ⟨ss, rfl, hw⟩ := strsR_im h'
    exact ⟨s :: ss, rfl, hw⟩
  | .int _ :: _, _, h => h.elim
  | .bl _ :: _, _, h => h.elim
  | .non :: _, _, h => h.elim
  | .tup _ :: _, _, h => h.elim
  | .lst _ :: _, _, h => h.elim
  | .oth _ :: _, _, h => h.elim
theorem wp_asStrs {x : Any} {ρ : Type} {f : List Str → R ρ} {q : ρ → Prop} {e : Exc → Prop} (h : R.wp (x.asStrs.bind f) q e) : ∃ ss, (x = .lst (ss.map Any.str) ∨ x = .tup (ss.map Any.str)) ∧ R.wp (f ss) q e := by
  cases x with
  | lst xs => obtain ⟨ss, rfl, hw⟩ := strsR_im (xs := xs) h; exact ⟨ss, .inl rfl, hw⟩
  | tup xs => obtain ⟨ss, rfl, hw⟩ := strsR_im (xs := xs) h; exact ⟨ss, .inr rfl, hw⟩
  | _ => exact h.elim
theorem imL_ofStr : ∀ {vs : List V} {ss : List Str}, imL (G := G) H vs (ss.map Any.str) → vs = ss.map V.str
  | [], [], _ => rfl
  | v :: vs, s :: ss, h => by rw [any_str.mp h.1, imL_ofStr h.2]; rfl
theorem strs_at {v : V} {x : Any} {ss : List Str} (h : Im.im G H v x) (e : x = .lst (ss.map Any.str) ∨ x = .tup (ss.map Any.str)) : ∃ a, v = .ref a ∧ (SqL G.K H a (ss.map (Fv.enc G)) ∨ SqT G.K H a (ss.map (Fv.enc G))) := by
  rcases e with e | e
  · subst e
    obtain ⟨a, vs, rfl, ⟨o, ho⟩, m⟩ := any_lsts.mp h
    rw [imL_ofStr m] at ho
    exact ⟨a, rfl, .inl (.inl (.inr ⟨o, ho⟩))⟩
  · subst e
    obtain ⟨a, vs, rfl, ho, m⟩ := any_tup.mp h
    rw [imL_ofStr m] at ho
    exact ⟨a, rfl, .inr (.inl (.inl ho))⟩
theorem Sep.rdL {α : Type} [Im G α] {i : Nat} {a : Addr} {xs : List α} (hS : Sep H L) (e : L[i]? = some (lstA a xs)) : ∃ vs, Rd H a (.lst vs) ∧ imL (G := G) H vs xs := by
  obtain ⟨vs, h, m⟩ := hS.lst e
  exact ⟨vs, .inl h, m⟩
end Ml
namespace L2
open PySem PySem.Spec PyProof.Rows PySem.W
end L2
namespace Ml
open PySem PySem.Spec PyProof.Rows L2
variable {G : Gx} {σ : L2.St} {H H' : Hp} {L L' : List (Asn G)} {Q : VK} {te td ty : TE} {D : Ends}
structure Kt where
  l : List Str
  deriving DecidableEq
def Kt.ks (k : Kt) : List Key := k.l.map Sum.inr
theorem inr_inj : ∀ {xs ys : List Str}, xs.map (Sum.inr : Str → Key) = ys.map Sum.inr → xs = ys
  | [], [], _ => rfl
  | [], _ :: _, h => by cases h
  | _ :: _, [], h => by cases h
  | x :: xs, y :: ys, h => by
    simp only [List.map_cons, List.cons.injEq] at h
    rw [Sum.inr.inj h.1, inr_inj h.2]
theorem Kt.inj {a b : Kt} (h : a.ks = b.ks) : a = b := by
  obtain ⟨xs⟩ := a
  obtain ⟨ys⟩ := b
  have : xs = ys := inr_inj h
  rw [this]
instance imKt : Im G Kt := ⟨fun H v x => ∃ a, v = .ref a ∧ H a = some (.tup (x.l.map V.str)), fun ⟨a, e, h⟩ s => ⟨a, e, s.1 a _ h rfl⟩⟩
instance : IsRef G Kt := ⟨fun h => by obtain ⟨a, e, _⟩ := h; exact ⟨a, e⟩⟩
instance : Lay Kt := ⟨fun x => layAllB x.l⟩
theorem dpStrs {K : PySem.W.Frag} : ∀ xs : List Str, DpAll K H (xs.map V.str) (xs.map PyData.str)
  | [] => .nil
  | x :: r => .cons (.str x) (dpStrs r)
theorem depStrs : ∀ xs : List Str, PyData.depthAll (xs.map PyData.str) = 0
  | [] => rfl
  | x :: r => by
    show max (PyData.depth (.str x)) (PyData.depthAll (r.map PyData.str)) = 0
    rw [depStrs r]; rfl
def pdKt (k : Kt) : PyData := .tuple (k.l.map PyData.str)
theorem canStrs : ∀ xs : List Str, layAllB xs = true → PyData.canLayAll0 (xs.map PyData.str) = true
  | [], _ => rfl
  | x :: r, h => by
    have h : (Lay.lay x && layAllB r) = true := h
    rw [Bool.and_eq_true] at h
    show ((PyData.str x).canLay0 && PyData.canLayAll0 (r.map PyData.str)) = true
    rw [canStrs r h.2, show (PyData.str x).canLay0 = true from h.1]; rfl
theorem eqvStrs : ∀ xs ys : List Str, PyData.eqvAll (xs.map PyData.str) (ys.map PyData.str) = decide (xs = ys)
  | [], [] => rfl
  | [], _ :: _ => rfl
  | _ :: _, [] => rfl
  | x :: xs, y :: ys => by
    show (PyData.eqv (.str x) (.str y) && PyData.eqvAll (xs.map PyData.str) (ys.map PyData.str)) = _
    rw [eqvStrs xs ys, show PyData.eqv (.str x) (.str y) = decide (x = y) from str_beq x y]
    simp
instance pdKtI : Pd G Kt where
  pd := pdKt
  dep := 1
  dp := fun {H v x} h => by
    obtain ⟨a, rfl, g⟩ := h
    exact .tup (SqT.of g) (dpStrs x.l)
  lay_ok := fun x h => canStrs x.l h
  dep_ok := fun x => by
    show PyData.depthAll (x.l.map PyData.str) + 1 ≤ 1
    rw [depStrs]
    exact Nat.le_refl _
  eqv := fun x y => by
    show PyData.eqvAll (x.l.map PyData.str) (y.l.map PyData.str) = _
    rw [eqvStrs]
    obtain ⟨a⟩ := x; obtain ⟨b⟩ := y
    simp
end Ml
namespace Ml
open PySem PySem.Spec PyProof.Rows L2
variable {G : Gx}
section
variable {β : Type} [Im G β]
def imDT (H : Hp) : List (List Key × V) → List (Kt × β) → Prop
  | [], [] => True
  | p :: ps, q :: qs => (p.1 = q.1.ks ∧ Im.im G H p.2 q.2 ∧ ∃ b, H b = some (.tup (q.1.ks.map kV))) ∧ imDT H ps qs
  | _, _ => False
variable {H H' : Hp}
theorem imDT.st : ∀ {ps : List (List Key × V)} {qs : List (Kt × β)}, imDT (G := G) H ps qs → Stab G H H' → imDT (G := G) H' ps qs
  | [], [], _, _ => True.intro
  | _ :: _, _ :: _, h, s => ⟨⟨h.1.1, Im.st h.1.2.1 s, by obtain ⟨b, e⟩ := h.1.2.2; exact ⟨b, s.1 b _ e rfl⟩⟩, imDT.st h.2 s⟩
  | [], _ :: _, h, _ => h
  | _ :: _, [], h, _ => h
theorem imDT.len : ∀ {ps : List (List Key × V)} {qs : List (Kt × β)}, imDT (G := G) H ps qs → ps.length = qs.length
  | [], [], _ => rfl
  | _ :: _, _ :: _, h => by rw [List.length_cons, List.length_cons, imDT.len h.2]
  | [], _ :: _, h => h.elim
  | _ :: _, [], h => h.elim
theorem kt_dec (a b : Kt) : decide (a.ks = b.ks) = decide (a = b) := by
  by_cases h : a = b
  · subst h; simp
  · have : ¬ a.ks = b.ks := fun e => h (Kt.inj e)
    simp [h, this]
theorem imDT.any : ∀ {ps : List (List Key × V)} {qs : List (Kt × β)} (k : Kt), imDT (G := G) H ps qs → (ps.any fun kv => decide (kv.1 = k.ks)) = qs.any fun kv => decide (kv.1 = k)
  | [], [], _, _ => rfl
  | p :: ps, q :: qs, k, ⟨⟨e1, _⟩, h⟩ => by
    rw [List.any_cons, List.any_cons, imDT.any k h, e1, kt_dec]
  | [], _ :: _, _, h => h.elim
  | _ :: _, [], _, h => h.elim
theorem imDT.app : ∀ {ps rs : List (List Key × V)} {qs ts : List (Kt × β)}, imDT (G := G) H ps qs → imDT (G := G) H rs ts → imDT (G := G) H (ps ++ rs) (qs ++ ts)
  | [], _, [], _, _, h => h
  | _ :: _, _, _ :: _, _, h, k => ⟨h.1, imDT.app h.2 k⟩
  | [], _, _ :: _, _, h, _ => h.elim
  | _ :: _, _, [], _, h, _ => h.elim
theorem imDT.rep : ∀ {ps : List (List Key × V)} {qs : List (Kt × β)} {k : Kt} {v : V} {y : β}, imDT (G := G) H ps qs → Im.im G H v y →
    imDT (G := G) H (ps.map fun kv => if kv.1 = k.ks then (kv.1, v) else kv) (qs.map fun kv => if kv.1 = k then (kv.1, y) else kv)
  | [], [], _, _, _, _, _ => True.intro
  | p :: ps, q :: qs, k, v, y, ⟨⟨e1, e2, e3⟩, h⟩, hv => by
    refine ⟨?_, imDT.rep h hv⟩
    dsimp only
    by_cases c : q.1 = k
    · have c1 : p.1 = k.ks := by rw [e1, c]
      rw [if_pos c, if_pos c1]; exact ⟨e1, hv, e3⟩
    · have c1 : ¬ p.1 = k.ks := fun z => c (Kt.inj (e1.symm.trans z))
      rw [if_neg c, if_neg c1]; exact ⟨e1, e2, e3⟩
  | [], _ :: _, _, _, _, h, _ => h.elim
  | _ :: _, [], _, _, _, h, _ => h.elim
theorem imDT.put {ps : List (List Key × V)} {qs : List (Kt × β)} {k : Kt} {v : V} {y : β} (h : imDT (G := G) H ps qs) (hv : Im.im G H v y) (hb : ∃ b, H b = some (.tup (k.ks.map kV))) : imDT (G := G) H (putK ps k.ks v) (dput qs k y) := by
  unfold putK dput
  rw [h.any k]
  split
  · exact h.rep hv
  · exact h.app (rs := [(k.ks, v)]) (ts := [(k, y)]) ⟨⟨rfl, hv, hb⟩, True.intro⟩
theorem imDT.at : ∀ {ps : List (List Key × V)} {qs : List (Kt × β)} {j : Nat} {k : List Key} {v : V} {x : Kt}, imDT (G := G) H ps qs → ps[j]? = some (k, v) → (qs.map (·.1))[j]? = some x → k = x.ks
  | p :: _, q :: _, 0, k, v, x, h, e1, e2 => by
    have e1 : p = (k, v) := by simpa using e1
    have e2 : q.1 = x := by simpa using e2
    have := h.1.1
    rw [e1, e2] at this
    exact this
  | _ :: ps, _ :: qs, j + 1, k, v, x, h, e1, e2 => imDT.at (ps := ps) (qs := qs) (j := j) h.2 (by simpa using e1) (by simpa using e2)
  | [], _, _, _, _, _, _, e1, _ => by simp at e1
  | _ :: _, [], _, _, _, _, h, _, _ => h.elim
variable {L L' : List (Asn G)} {σ : L2.St} {Q : VK} {te td ty tx : TE} {k : Kt} {a b : Addr} {xs : List (Kt × β)} {i : Nat}
end
end Ml
namespace Ml
open PySem PySem.Spec PyProof.Rows L2
end Ml
namespace L2
open PySem PySem.Spec PyProof.Rows
end L2
namespace Ml
open PySem PySem.Spec PyProof.Rows L2
end Ml
namespace L2
open PySem PySem.Spec PyProof.Rows
structure MkO (K : PySem.W.Frag) (C : Addr) : Prop where
  makes : PySem.W.makesIn K C = true
  ini : PySem.W.findIn K (.ref C) "__init__" = some (some (.builtin "object.__init__"))
  top : PySem.W.mroIn K C (.type "object") = some true
  kp : PySem.W.keepIn K (.ref C) = true
def tMakeO (C : Addr) : TE := fun _ H Q => ∀ x dx, H x = none → H dx = none → dx ≠ x → Q (.ref x) (upd (upd H dx (.own x)) x (.ins C dx []))
section
variable {X : Cx} {C : Addr} {pins : List (Addr × Obj)} {σ : St} {H : Hp} {s : Shared} {Q : VK}
theorem run_makeO (M : MkO X.K C) (I : Inv X pins σ H s) (h : ∀ x dx, H x = none → H dx = none → dx ≠ x → Q (.ref x) (upd (upd H dx (.own x)) x (.ins C dx []))) :
    wpAny (model X.prog X.w) X.A (call (.ref C) []) (EP X pins σ Q) X.xe s := by
  have hq := h (s.heap.objs.size + 1) s.heap.objs.size (I.hok.fresh (Nat.le_succ _)) (I.hok.fresh (Nat.le_refl _)) (Nat.ne_of_lt (Nat.lt_succ_self _))
  have I2 := Inv.made (C := C) I
  have ho : ((s.heap.push PySem.W.emptyDict).push (PySem.W.instObj C s.heap.objs.size)).get? (s.heap.objs.size + 1) = some (PySem.W.instObj C s.heap.objs.size) := by
    have e : (s.heap.push PySem.W.emptyDict).objs.size = s.heap.objs.size + 1 := size_push' _ _
    rw [← e]
    exact Heap.get?_push_size _ rfl
  refine wpAny_call (make_map0 I.kIn M.makes M.ini (fun self => PySem.W.Looks.of_pure (PySem.W.oi_bind self)) ?_)
  have t1 : PySem.W.Looks (model X.prog X.w) ((s.heap.push PySem.W.emptyDict).push (PySem.W.instObj C s.heap.objs.size)) (typeOf (.ref (s.heap.objs.size + 1))) (.ref C) := (PySem.W.Looks.ld ho).andThen .now
  have t2 : PySem.W.Looks (model X.prog X.w) ((s.heap.push PySem.W.emptyDict).push (PySem.W.instObj C s.heap.objs.size)) (isInstance (.ref (s.heap.objs.size + 1)) (.type "object")) true := t1.andThen (PySem.W.looks_mroIn I2.kIn M.top)
  refine codeAny_call_builtin PySem.W.oi_plain PySem.W.entry_oi (@PySem.W.check_slot (model X.prog X.w) _ _ _ "object.__init__" "object" "__init__" (.ref (s.heap.objs.size + 1)) [] [] _ PySem.W.oi_kind PySem.W.oi_split t2 (PySem.W.oi_args _) ?_)
  rw [PySem.W.oi_run]
  exact wpAny_pure ⟨rfl, V.ref (s.heap.objs.size + 1), _, I2, rfl, hq⟩
theorem pe_makeO {x : Str} {p pos : Pos} (M : MkO X.K C) (hg : Gl X x) (hm : X.mg x = some (.ref C)) (hdb : (x == ("__debug__" : Str)) = false := by decide) : PE X (.Call (.Name x p) [] [] pos) (tMakeO C) := by
  refine ⟨fun pins s σ H Q I h => ?_⟩
  refine wpAny_Call_Name_kw (ld_glob I hg hm ?_ hdb)
  exact PySem.W.callWith_K0 I.kIn M.kp (run_makeO M I h)
end
/-- the class that o has tells which def runs -/
def tMethF (fam : Nat → Bool) (cl : Nat → Addr) (m : Str) (sp : Nat → Sp) (E : XK) (ta : TE) (t : TA) : TE := fun σ H Q => ta σ H fun x H1 => ∃ i a dx fs, x = .ref a ∧ fam i = true ∧ H1 a = some (.ins (cl i) dx fs) ∧ fs.lookup m = none ∧
  t σ H1 fun vs H2 => sp i (x :: vs) H2 Q E
def Dsp (P : Program) (w : World) (K : PySem.W.Frag) (mg : Str → Option Value) (base : Heap) (CX : CXT) (k : Nat) (fam : Nat → Bool) (cl : Nat → Addr) (m : Str) (ps : List Str) (sp : Nat → Sp) : Prop :=
  ∀ i, fam i = true → ∃ f fd, Cls K (cl i) ∧ Meth K (cl i) m f ∧ Binds K fd ps [] ∧ FnOk P w K mg base CX k f fd ps (sp i)
theorem Dsp.mono {P : Program} {w : World} {K : PySem.W.Frag} {mg : Str → Option Value} {base : Heap} {CX : CXT} {j k : Nat} {fam : Nat → Bool} {cl : Nat → Addr} {m : Str} {ps : List Str} {sp : Nat → Sp} (D : Dsp P w K mg base CX j fam cl m ps sp) (h : j ≤ k) : Dsp P w K mg base CX k fam cl m ps sp := fun i hi => by
  obtain ⟨f, fd, a, b, c, F⟩ := D i hi
  exact ⟨f, fd, a, b, c, F.mono h⟩
section
variable {X : Cx} {CX : CXT} {k : Nat} {ps : List Str} {fam : Nat → Bool} {cl : Nat → Addr} {sp : Nat → Sp} {E : XK} {m : Str} {pos apos : Pos} {e o : Expr} {es : List Expr} {ta : TE} {t : TA}
theorem pe_methF0 {pl : Sem Bool} (he : PE X o ta) (D : Dsp X.prog X.w X.K X.mg X.base CX k fam cl m ps sp) (hr : Room k X.A) (hx : Passes CX X E)
    (ht : eval (.Call (.Attribute o m apos) [] [] pos) X.env = (do
      let ov ← eval o X.env
      standAt apos.atName
      let (f, first) ← holding [ov] (getMethod ov m pl)
      callWith pos f first (backTo pos (starEach [] X.env)) (backToKw pos (keywordEach [] X.env))) := by rfl) :
    PE X (.Call (.Attribute o m apos) [] [] pos) (tMethF fam cl m sp E ta tNil) := by
  refine ⟨fun pins s σ H Q I h => ?_⟩
  refine PySem.W.methodCall_KW (pl := pl) (thn (he.run pins s σ H _ I h) fun u s1 ⟨x, H1, I1, rx, i, a, dx, fs, ex, hf, ea, l, q⟩ => ?_) ht
  subst ex
  obtain rfl : u = Value.ref a := rx
  obtain ⟨f, fd, c, hm, hb, F⟩ := D i hf
  refine getmeth_ok I1 ea c hm l ?_
  refine PySem.W.callWith_K0 (first := [.ref a]) I1.kIn hm.kp ?_
  exact run_fn (us := [.ref a]) (vs := [.ref a]) (dvs := []) (ds := []) F hr hb .nil hx I1 (.cons rfl .nil) q
end
end L2
namespace L2
open PySem PySem.Spec PyProof.Rows
theorem fnOk_no {P : Program} {w : World} {K : PySem.W.Frag} {mg : Str → Option Value} {base : Heap} {CX : CXT} {k : Nat} {f : Addr} {fd : FuncData} {ps : List Str} {sp : Sp} (h : ∀ vs H Q E, sp vs H Q E → False) : FnOk P w K mg base CX k f fd ps sp :=
  ⟨fun vs H Q E q => (h _ _ _ _ q).elim, fun A outer s H args us vs Q E _ _ _ _ q => (h _ _ _ _ q).elim⟩
end L2
namespace Ml
open PySem PySem.Spec PyProof.Rows L2
variable {G : Gx} {σ : L2.St} {H : Hp} {L : List (Asn G)} {Q : VK} {te : TE} {t : TA}
def makeOK (C : Addr) (H : Hp) (Q : VK) : Prop := ∀ x dx, H x = none → H dx = none → dx ≠ x → Q (.ref x) (upd (upd H dx (.own x)) x (.ins C dx []))
theorem c_makeO {C : Addr} (h : makeOK C H Q) : tMakeO C σ H Q := h
theorem Sep.newI0 {C x dx : Addr} (h : Sep H L) (hx : H x = none) (hd : H dx = none) (ne : dx ≠ x) (z : G.fz C = some 0) : Sep (upd (upd H dx (.own x)) x (.ins C dx [])) L ∧ upd (upd H dx (.own x)) x (.ins C dx []) x = some (.ins C dx []) := by
  have h1 : Sep (upd H dx (.own x)) L := h.more (same_new hd)
  have hx1 : upd H dx (.own x) x = none := by rw [upd_ne (Ne.symm ne)]; exact hx
  exact ⟨h1.more (same_new hx1), upd_same⟩
def methFK (fam : Nat → Bool) (cl : Nat → Addr) (m : Str) (sp : Nat → Sp) (E : XK) (t : TA) (σ : L2.St) (Q : VK) : VK := fun x H1 => ∃ i a dx fs, x = .ref a ∧ fam i = true ∧ H1 a = some (.ins (cl i) dx fs) ∧ fs.lookup m = none ∧
  t σ H1 fun vs H2 => sp i (x :: vs) H2 Q E
theorem c_methF {fam : Nat → Bool} {cl : Nat → Addr} {m : Str} {sp : Nat → Sp} {E : XK} (h : te σ H (methFK fam cl m sp E t σ Q)) : tMethF fam cl m sp E te t σ H Q := h
end Ml
namespace Ml
open PySem PySem.Spec PyProof.Rows L2
variable {G : Gx} {σ : L2.St} {H : Hp} {L L' : List (Asn G)} {Q : VK} {te : TE} {D : Ends}
section
variable {τ ρ : Type}
def whileN : Nat → (τ → Bool) → (τ → R τ) → τ → R τ
  | 0, _, _, _ => .bad
  | n + 1, c, f, s => if c s = true then (f s).bind (whileN n c f) else .ok s
theorem k_whileN {n : Nat} {c : τ → Bool} {f : τ → R τ} {s : τ} {rest : τ → R ρ} {q : ρ → Prop} {e : Exc → Prop} {tc : TT} {tb : TS} (I : τ → L2.St → Hp → Prop) (h0 : I s σ H) (hm : R.wp ((whileN n c f s).bind rest) q e)
    (test : ∀ s σ H, I s σ H → Et tc σ H (c s))
    (turn : ∀ s σ H (q' : τ → Prop) (N : L2.St → Hp → Prop), I s σ H → R.wp (f s) q' e → (∀ s' σ' H', q' s' → I s' σ' H' → N σ' H') → tb (loopD D N D.nx) σ H)
    (done : ∀ s σ H, R.wp (rest s) q e → I s σ H → D.nx σ H) : tWhile tc tb D σ H := by
  refine ⟨fun m σ H => ∃ s, I s σ H ∧ R.wp (whileN m c f s) (fun s => R.wp (rest s) q e) e, ⟨n, s, h0, R.wp_bind hm⟩, ?_⟩
  rintro m σ H ⟨s, hI, hw⟩
  cases m with
  | zero => exact hw.elim
  | succ m =>
    refine test s σ H hI _ ?_
    unfold whileN at hw
    cases h : c s with
    | false =>
      rw [h, if_neg Bool.false_ne_true] at hw
      rw [if_neg Bool.false_ne_true]
      exact done s σ H hw hI
    | true =>
      rw [h, if_pos rfl] at hw
      rw [if_pos rfl]
      exact ⟨fun σ' H' => ∃ s', I s' σ' H' ∧ R.wp (whileN m c f s') (fun s => R.wp (rest s) q e) e, fun σ' H' z => ⟨m, Nat.lt_succ_self _, z⟩,
        turn s σ H _ _ hI (R.wp_bind hw) fun s' σ' H' h1 h2 => ⟨s', h2, h1⟩⟩
end
def itK (K : PySem.W.Frag) (R : It → Hp → Prop) : VK := fun x H1 => ∃ a, x = .ref a ∧ (∃ xs, SqT K H1 a xs) ∧ R (Itt K a) H1
theorem R.wp_ifY {α : Type} {c : Prop} [Decidable c] {a b : R α} {q : α → Prop} {e : Exc → Prop} (h : R.wp (if c then a else b) q e) (x : c) : R.wp a q e := (R.wp_if h).1 x
theorem R.wp_ifN {α : Type} {c : Prop} [Decidable c] {a b : R α} {q : α → Prop} {e : Exc → Prop} (h : R.wp (if c then a else b) q e) (x : ¬ c) : R.wp b q e := (R.wp_if h).2 x
theorem len62 {n : Nat} (h : n ≤ sizeLine) : -(2 ^ 62) ≤ (n : Int) ∧ (n : Int) < 2 ^ 62 := by
  have : sizeLine < 2 ^ 62 := by decide
  exact ⟨by omega, by omega⟩
theorem c_it {K : PySem.W.Frag} {R : It → Hp → Prop} (h : te σ H (itK K R)) : iTup K te σ H R := h
theorem k_itA {a : Addr} {xs : List Any} {R : It → Hp → Prop} (h : Im.im G H (.ref a) (Any.tup xs)) (k : R (Itt G.K a) H) : itK G.K R (.ref a) H := by
  obtain ⟨b, vs, e, g, m⟩ := any_tup.mp h
  cases e
  exact ⟨a, rfl, ⟨vs, SqT.of g⟩, k⟩
theorem any_addr {v : V} {xs : List Any} (h : Im.im G H v (Any.tup xs)) : ∃ a, v = .ref a := by
  obtain ⟨a, vs, e, _⟩ := any_tup.mp h
  exact ⟨a, e⟩
theorem wk_tupA {I : L2.St → Hp → Prop} {a : Addr} {xs : List Any} (f : ∀ σ H, I σ H → Im.im G H (.ref a) (Any.tup xs)) : Wk (Itt G.K a) I (Im.im G) xs where
  go := fun i σ H h hi => by
    obtain ⟨b, vs, e, g, m⟩ := any_tup.mp (f σ H h)
    cases e
    have hl : i < vs.length := by rw [m.len]; exact hi
    exact ⟨vs, vs[i], SqT.of g, List.getElem?_eq_getElem hl⟩
  yl := fun i σ H v H' x h hx y => by
    obtain ⟨b, vs, e, g, m⟩ := any_tup.mp (f σ H h)
    cases e
    obtain ⟨rfl, y⟩ := y
    obtain ⟨u, hu, im⟩ := m.get hx
    have e := y vs (SqT.of g)
    rw [hu] at e; cases e
    exact ⟨h, im⟩
  sp := fun σ H h => by
    obtain ⟨b, vs, e, g, m⟩ := any_tup.mp (f σ H h)
    cases e
    exact ⟨vs, SqT.of g, by rw [m.len]; exact Nat.le_refl _⟩
theorem pi_tupK {X : Cx} {tg l : Expr} {tl : TE} (K : PySem.W.Frag) (hl : PE X l tl) (hK : X.K = K := by rfl) : PI X tg l (iTup K tl) := by subst hK; exact pi_tup hl
end Ml
namespace Ml
open PySem PySem.Spec PyProof.Rows L2
variable {G : Gx} {σ : L2.St} {H : Hp} {L L' : List (Asn G)} {Q : VK} {te : TE} {D : Ends}
structure InsC (K : PySem.W.Frag) (C D : Addr) : Prop where
  cl : Cls K C
  ha : PySem.W.findIn K (.ref C) "__class__" = some (some (.builtin "object.__class__"))
  hn : PySem.W.specialIn K (.builtin "object.__class__") "__get__" = some (some (.builtin "getset_descriptor.__get__"))
  ht : PySem.W.takesIn K (.builtin "object.__class__") = some true
  hm : PySem.W.mroIn K C (.type "object") = some true
  kit : PySem.W.kitOne K (.ref C) (.ref D) = some true
theorem ev_isD {a C D dx : Addr} {fs : List (Str × V)} {ta tb : TE} (ha : Ev ta σ H (.ref a)) (hb : Ev tb σ H (.ref D)) (h : H a = some (.ins C dx fs)) (F : InsC G.K C D) :
    Ev (tCB (rIsi G.K) (tCons ta (tCons tb tNil))) σ H (.bl true) :=
  ev_cb (ea_cons ha (ea_cons hb ea_nil)) fun Q q => ⟨.ref a, .ref D, _, _, true, rfl, .own D, .base (.ins h F.cl F.ha F.hn F.ht F.hm), F.kit, q⟩
theorem any_of_cls {P : Addr → List (Str × V) → Prop} {R : Addr → List (Str × V) → Prop} (h : ∃ dx fs, P dx fs ∧ R dx fs) : ∃ dx fs, P dx fs := by
  obtain ⟨a, b, c, _⟩ := h; exact ⟨a, b, c⟩
end Ml
namespace Ml
open PySem PySem.Spec PyProof.Rows L2
variable {G : Gx} {σ : L2.St} {H : Hp} {L L' : List (Asn G)} {Q : VK} {te ta tb : TE} {D : Ends}
theorem ps_no {X : Cx} {st : Stmt} : PS X st (fun _ _ _ => False) := ⟨fun _ _ _ _ _ _ h => h.elim⟩
section
variable {τ ρ : Type}
def whileT : Nat → (τ → R Bool) → (τ → R τ) → τ → R τ
  | 0, _, _, _ => .bad
  | n + 1, c, f, s => (c s).bind fun b => if b = true then (f s).bind (whileT n c f) else .ok s
theorem k_whileT {n : Nat} {c : τ → R Bool} {f : τ → R τ} {s : τ} {rest : τ → R ρ} {q : ρ → Prop} {e : Exc → Prop} {tc : TT} {tb : TS} (I : τ → L2.St → Hp → Prop) (h0 : I s σ H) (hm : R.wp ((whileT n c f s).bind rest) q e)
    (test : ∀ s σ H (q' : Bool → Prop) (N : Bool → Hp → Prop), I s σ H → R.wp (c s) q' e → (∀ b H', q' b → I s σ H' → N b H') → tc σ H N)
    (turn : ∀ s σ H (q' : τ → Prop) (N : L2.St → Hp → Prop), I s σ H → R.wp (f s) q' e → (∀ s' σ' H', q' s' → I s' σ' H' → N σ' H') → tb (loopD D N D.nx) σ H)
    (done : ∀ s σ H, R.wp (rest s) q e → I s σ H → D.nx σ H) : tWhile tc tb D σ H := by
  refine ⟨fun m σ H => ∃ s, I s σ H ∧ R.wp (whileT m c f s) (fun s => R.wp (rest s) q e) e, ⟨n, s, h0, R.wp_bind hm⟩, ?_⟩
  rintro m σ H ⟨s, hI, hw⟩
  cases m with
  | zero => exact hw.elim
  | succ m =>
    unfold whileT at hw
    refine test s σ H _ _ hI (R.wp_bind hw) fun b H' hb hI' => ?_
    cases b with
    | false =>
      rw [if_neg Bool.false_ne_true] at hb
      rw [if_neg Bool.false_ne_true]
      exact done s σ H' hb hI'
    | true =>
      rw [if_pos rfl] at hb
      rw [if_pos rfl]
      exact ⟨fun σ' H'' => ∃ s', I s' σ' H'' ∧ R.wp (whileT m c f s') (fun s => R.wp (rest s) q e) e, fun σ' H'' z => ⟨m, Nat.lt_succ_self _, z⟩,
        turn s σ H' _ _ hI' (R.wp_bind hb) fun s' σ' H'' h1 h2 => ⟨s', h2, h1⟩⟩
end
theorem ev_isNr {a : Addr} (ha : Ev ta σ H (.ref a)) : Ev (tIsN ta) σ H (.bl false) := fun Q q => ha _ q
def maxDef (ns : List Int) (d : Int) : Int := match ns with
  | [] => d
  | n :: r => r.foldl max n
def rMaxDef (K : PySem.W.Frag) : List V → List V → Hp → VK → Prop := fun xs zs H Q => ∃ (a : Addr) (ns : List Int) (d : Int), xs = [.ref a] ∧ zs = [.int d] ∧ SqL K H a (ns.map V.int) ∧ Q (.int (maxDef ns d)) H
theorem dpInts {K : PySem.W.Frag} : ∀ xs : List Int, DpAll K H (xs.map V.int) (xs.map PyData.int)
  | [] => .nil
  | x :: r => .cons (.int x) (dpInts r)
theorem depthInts : ∀ xs : List Int, PyData.depthAll (xs.map PyData.int) = 0
  | [] => rfl
  | x :: r => by
    show max (PyData.depth (.int x)) (PyData.depthAll (r.map PyData.int)) = 0
    rw [depthInts r]; rfl
theorem alikeInts (xs : List Int) : PySem.W.AlikeAll (xs.map PyData.int) := ⟨fun x hx y hy => by
  obtain ⟨i, _, rfl⟩ := List.mem_map.mp hx
  obtain ⟨j, _, rfl⟩ := List.mem_map.mp hy
  rfl, fun x hx => by
  obtain ⟨i, _, rfl⟩ := List.mem_map.mp hx
  exact fun z => nomatch z⟩
theorem cr_maxDef {X : Cx} (hc : X.calm = true) (hu : X.A.units + 64 < cLine) : CallRK X (.builtin "max") [Str.ofString "default"] (rMaxDef X.K) := by
  intro pins s σ H vs zs us ws Q I r rz h
  obtain ⟨a, ns, d, rfl, rfl, hs, q⟩ := h
  obtain rfl := Vals.ref1 r
  obtain ⟨w1, rfl, t1, rfl⟩ := vals1 rz
  obtain ⟨its, rv, hl, hz⟩ := I.list hs
  obtain ⟨as, ra⟩ := Dp.readsAll I (ns.map PyData.int) _ _ (dpInts ns) rv
  refine PySem.W.max_list_default (I.ok.hd hc) hl.isList (by exact ra) (alikeInts ns) (by rw [depthInts]; omega) (fun hz h' tk k => ?_) (fun y ys i v h' tk bs ey hv hr k => ?_)
  · have hn : ns = [] := by simpa using hz
    subst hn
    exact ⟨.int d, H, I.kept (t' := tk) k, ⟨_, rfl⟩, q⟩
  · cases ns with
    | nil => cases ey
    | cons n r =>
      have e1 := List.cons.inj ey
      have e2 : y = .int n := e1.1.symm
      have e3 : ys = r.map PyData.int := e1.2.symm
      subst e2 e3
      rw [PySem.W.maxD_ints] at hr
      cases hr with
      | int i t => exact ⟨.int (r.foldl max n), H, I.kept (t' := tk) k, ⟨_, rfl⟩, q⟩
theorem cr_maxDefK {X : Cx} (K : PySem.W.Frag) (hc : X.calm = true) (hu : X.A.units + 64 < cLine) (hK : X.K = K := by rfl) : CallRK X (.builtin "max") [Str.ofString "default"] (rMaxDef K) := by subst hK; exact cr_maxDef hc hu
def ckK (r : List V → List V → Hp → VK → Prop) (tk : TA) (σ : L2.St) (Q : VK) : List V → Hp → Prop := fun vs H1 => tk σ H1 fun zs H2 => r vs zs H2 Q
theorem c_ck {r : List V → List V → Hp → VK → Prop} {t tk : TA} (h : t σ H (ckK r tk σ Q)) : tCKw r t tk σ H Q := h
theorem k_maxDef {p : Addr} {ns : List Int} {d : Int} {tk : TE} (hs : SqL G.K H p (ns.map V.int)) (e : Ev tk σ H (.int d)) (q : Q (.int (maxDef ns d)) H) : ckK (rMaxDef G.K) (tCons tk tNil) σ Q [.ref p] H :=
  ea_cons e ea_nil _ ⟨p, ns, d, rfl, rfl, hs, q⟩
theorem imE {α : Type} [Im G α] {v : V} {x y : α} (e : x = y) (h : Im.im G H v x) : Im.im G H v y := e ▸ h
theorem k_itE {v : V} {x : Any} {xs : List Any} {R : It → Hp → Prop} (h : Im.im G H v x) (e : x = .tup xs) (k : ∀ a, v = .ref a → R (Itt G.K a) H) : itK G.K R v H := by
  obtain ⟨a, rfl⟩ := any_addr (imE e h)
  exact k_itA (imE e h) (k a rfl)
theorem flat_strs (ss : List Str) : (ss.map V.str).all flatV = true := List.all_eq_true.mpr fun x hx => by
  obtain ⟨s, _, rfl⟩ := List.mem_map.mp hx
  rfl
theorem ev_inTs {x : Str} {ss : List Str} {a : Addr} (h : SqT G.K H a (ss.map V.str)) (ha : Ev ta σ H (.str x)) (hb : Ev tb σ H (.ref a)) : Ev (tOp (rIn G.K false) ta tb) σ H (.bl (decide (x ∈ ss))) := ev_op ha hb fun Q q =>
  ⟨a, ss.map V.str, rfl, .inr h, rfl, flat_strs ss, by
    show Q (.bl (inV (.str x) (ss.map V.str))) H
    rw [inV_str]; exact q⟩
theorem ev_niTs {x : Str} {ss : List Str} {a : Addr} (h : SqT G.K H a (ss.map V.str)) (ha : Ev ta σ H (.str x)) (hb : Ev tb σ H (.ref a)) : Ev (tOp (rIn G.K true) ta tb) σ H (.bl (!decide (x ∈ ss))) := ev_op ha hb fun Q q =>
  ⟨a, ss.map V.str, rfl, .inr h, rfl, flat_strs ss, by
    show Q (.bl (!inV (.str x) (ss.map V.str))) H
    rw [inV_str]; exact q⟩
end Ml
namespace Ml
open PySem L2
variable {G : Gx} {H : Hp} {L : List (Asn G)} {Q : VK}
/-- list(x) of a tuple of texts, of any sort -/
theorem k_listS {v : V} {x : Any} {ss : List Str} (hS : Sep H L) (h1 : Im.im G H v x) (e : x = .lst (ss.map Any.str) ∨ x = .tup (ss.map Any.str)) (k : ∀ p H', Sep H' (lstA p ss :: L) → Q (.ref p) H') : rListSq G.K [v] H Q := by
  obtain ⟨a, rfl, g⟩ := strs_at h1 e
  exact ⟨a, _, rfl, g, fun p hp => k p _ (hS.newL hp (imL.flat.mpr rfl))⟩
end Ml
namespace Lw
open PySem L2 Ml
structure Anything where

  deriving DecidableEq
structure HasWord where
  word : Str
  deriving DecidableEq
structure InTitle where
  word : Str
  deriving DecidableEq
structure FromSender where
  word : Str
  deriving DecidableEq
structure InFolder where
  word : Str
  deriving DecidableEq
structure IsMarked where
  word : Str
  deriving DecidableEq
structure OnDays where
  low : Int
  high : Int
  deriving DecidableEq
structure IsAnswer where

  deriving DecidableEq
inductive Cond where
  | Anything
  | HasWord (word : Str)
  | InTitle (word : Str)
  | FromSender (word : Str)
  | InFolder (word : Str)
  | IsMarked (word : Str)
  | OnDays (low : Int) (high : Int)
  | IsAnswer
  | NotSo (inner : Cond)
  | InThread (inner : Cond)
  | BothSo (first : Cond) (second : Cond)
  | EitherSo (first : Cond) (second : Cond)
def Cond.cls : Cond → Nat
  | .Anything => 1
  | .HasWord .. => 2
  | .InTitle .. => 3
  | .FromSender .. => 4
  | .InFolder .. => 5
  | .IsMarked .. => 6
  | .OnDays .. => 7
  | .IsAnswer => 8
  | .NotSo .. => 9
  | .InThread .. => 10
  | .BothSo .. => 11
  | .EitherSo .. => 12
structure NotSo where
  inner : Cond
structure InThread where
  inner : Cond
structure BothSo where
  first : Cond
  second : Cond
structure EitherSo where
  first : Cond
  second : Cond
def m_Anything_tree (v_self : Anything) : R Any :=
R.ok ((Any.tup [(Any.str ("any" : Str))]))
def m_OfWord___init___HasWord (v_word : Str) : R HasWord :=
R.ok ((⟨v_word⟩ : HasWord))
def m_OfWord___init___InTitle (v_word : Str) : R InTitle :=
R.ok ((⟨v_word⟩ : InTitle))
def m_OfWord___init___FromSender (v_word : Str) : R FromSender :=
R.ok ((⟨v_word⟩ : FromSender))
def m_OfWord___init___InFolder (v_word : Str) : R InFolder :=
R.ok ((⟨v_word⟩ : InFolder))
def m_OfWord___init___IsMarked (v_word : Str) : R IsMarked :=
R.ok ((⟨v_word⟩ : IsMarked))
def m_OfWord_sign_HasWord (v_self : HasWord) : R Str :=
R.ok (("word" : Str))
def m_OfWord_tree_HasWord (v_self : HasWord) : R Any :=
(m_OfWord_sign_HasWord v_self).bind fun r3 =>
R.ok ((Any.tup [(Any.str r3), (Any.str v_self.word)]))
def m_InTitle_sign (v_self : InTitle) : R Str :=
R.ok (("title" : Str))
def m_FromSender_sign (v_self : FromSender) : R Str :=
R.ok (("from" : Str))
def m_InFolder_sign (v_self : InFolder) : R Str :=
R.ok (("in" : Str))
def m_IsMarked_sign (v_self : IsMarked) : R Str :=
R.ok (("marked" : Str))
def m_OnDays___init__ (v_low : Int) (v_high : Int) : R OnDays :=
R.ok ((⟨v_low, v_high⟩ : OnDays))
def m_OnDays_tree (v_self : OnDays) : R Any :=
R.ok ((Any.tup [(Any.str ("day" : Str)), (Any.int v_self.low), (Any.int v_self.high)]))
def m_IsAnswer_tree (v_self : IsAnswer) : R Any :=
R.ok ((Any.tup [(Any.str ("answers" : Str))]))
def m_OfOne___init___NotSo (v_inner : Cond) : R NotSo :=
R.ok ((⟨v_inner⟩ : NotSo))
def m_OfOne___init___InThread (v_inner : Cond) : R InThread :=
R.ok ((⟨v_inner⟩ : InThread))
def m_OfOne_sign_NotSo (v_self : NotSo) : R Str :=
R.ok (("not" : Str))
def m_OfOne_tree_NotSo (m_Cond_tree : Cond → R Any) (v_self : NotSo) : R Any :=
(m_OfOne_sign_NotSo v_self).bind fun r3 =>
(m_Cond_tree v_self.inner).bind fun r14 =>
R.ok ((Any.tup [(Any.str r3), r14]))
def m_InThread_sign (v_self : InThread) : R Str :=
R.ok (("thread" : Str))
def m_OfTwo___init___BothSo (v_first : Cond) (v_second : Cond) : R BothSo :=
R.ok ((⟨v_first, v_second⟩ : BothSo))
def m_OfTwo___init___EitherSo (v_first : Cond) (v_second : Cond) : R EitherSo :=
R.ok ((⟨v_first, v_second⟩ : EitherSo))
def m_OfTwo_sign_BothSo (v_self : BothSo) : R ((Str × Str)) :=
R.ok ((("and" : Str), ("both" : Str)))
def m_OfTwo_tree_BothSo (m_Cond_tree : Cond → R Any) (v_self : BothSo) : R Any :=
(m_OfTwo_sign_BothSo v_self).bind fun r3 =>
(m_Cond_tree v_self.first).bind fun r23 =>
(m_Cond_tree v_self.second).bind fun r38 =>
R.ok ((Any.tup [(Any.str r3.2), r23, r38]))
def m_EitherSo_sign (v_self : EitherSo) : R ((Str × Str)) :=
R.ok ((("or" : Str), ("either" : Str)))
def m_of_word (v_sign : Str) (v_word : Str) : R Cond :=
if (decide (v_sign = ("word" : Str))) = true then (
(m_OfWord___init___HasWord v_word).bind fun r4 =>
R.ok ((Cond.HasWord r4.word))) else (
if (decide (v_sign = ("title" : Str))) = true then (
(m_OfWord___init___InTitle v_word).bind fun r10 =>
R.ok ((Cond.InTitle r10.word))) else (
if (decide (v_sign = ("from" : Str))) = true then (
(m_OfWord___init___FromSender v_word).bind fun r16 =>
R.ok ((Cond.FromSender r16.word))) else (
if (decide (v_sign = ("in" : Str))) = true then (
(m_OfWord___init___InFolder v_word).bind fun r22 =>
R.ok ((Cond.InFolder r22.word))) else (
if (decide (v_sign = ("marked" : Str))) = true then (
(m_OfWord___init___IsMarked v_word).bind fun r28 =>
R.ok ((Cond.IsMarked r28.word))) else (
.bad)))))
def m_deep_b (m_deep : Any → R Int) (v_tree : Any) : R Int :=
(Any.asTup v_tree).bind fun xs1 =>
R.need ((xs1).length ≤ sizeLine) <|
(compR (fun (_ : Unit) (x7 : Any) =>
if (x7.is "tuple") = true then (
(m_deep x7).bind fun r12 =>
R.ok ((), some (r12))) else R.ok ((), none)) (xs1) ()).bind fun (t13 : Unit × List Int) =>
R.ok (1 + (maxDef t13.2 0))
def m_deep : Nat → Any → R Int
  | 0 => fun _ => .bad
  | n + 1 => m_deep_b (m_deep n)
def m_threads_deep_b (m_threads_deep : Any → R Int) (v_tree : Any) : R Int :=
(Any.asTup v_tree).bind fun xs1 =>
R.need ((xs1).length ≤ sizeLine) <|
(compR (fun (_ : Unit) (x7 : Any) =>
if (x7.is "tuple") = true then (
(m_threads_deep x7).bind fun r12 =>
R.ok ((), some (r12))) else R.ok ((), none)) (xs1) ()).bind fun (t13 : Unit × List Int) =>
(R.ok (maxDef t13.2 0 : Int)).bind fun y14 =>
(Any.asTup v_tree).bind fun xs15 =>
(idxR xs15 (0)).bind fun x17 =>
(eqA x17 (Any.str ("thread" : Str))).bind fun b26 =>
R.ok (y14 + (if b26 = true then 1 else 0))
def m_threads_deep : Nat → Any → R Int
  | 0 => fun _ => .bad
  | n + 1 => m_threads_deep_b (m_threads_deep n)
def m_is_sign (v_sign : Nat) : R Bool :=
R.ok ((decide (v_sign ∈ (("abcdefghijklmnopqrstuvwxyz" : Str)).cps.toList)) || (decide (v_sign ∈ (("0123456789" : Str)).cps.toList)))
def m_is_word (v_thing : Any) : R Bool :=
(if (!(v_thing.is "str")) = true then R.ok true else (
(lenA v_thing).bind fun n2 =>
R.ok (!(decide (1 ≤ n2) && decide (n2 ≤ 20))))).bind fun b1 =>
if b1 = true then (
R.ok (false)) else (
(Any.asStr v_thing).bind fun s4 =>
R.need (((s4).cps.toList).length ≤ sizeLine) <|
(compR (fun (_ : Unit) (x9 : Nat) =>
(m_is_sign x9).bind fun r12 =>
R.ok ((), some (r12))) ((s4).cps.toList) ()).bind fun (t13 : Unit × List Bool) =>
R.ok (t13.2.all id))
def m_tokens_of (v_text : Str) : R ((List Str)) :=
(forR (fun (s2 : (List Str) × Str) (x3 : Nat) =>
(if (decide (x3 ∈ ((" ()," : Str)).cps.toList)) = true then (
(if (!decide (s2.2 = ("" : Str))) = true then (
R.need (s2.1.length < sizeLine) <|
R.ok (s2.1 ++ [s2.2])) else (
R.ok (s2.1))).bind fun (s7 : (List Str)) =>
(if (!decide ((sg (x3)) = (" " : Str))) = true then (
R.need (s7.length < sizeLine) <|
R.ok (s7 ++ [sg (x3)])) else (
R.ok (s7))).bind fun (s9 : (List Str)) =>
R.ok (s9, ("" : Str))) else (
R.need ((s2.2).length + (sg (x3)).length ≤ sizeLine) <|
(R.ok (s2.2 ++ (sg (x3)) : Str)).bind fun y12 =>
R.ok (s2.1, y12))).bind fun (s6 : (List Str) × Str) =>
R.ok (s6.1, s6.2)) ((v_text).cps.toList) (([] : (List Str)), ("" : Str))).bind fun (s2 : (List Str) × Str) =>
(if (!decide (s2.2 = ("" : Str))) = true then (
R.need (s2.1.length < sizeLine) <|
R.ok (s2.1 ++ [s2.2])) else (
R.ok (s2.1))).bind fun (s13 : (List Str)) =>
R.ok (s13)
def m_token_at (v_tokens : (List Str)) (v_at : Int) : R Str :=
if (decide (v_at < (v_tokens.length : Int))) = true then (
(idxR v_tokens (v_at)).bind fun x2 =>
R.ok (x2)) else (
R.ok (("" : Str)))
def m_word_at (v_tokens : (List Str)) (v_at : Int) : R Str :=
(m_token_at v_tokens v_at).bind fun r1 =>
(m_is_word (Any.str r1)).bind fun r2 =>
if (!r2) = true then (
.bad) else (
R.ok (r1))
def m_number_at (v_tokens : (List Str)) (v_at : Int) : R Int :=
(m_token_at v_tokens v_at).bind fun r1 =>
R.need ((r1).length ≤ sizeLine) <|
(if (!(decide (1 ≤ ((r1).length : Int)) && decide (((r1).length : Int) ≤ 4))) = true then R.ok true else (
R.need (((r1).cps.toList).length ≤ sizeLine) <|
(compR (fun (_ : Unit) (x6 : Nat) =>
R.ok ((), some (decide (x6 ∈ (("0123456789" : Str)).cps.toList)))) ((r1).cps.toList) ()).bind fun (t9 : Unit × List Bool) =>
R.ok (!(t9.2.all id)))).bind fun b3 =>
if b3 = true then (
.bad) else (
(intR r1).bind fun n11 =>
R.ok (n11))
def m_days_at (v_tokens : (List Str)) (v_at : Int) : R ((Cond × Int)) :=
(m_number_at v_tokens (v_at + 1)).bind fun r1 =>
(idxR v_tokens (v_at)).bind fun x2 =>
if (decide (x2 = ("before" : Str))) = true then (
if (decide (r1 = 0)) = true then (
.bad) else (
(m_OnDays___init__ 0 (r1 - 1)).bind fun r7 =>
R.ok (((Cond.OnDays r7.low r7.high), v_at + 2)))) else (
(idxR v_tokens (v_at)).bind fun x11 =>
if (decide (x11 = ("after" : Str))) = true then (
if (decide (r1 = 9999)) = true then (
.bad) else (
(m_OnDays___init__ (r1 + 1) 9999).bind fun r16 =>
R.ok (((Cond.OnDays r16.low r16.high), v_at + 2)))) else (
(m_token_at v_tokens (v_at + 2)).bind fun r20 =>
if (!decide (r20 = ("to" : Str))) = true then (
(m_OnDays___init__ r1 r1).bind fun r24 =>
R.ok (((Cond.OnDays r24.low r24.high), v_at + 2))) else (
(m_number_at v_tokens (v_at + 3)).bind fun r28 =>
(m_OnDays___init__ r1 r28).bind fun r31 =>
R.ok (((Cond.OnDays r31.low r31.high), v_at + 4)))))
def m_both_at (m_one_at : (List Str) → Int → Int → R (Cond × Int)) (v_tokens : (List Str)) (v_at : Int) (v_room : Int) : R ((Cond × Int)) :=
(m_one_at v_tokens v_at v_room).bind fun r1 =>
(whileT 64 (fun (s4 : (Cond × Int)) =>
(m_token_at v_tokens s4.2).bind fun r15 =>
R.ok (decide (r15 = ("and" : Str)))) (fun (s4 : (Cond × Int)) =>
(m_one_at v_tokens (s4.2 + 1) v_room).bind fun r22 =>
(m_OfTwo___init___BothSo s4.1 r22.1).bind fun r41 =>
R.ok (((Cond.BothSo r41.first r41.second), r22.2))) (r1)).bind fun (s4 : (Cond × Int)) =>
R.ok (s4)
def m_either_at (m_one_at : (List Str) → Int → Int → R (Cond × Int)) (v_tokens : (List Str)) (v_at : Int) (v_room : Int) : R ((Cond × Int)) :=
(m_both_at m_one_at v_tokens v_at v_room).bind fun r1 =>
(whileT 64 (fun (s4 : (Cond × Int)) =>
(m_token_at v_tokens s4.2).bind fun r15 =>
R.ok (decide (r15 = ("or" : Str)))) (fun (s4 : (Cond × Int)) =>
(m_both_at m_one_at v_tokens (s4.2 + 1) v_room).bind fun r22 =>
(m_OfTwo___init___EitherSo s4.1 r22.1).bind fun r41 =>
R.ok (((Cond.EitherSo r41.first r41.second), r22.2))) (r1)).bind fun (s4 : (Cond × Int)) =>
R.ok (s4)
def m_law_cell_at (v_law_script : Script) (v_law_k : Int) : R Int :=
if (decide (v_law_k < (v_law_script.ns.length : Int))) = true then (
(idxR v_law_script.ns (v_law_k)).bind fun x2 =>
R.ok (x2)) else (
R.ok (0))
def m_law_mixed (v_law_script : Script) (v_law_start : Int) (v_law_many : Int) : R ((List Int)) :=
R.need (-(2 ^ 62) ≤ v_law_many ∧ v_law_many < 2 ^ 62) <|
(forR (fun (s3 : (List Int) × Int) (x4 : Int) =>
(m_law_cell_at v_law_script (v_law_start + x4)).bind fun r7 =>
(R.ok (((((s3.2 * 48271) + r7) + (31 * x4)) + 1) % 2147483647 : Int)).bind fun y8 =>
R.need (mulOk (y8) (y8)) <|
R.need (s3.1.length < sizeLine) <|
R.ok (s3.1 ++ [(y8 * y8) % 2147483629], y8)) (rngL 0 (v_law_many).toNat) (([] : (List Int)), 7)).bind fun (s3 : (List Int) × Int) =>
R.ok (s3.1)
def m_law_word_by (v_law_shape : Int) (v_law_k : Int) : R Str :=
if (decide ((v_law_shape % 4) = 1)) = true then (
(R.ok ([("and" : Str), ("or" : Str), ("not" : Str), ("then" : Str), ("if" : Str), ("thread" : Str), ("to" : Str), ("any" : Str), ("day" : Str), ("stop" : Str), ("place" : Str), ("answers" : Str)] : (List Str))).bind fun y3 =>
R.need (y3.length + ([("before" : Str), ("after" : Str), ("word" : Str), ("title" : Str), ("from" : Str), ("in" : Str), ("marked" : Str), ("mark" : Str), ("unmark" : Str)]).length ≤ sizeLine) <|
(R.ok (y3 ++ ([("before" : Str), ("after" : Str), ("word" : Str), ("title" : Str), ("from" : Str), ("in" : Str), ("marked" : Str), ("mark" : Str), ("unmark" : Str)]) : (List Str))).bind fun y7 =>
(idxR y7 (((v_law_shape / 4) + (5 * v_law_k)) % 21)).bind fun x8 =>
R.ok (x8)) else (
(R.ok ((v_law_shape / 4) % 6 : Int)).bind fun y9 =>
R.need (0 < (20 - y9)) <|
R.need (-(2 ^ 62) ≤ ((y9 + 1) + ((v_law_shape / 24) % (20 - y9))) ∧ ((y9 + 1) + ((v_law_shape / 24) % (20 - y9))) < 2 ^ 62) <|
(forR (fun (s12 : Str) (x13 : Int) =>
(if (decide (x13 = y9)) = true then (
(idxR (("abcde1" : Str)).cps.toList (v_law_k)).bind fun c17 =>
R.need ((s12).length + (sg (c17)).length ≤ sizeLine) <|
(R.ok (s12 ++ (sg (c17)) : Str)).bind fun y19 =>
R.ok (y19)) else (
(idxR (("abcdefghijklmnopqrstuvwxyz0123456789" : Str)).cps.toList (((v_law_shape / 500) + (7 * x13)) % 36)).bind fun c20 =>
R.need ((s12).length + (sg (c20)).length ≤ sizeLine) <|
(R.ok (s12 ++ (sg (c20)) : Str)).bind fun y22 =>
R.ok (y22))).bind fun (s16 : Str) =>
R.ok (s16)) (rngL 0 ((y9 + 1) + ((v_law_shape / 24) % (20 - y9))).toNat) (("" : Str))).bind fun (s12 : Str) =>
R.ok (s12))
def m_law_leaf_by (v_law_shape : Int) (v_law_cell : Int) : R Any :=
(m_law_word_by v_law_shape ((v_law_cell / 11) % 5)).bind fun r1 =>
(R.ok (v_law_cell % 11 : Int)).bind fun y2 =>
if (decide (y2 = 0)) = true then (
R.ok ((Any.tup [(Any.str ("any" : Str))]))) else (
if (decide (y2 = 1)) = true then (
R.ok ((Any.tup [(Any.str ("answers" : Str))]))) else (
if (decide (y2 < 4)) = true then (
(idxR ([0, (v_law_cell / 55) % 10000, (v_law_cell / 55) % 9]) ((v_law_cell / 3) % 3)).bind fun x11 =>
(idxR ([x11, 9999, (v_law_cell / 77) % 10000, (v_law_cell / 77) % 9]) ((v_law_cell / 5) % 4)).bind fun x13 =>
R.ok ((Any.tup [(Any.str ("day" : Str)), (Any.int x11), (Any.int x13)]))) else (
(idxR ([("word" : Str), ("title" : Str), ("from" : Str), ("in" : Str), ("marked" : Str), ("word" : Str), ("marked" : Str)]) (y2 - 4)).bind fun x17 =>
R.ok ((Any.tup [(Any.str x17), (Any.str r1)])))))
def m_law_threads_b (m_law_threads : Any → R Int) (v_law_tree : Any) : R Int :=
(Any.asTup v_law_tree).bind fun xs1 =>
R.need (¬ (HT.sIx (xs1).length 0 (some (1)) = 0 ∧ HT.sIx (xs1).length (xs1).length none = (xs1).length)) <|
(forR (fun (s8 : Int) (x9 : Any) =>
(if (x9.is "tuple") = true then (
(m_law_threads x9).bind fun r14 =>
(R.ok (if r14 > s8 then r14 else s8 : Int)).bind fun y15 =>
R.ok (y15)) else (
R.ok (s8))).bind fun (s13 : Int) =>
R.ok (s13)) ((cutL xs1 (some (1)) none)) (0)).bind fun (s8 : Int) =>
(Any.asTup v_law_tree).bind fun xs16 =>
(idxR xs16 (0)).bind fun x18 =>
(eqA x18 (Any.str ("thread" : Str))).bind fun b27 =>
R.ok (s8 + (if b27 = true then 1 else 0))
def m_law_threads : Nat → Any → R Int
  | 0 => fun _ => .bad
  | n + 1 => m_law_threads_b (m_law_threads n)
def m_law_tree_by (v_law_shape : Int) (v_law_cells : (List Int)) : R Any :=
(forR (fun (s2 : (List Any)) (x3 : Int) =>
(R.ok (x3 % 9 : Int)).bind fun y8 =>
(if ((decide (y8 < 2)) && (decide (0 < (s2.length : Int)))) = true then (
(idxR s2 (-1)).bind fun x12 =>
R.need ((cutL s2 none (some (-1))).length + ([(Any.tup [(Any.str ("not" : Str)), x12])]).length ≤ sizeLine) <|
(R.ok ((cutL s2 none (some (-1))) ++ ([(Any.tup [(Any.str ("not" : Str)), x12])]) : (List Any))).bind fun y25 =>
R.ok (y25)) else (
(if (decide (y8 = 2)) = true then (
(if (decide (0 < (s2.length : Int))) = true then (
(idxR s2 (-1)).bind fun x28 =>
(m_law_threads 34 x28).bind fun r36 =>
R.ok (decide (r36 < 2))) else R.ok false).bind fun b27 =>
R.ok (b27)) else R.ok false).bind fun b26 =>
(if b26 = true then (
(idxR s2 (-1)).bind fun x40 =>
R.need ((cutL s2 none (some (-1))).length + ([(Any.tup [(Any.str ("thread" : Str)), x40])]).length ≤ sizeLine) <|
(R.ok ((cutL s2 none (some (-1))) ++ ([(Any.tup [(Any.str ("thread" : Str)), x40])]) : (List Any))).bind fun y53 =>
R.ok (y53)) else (
(if ((decide (4 < y8)) && (decide (1 < (s2.length : Int)))) = true then (
(idxR ([("both" : Str), ("either" : Str)]) (y8 % 2)).bind fun x58 =>
(idxR s2 (-2)).bind fun x59 =>
(idxR s2 (-1)).bind fun x67 =>
R.need ((cutL s2 none (some (-2))).length + ([(Any.tup [(Any.str x58), x59, x67])]).length ≤ sizeLine) <|
(R.ok ((cutL s2 none (some (-2))) ++ ([(Any.tup [(Any.str x58), x59, x67])]) : (List Any))).bind fun y80 =>
R.ok (y80)) else (
(m_law_leaf_by v_law_shape (x3 / 9)).bind fun r81 =>
R.need (s2.length < sizeLine) <|
R.ok (s2 ++ [r81]))).bind fun (s54 : (List Any)) =>
R.ok (s54))).bind fun (s37 : (List Any)) =>
R.ok (s37))).bind fun (s9 : (List Any)) =>
R.ok (s9)) (v_law_cells) (([] : (List Any)))).bind fun (s2 : (List Any)) =>
(whileN 64 (fun (s85 : (List Any)) => decide (1 < (s85.length : Int))) (fun (s85 : (List Any)) =>
(idxR v_law_cells (0)).bind fun x89 =>
(idxR ([("both" : Str), ("either" : Str)]) ((x89 / 9) % 2)).bind fun x90 =>
(idxR s85 (-2)).bind fun x91 =>
(idxR s85 (-1)).bind fun x99 =>
R.need ((cutL s85 none (some (-2))).length + ([(Any.tup [(Any.str x90), x91, x99])]).length ≤ sizeLine) <|
(R.ok ((cutL s85 none (some (-2))) ++ ([(Any.tup [(Any.str x90), x91, x99])]) : (List Any))).bind fun y112 =>
R.ok (y112)) (s2)).bind fun (s85 : (List Any)) =>
(idxR s85 (0)).bind fun x113 =>
R.ok (x113)
def m_law_number (v_law_number_here : Int) (v_law_cell : Int) : R Str :=
R.need ((v_law_number_here : Int).natAbs.log2 < 1920) <|
(R.ok (Str.ofString (toString (v_law_number_here : Int)) : Str)).bind fun y2 =>
(whileT 64 (fun (s3 : Str) =>
R.need ((s3).length ≤ sizeLine) <|
R.ok (decide (((s3).length : Int) < (1 + (v_law_cell % 4))))) (fun (s3 : Str) =>
R.need ((("0" : Str)).length + (s3).length ≤ sizeLine) <|
(R.ok (("0" : Str) ++ s3 : Str)).bind fun y6 =>
R.ok (y6)) (y2)).bind fun (s3 : Str) =>
R.ok (s3)
def m_law_day_tokens (v_law_tree : Any) (v_law_cell : Int) : R ((List Str)) :=
(Any.asTup v_law_tree).bind fun xs1 =>
(idxR xs1 (1)).bind fun x3 =>
(Any.asTup v_law_tree).bind fun xs13 =>
(idxR xs13 (2)).bind fun x15 =>
(eqA x3 x15).bind fun b25 =>
if (b25 && (decide ((v_law_cell % 2) = 1))) = true then (
(Any.asInt x3).bind fun s27 =>
(m_law_number s27 (v_law_cell / 2)).bind fun r30 =>
R.ok ([("day" : Str), r30])) else (
(eqA x3 (Any.int 0)).bind fun b32 =>
(if b32 = true then (
(Any.asInt x15).bind fun s34 =>
R.ok ((decide (s34 < 9999)) && (decide ((v_law_cell % 3) = 1)))) else R.ok false).bind fun b33 =>
if b33 = true then (
(Any.asInt x15).bind fun s38 =>
(m_law_number (s38 + 1) (v_law_cell / 3)).bind fun r41 =>
R.ok ([("before" : Str), r41])) else (
(eqA x15 (Any.int 9999)).bind fun b43 =>
(if b43 = true then (
(Any.asInt x3).bind fun s45 =>
R.ok ((decide (0 < s45)) && (decide ((v_law_cell % 3) = 2)))) else R.ok false).bind fun b44 =>
if b44 = true then (
(Any.asInt x3).bind fun s49 =>
(m_law_number (s49 - 1) (v_law_cell / 3)).bind fun r52 =>
R.ok ([("after" : Str), r52])) else (
(Any.asInt x3).bind fun s54 =>
(m_law_number s54 (v_law_cell / 2)).bind fun r57 =>
(Any.asInt x15).bind fun s58 =>
(m_law_number s58 (v_law_cell / 5)).bind fun r61 =>
R.ok ([("day" : Str), r57, ("to" : Str), r61]))))
def m_law_tokens_b (m_law_tokens : Any → Int → (List Int) → Int → R (List Str)) (v_law_tree : Any) (v_law_close : Int) (v_law_cells : (List Int)) (v_law_at : Int) : R ((List Str)) :=
R.need (0 < (v_law_cells.length : Int)) <|
(idxR v_law_cells (v_law_at % (v_law_cells.length : Int))).bind fun x2 =>
R.need (0 < (1 + v_law_at) ∧ (1 + v_law_at) < 1073741824) <|
(R.ok (x2 / (1 + v_law_at) : Int)).bind fun y4 =>
(Any.asTup v_law_tree).bind fun xs5 =>
(idxR xs5 (0)).bind fun x7 =>
(eqA x7 (Any.str ("not" : Str))).bind fun b16 =>
(if b16 = true then R.ok true else (
(Any.asTup v_law_tree).bind fun xs18 =>
(idxR xs18 (0)).bind fun x20 =>
(eqA x20 (Any.str ("thread" : Str))).bind fun b29 =>
R.ok (b29))).bind fun b17 =>
(if b17 = true then (
(Any.asTup v_law_tree).bind fun xs32 =>
(idxR xs32 (0)).bind fun x34 =>
(Any.asStr x34).bind fun s45 =>
(Any.asTup v_law_tree).bind fun xs48 =>
(idxR xs48 (1)).bind fun x50 =>
(m_law_tokens x50 2 v_law_cells (v_law_at + 1)).bind fun r60 =>
R.need (([s45]).length + r60.length ≤ sizeLine) <|
(R.ok (([s45]) ++ r60 : (List Str))).bind fun y64 =>
R.ok (y64, 2)) else (
(Any.asTup v_law_tree).bind fun xs65 =>
(idxR xs65 (0)).bind fun x67 =>
(eqA x67 (Any.str ("both" : Str))).bind fun b76 =>
(if b76 = true then (
(Any.asTup v_law_tree).bind fun xs79 =>
(idxR xs79 (1)).bind fun x81 =>
(m_law_tokens x81 1 v_law_cells (v_law_at + 1)).bind fun r91 =>
R.need (r91.length + ([("and" : Str)]).length ≤ sizeLine) <|
(Any.asTup v_law_tree).bind fun xs96 =>
(idxR xs96 (2)).bind fun x98 =>
(m_law_tokens x98 2 v_law_cells (v_law_at + 2)).bind fun r108 =>
R.need ((r91 ++ ([("and" : Str)])).length + r108.length ≤ sizeLine) <|
(R.ok ((r91 ++ ([("and" : Str)])) ++ r108 : (List Str))).bind fun y112 =>
R.ok (y112, 1)) else (
(Any.asTup v_law_tree).bind fun xs113 =>
(idxR xs113 (0)).bind fun x115 =>
(eqA x115 (Any.str ("either" : Str))).bind fun b124 =>
(if b124 = true then (
(Any.asTup v_law_tree).bind fun xs127 =>
(idxR xs127 (1)).bind fun x129 =>
(m_law_tokens x129 0 v_law_cells (v_law_at + 1)).bind fun r139 =>
R.need (r139.length + ([("or" : Str)]).length ≤ sizeLine) <|
(Any.asTup v_law_tree).bind fun xs144 =>
(idxR xs144 (2)).bind fun x146 =>
(m_law_tokens x146 1 v_law_cells (v_law_at + 2)).bind fun r156 =>
R.need ((r139 ++ ([("or" : Str)])).length + r156.length ≤ sizeLine) <|
(R.ok ((r139 ++ ([("or" : Str)])) ++ r156 : (List Str))).bind fun y160 =>
R.ok (y160, 0)) else (
(Any.asTup v_law_tree).bind fun xs161 =>
(idxR xs161 (0)).bind fun x163 =>
(eqA x163 (Any.str ("day" : Str))).bind fun b172 =>
(if b172 = true then (
(m_law_day_tokens v_law_tree (y4 / 7)).bind fun r175 =>
R.ok (r175, 2)) else (
(Any.asStrs v_law_tree).bind fun ss178 =>
R.ok (ss178, 2))).bind fun (s173 : (List Str) × Int) =>
R.ok (s173.1, s173.2))).bind fun (s125 : (List Str) × Int) =>
R.ok (s125.1, s125.2))).bind fun (s77 : (List Str) × Int) =>
R.ok (s77.1, s77.2))).bind fun (s30 : (List Str) × Int) =>
R.need (-(2 ^ 62) ≤ ((if (decide (s30.2 < v_law_close)) = true then 1 else 0) + (if (decide ((y4 % 5) = 1)) = true then 1 else 0) : Int) ∧ ((if (decide (s30.2 < v_law_close)) = true then 1 else 0) + (if (decide ((y4 % 5) = 1)) = true then 1 else 0) : Int) < 2 ^ 62) <|
(forR (fun (s180 : (List Str)) (x181 : Int) =>
R.need (([("(" : Str)]).length + s180.length ≤ sizeLine) <|
R.need ((([("(" : Str)]) ++ s180).length + ([(")" : Str)]).length ≤ sizeLine) <|
(R.ok ((([("(" : Str)]) ++ s180) ++ ([(")" : Str)]) : (List Str))).bind fun y191 =>
R.ok (y191)) (rngL 0 ((if (decide (s30.2 < v_law_close)) = true then 1 else 0) + (if (decide ((y4 % 5) = 1)) = true then 1 else 0) : Int).toNat) (s30.1)).bind fun (s180 : (List Str)) =>
R.ok (s180)
def m_law_tokens : Nat → Any → Int → (List Int) → Int → R (List Str)
  | 0 => fun _ _ _ _ => .bad
  | n + 1 => m_law_tokens_b (m_law_tokens n)
def m_law_joined (v_law_tokens_here : (List Str)) (v_law_cells : (List Int)) : R Str :=
R.need (v_law_tokens_here.length ≤ sizeLine) <|
(forR (fun (s2 : Str × Str) (x3 : Int) =>
R.need (0 < (v_law_cells.length : Int)) <|
(idxR v_law_cells (x3 % (v_law_cells.length : Int))).bind fun x8 =>
R.need (0 < (3 + x3) ∧ (3 + x3) < 1073741824) <|
(R.ok ((x8 / (3 + x3)) % 3 : Int)).bind fun y10 =>
(if (decide (y10 = 0)) = true then (
(if (!decide (s2.2 ∈ ([("(" : Str), (")" : Str), ("," : Str)]))) = true then (
(idxR v_law_tokens_here (x3)).bind fun x14 =>
R.ok (!decide (x14 ∈ ([("(" : Str), (")" : Str), ("," : Str)])))) else R.ok false).bind fun b13 =>
R.ok (b13)) else R.ok false).bind fun b11 =>
(if b11 = true then (
R.ok (1)) else (
R.ok (y10))).bind fun (s16 : Int) =>
R.need (((" " : Str)).length * (s16 : Int).toNat ≤ sizeLine ∧ -(2 ^ 62) ≤ (s16 : Int) ∧ (s16 : Int) < 2 ^ 62) <|
R.need ((s2.1).length + (repS (" " : Str) (s16 : Int).toNat).length ≤ sizeLine) <|
(idxR v_law_tokens_here (x3)).bind fun x19 =>
R.need ((s2.1 ++ (repS (" " : Str) (s16 : Int).toNat)).length + (x19).length ≤ sizeLine) <|
(R.ok ((s2.1 ++ (repS (" " : Str) (s16 : Int).toNat)) ++ x19 : Str)).bind fun y21 =>
(idxR v_law_tokens_here (x3)).bind fun x22 =>
R.ok (y21, x22)) (rngL 0 ((v_law_tokens_here.length : Int)).toNat) (("" : Str), ("(" : Str))).bind fun (s2 : Str × Str) =>
R.ok (s2.1)
def m_OfWord_tree_InTitle (v_self : InTitle) : R Any :=
(m_InTitle_sign v_self).bind fun r3 =>
R.ok ((Any.tup [(Any.str r3), (Any.str v_self.word)]))
def m_OfWord_tree_FromSender (v_self : FromSender) : R Any :=
(m_FromSender_sign v_self).bind fun r3 =>
R.ok ((Any.tup [(Any.str r3), (Any.str v_self.word)]))
def m_OfWord_tree_InFolder (v_self : InFolder) : R Any :=
(m_InFolder_sign v_self).bind fun r3 =>
R.ok ((Any.tup [(Any.str r3), (Any.str v_self.word)]))
def m_OfWord_tree_IsMarked (v_self : IsMarked) : R Any :=
(m_IsMarked_sign v_self).bind fun r3 =>
R.ok ((Any.tup [(Any.str r3), (Any.str v_self.word)]))
def m_OfOne_tree_InThread (m_Cond_tree : Cond → R Any) (v_self : InThread) : R Any :=
(m_InThread_sign v_self).bind fun r3 =>
(m_Cond_tree v_self.inner).bind fun r14 =>
R.ok ((Any.tup [(Any.str r3), r14]))
def m_OfTwo_tree_EitherSo (m_Cond_tree : Cond → R Any) (v_self : EitherSo) : R Any :=
(m_EitherSo_sign v_self).bind fun r3 =>
(m_Cond_tree v_self.first).bind fun r23 =>
(m_Cond_tree v_self.second).bind fun r38 =>
R.ok ((Any.tup [(Any.str r3.2), r23, r38]))
def m_Cond_tree : Nat → Cond → R Any
  | 0, _ => .bad
  | n + 1, .Anything => m_Anything_tree ⟨⟩ 
  | n + 1, .HasWord word => m_OfWord_tree_HasWord ⟨word⟩ 
  | n + 1, .InTitle word => m_OfWord_tree_InTitle ⟨word⟩ 
  | n + 1, .FromSender word => m_OfWord_tree_FromSender ⟨word⟩ 
  | n + 1, .InFolder word => m_OfWord_tree_InFolder ⟨word⟩ 
  | n + 1, .IsMarked word => m_OfWord_tree_IsMarked ⟨word⟩ 
  | n + 1, .OnDays low high => m_OnDays_tree ⟨low, high⟩ 
  | n + 1, .IsAnswer => m_IsAnswer_tree ⟨⟩ 
  | n + 1, .NotSo inner => m_OfOne_tree_NotSo (m_Cond_tree n) ⟨inner⟩ 
  | n + 1, .InThread inner => m_OfOne_tree_InThread (m_Cond_tree n) ⟨inner⟩ 
  | n + 1, .BothSo first second => m_OfTwo_tree_BothSo (m_Cond_tree n) ⟨first, second⟩ 
  | n + 1, .EitherSo first second => m_OfTwo_tree_EitherSo (m_Cond_tree n) ⟨first, second⟩
def m_one_at_b (m_one_at : (List Str) → Int → Int → R (Cond × Int)) (v_tokens : (List Str)) (v_at : Int) (v_room : Int) : R ((Cond × Int)) :=
(m_token_at v_tokens v_at).bind fun r1 =>
if (decide (r1 = ("any" : Str))) = true then (
R.ok (((Cond.Anything), v_at + 1))) else (
if (decide (r1 = ("answers" : Str))) = true then (
R.ok (((Cond.IsAnswer), v_at + 1))) else (
if (decide (r1 ∈ ([(⟨("day" : Str), ("before" : Str), ("after" : Str)⟩ : T3 _ _ _).a, (⟨("day" : Str), ("before" : Str), ("after" : Str)⟩ : T3 _ _ _).b, (⟨("day" : Str), ("before" : Str), ("after" : Str)⟩ : T3 _ _ _).c] : List Str))) = true then (
(m_days_at v_tokens v_at).bind fun r24 =>
R.ok (r24)) else (
if (!decide (r1 ∈ ([(⟨("(" : Str), ("not" : Str), ("thread" : Str)⟩ : T3 _ _ _).a, (⟨("(" : Str), ("not" : Str), ("thread" : Str)⟩ : T3 _ _ _).b, (⟨("(" : Str), ("not" : Str), ("thread" : Str)⟩ : T3 _ _ _).c] : List Str))) = true then (
(m_token_at v_tokens (v_at + 1)).bind fun r37 =>
(m_of_word r1 r37).bind fun r38 =>
(m_word_at v_tokens (v_at + 1)).bind fun r41 =>
R.ok ((r38, v_at + 2))) else (
if (decide (v_room = 0)) = true then (
.bad) else (
if (decide (r1 = ("(" : Str))) = true then (
(m_either_at m_one_at v_tokens (v_at + 1) (v_room - 1)).bind fun r46 =>
(m_token_at v_tokens r46.2).bind fun r55 =>
if (!decide (r55 = (")" : Str))) = true then (
.bad) else (
R.ok ((r46.1, r46.2 + 1)))) else (
(m_one_at v_tokens (v_at + 1) (v_room - 1)).bind fun r72 =>
if (decide (r1 = ("not" : Str))) = true then (
(m_OfOne___init___NotSo r72.1).bind fun r85 =>
R.ok (((Cond.NotSo r85.inner), r72.2))) else (
(m_OfOne___init___InThread r72.1).bind fun r104 =>
R.ok (((Cond.InThread r104.inner), r72.2)))))))))
def m_one_at : Nat → (List Str) → Int → Int → R (Cond × Int)
  | 0 => fun _ _ _ => .bad
  | n + 1 => m_one_at_b (m_one_at n)
def m_whole_at (v_tokens : (List Str)) (v_at : Int) : R ((Cond × Int)) :=
(m_either_at (m_one_at 45) v_tokens v_at 40).bind fun r1 =>
(m_Cond_tree 34 r1.1).bind fun r15 =>
(m_deep 34 r15).bind fun r18 =>
(if (decide (30 < r18)) = true then R.ok true else (
(m_threads_deep 34 r15).bind fun r20 =>
R.ok (decide (2 < r20)))).bind fun b19 =>
if b19 = true then (
.bad) else (
R.ok (r1))
def m_read_condition (v_text : Str) : R Cond :=
(m_tokens_of v_text).bind fun r1 =>
(m_whole_at r1 0).bind fun r3 =>
if (!decide (r3.2 = (r1.length : Int))) = true then (
.bad) else (
R.ok (r3.1))
def m_law (v_law_script : Script) : R Bool :=
(m_law_mixed v_law_script 0 22).bind fun r1 =>
(idxR r1 (20)).bind fun x3 =>
(idxR r1 (21)).bind fun x4 =>
(m_law_tree_by x3 (cutL r1 none (some (1 + (x4 % 10))))).bind fun r6 =>
(m_law_tokens 12 r6 0 r1 0).bind fun r9 =>
(m_law_joined r9 (cutL r1 (some (3)) (some (20)))).bind fun r12 =>
(idxR r1 (21)).bind fun x13 =>
R.need (((" " : Str)).length * ((x13 / 10) % 3 : Int).toNat ≤ sizeLine ∧ -(2 ^ 62) ≤ ((x13 / 10) % 3 : Int) ∧ ((x13 / 10) % 3 : Int) < 2 ^ 62) <|
R.need ((r12).length + (repS (" " : Str) ((x13 / 10) % 3 : Int).toNat).length ≤ sizeLine) <|
(R.ok (r12 ++ (repS (" " : Str) ((x13 / 10) % 3 : Int).toNat) : Str)).bind fun y16 =>
(m_read_condition y16).bind fun r17 =>
(m_read_condition y16).bind fun r23 =>
(m_Cond_tree 34 r23).bind fun r30 =>
(eqA r30 r6).bind fun b33 =>
(if b33 = true then (
R.need (((" " : Str)).length + (y16).length ≤ sizeLine) <|
(m_read_condition ((" " : Str) ++ y16)).bind fun r36 =>
(m_Cond_tree 34 r36).bind fun r43 =>
(eqA r43 r6).bind fun b46 =>
R.ok (b46)) else R.ok false).bind fun b34 =>
R.ok (b34)
end Lw
namespace Lw
open PySem L2 Ml
theorem alph_len : ("abcdefghijklmnopqrstuvwxyz0123456789" : Str).cps.toList.length = 36 := by decide +kernel
def wsg (c : Nat) : Bool := (97 ≤ c && c ≤ 122) || (48 ≤ c && c ≤ 57)
theorem wsg_lt {c : Nat} (h : wsg c = true) : c < 128 := by
  unfold wsg at h
  simp at h
  omega
theorem alph_wsg : ∀ c, c ∈ ("abcdefghijklmnopqrstuvwxyz0123456789" : Str).cps.toList → wsg c = true := by
  have : ("abcdefghijklmnopqrstuvwxyz0123456789" : Str).cps.toList.all wsg = true := by decide +kernel
  exact fun c hc => List.all_eq_true.mp this c hc
theorem alph_at {ρ : Type} {P : ρ → Prop} {i : Int} {f : Nat → R ρ} (k : ∀ c, wsg c = true → Ok (f c) P) : Ok ((idxR ("abcdefghijklmnopqrstuvwxyz0123456789" : Str).cps.toList (i % 36)).bind f) P :=
  .idx (Int.emod_nonneg _ (by decide)) (by rw [alph_len]; exact Int.emod_lt_of_pos _ (by decide)) fun c m _ => k c (alph_wsg c m)
/-- word signs alone -/
def Wsg (x : Str) : Prop := ∀ c, c ∈ x.cps.toList → wsg c = true
theorem Wsg.asc {x : Str} (h : Wsg x) : Asc x := fun c hc => wsg_lt (h c hc)
theorem Wsg.app {a b : Str} (ha : Wsg a) (hb : Wsg b) : Wsg (a ++ b) := fun c hc => by
  rw [tl_app] at hc
  rcases List.mem_append.mp hc with h | h
  · exact ha c h
  · exact hb c h
theorem Wsg.sg {c : Nat} (h : wsg c = true) : Wsg (sg c) := fun d hd => by
  have : d = c := by simpa [Ml.sg] using hd
  rw [this]; exact h
theorem Wsg.lit {x : Str} (h : x.cps.toList.all wsg = true) : Wsg x := fun c hc => List.all_eq_true.mp h c hc
theorem is_sign_eq (c : Nat) : m_is_sign c = .ok (wsg c) := by
  unfold m_is_sign
  congr 1
  have h1 : (("abcdefghijklmnopqrstuvwxyz" : Str)).cps.toList = (List.range 26).map (97 + ·) := by decide +kernel
  have h2 : (("0123456789" : Str)).cps.toList = (List.range 10).map (48 + ·) := by decide +kernel
  rw [h1, h2]
  unfold wsg
  rw [Bool.eq_iff_iff]
  simp only [Bool.or_eq_true, decide_eq_true_eq, List.mem_map, List.mem_range, Bool.and_eq_true]
  constructor
  · rintro (⟨a, h, rfl⟩ | ⟨a, h, rfl⟩) <;> omega
  · rintro (h | h)
    · exact .inl ⟨c - 97, by omega, by omega⟩
    · exact .inr ⟨c - 48, by omega, by omega⟩
theorem pdA_str (s : Str) : pdA (.str s) = .str s := by rw [pdA]
theorem pdA_int (s : Int) : pdA (.int s) = .int s := by rw [pdA]
theorem plA_str (s : Str) : plA (.str s) = true := by rw [plA] <;> (intro _ h; cases h)
theorem plA_int (s : Int) : plA (.int s) = true := by rw [plA] <;> (intro _ h; cases h)
theorem shaped_str {s : Str} (h : Asc s) : SeqAt.shaped (.str s) = true := by
  have h1 : (PyData.str s).canLay0 = true := h.lay
  unfold SeqAt.shaped
  rw [h1]; rfl
theorem eqA_str {a b : Str} (ha : Asc a) (hb : Asc b) : eqA (.str a) (.str b) = .ok (decide (a = b)) := by
  unfold eqA
  rw [R.need_pos (by rw [plA_str, plA_str, pdA_str, pdA_str]; exact ⟨rfl, rfl, shaped_str ha, shaped_str hb⟩), pdA_str, pdA_str]
  exact congrArg R.ok (str_beq a b)
def isWord (s : Str) : Bool := (decide (1 ≤ s.length) && decide (s.length ≤ 20)) && s.cps.toList.all wsg
theorem isWord_iff {s : Str} : isWord s = true ↔ Wsg s ∧ 1 ≤ s.length ∧ s.length ≤ 20 := by
  unfold isWord
  simp only [Bool.and_eq_true, decide_eq_true_eq, List.all_eq_true]
  exact ⟨fun ⟨⟨a, b⟩, c⟩ => ⟨c, a, b⟩, fun ⟨c, a, b⟩ => ⟨⟨a, b⟩, c⟩⟩
theorem is_word_str {s : Str} (hl : s.length ≤ sizeLine) : m_is_word (.str s) = .ok (isWord s) := by
  unfold m_is_word
  have e1 : (Any.str s).is "str" = true := rfl
  rw [e1]
  have e2 : lenA (.str s) = .ok (s.length : Int) := R.need_pos hl _
  show ((lenA (.str s)).bind _).bind _ = _
  rw [e2, R.bind_ok, R.bind_ok]
  by_cases c : 1 ≤ s.length ∧ s.length ≤ 20
  · have c1 : (decide ((1 : Int) ≤ (s.length : Int)) && decide ((s.length : Int) ≤ 20)) = true := by simp; omega
    rw [c1]
    rw [if_neg (by decide)]
    show (R.need _ _) = _
    rw [R.need_pos (by rw [← len_tl]; exact hl), compR_map (g := wsg) fun x _ => by rw [is_sign_eq]; rfl]
    rw [R.bind_ok]
    congr 1
    unfold isWord
    have c2 : (decide (1 ≤ s.length) && decide (s.length ≤ 20)) = true := by simp; exact c
    rw [c2]
    simp [List.all_map]
  · have c1 : (decide ((1 : Int) ≤ (s.length : Int)) && decide ((s.length : Int) ≤ 20)) = false := by
      rw [Bool.and_eq_false_iff]; simp; omega
    rw [c1]
    have c2 : isWord s = false := by
      unfold isWord
      have : (decide (1 ≤ s.length) && decide (s.length ≤ 20)) = false := by rw [Bool.and_eq_false_iff]; simp; omega
      rw [this]; rfl
    rw [c2]; rfl
theorem isW_asc {x : Str} (h : isWord x = true) : Asc x := Wsg.asc (isWord_iff.mp h).1
theorem cell_at_ok (s : Script) {k : Int} (h : 0 ≤ k) : Ok (m_law_cell_at s k) fun _ => True := by
  unfold m_law_cell_at
  refine .ite (fun c => ?_) fun _ => .ret trivial
  exact .idx h (of_decide_eq_true c) fun _ _ _ => .ret trivial
theorem mixed_ok (s : Script) : Ok (m_law_mixed s 0 22) fun r => r.length = 22 ∧ ∀ x, x ∈ r → 0 ≤ x ∧ x < 2147483629 := by
  unfold m_law_mixed
  refine .need (by decide) ?_
  refine .forI (fun pre (s : List Int × Int) => s.1.length = pre.length ∧ (∀ x, x ∈ s.1 → 0 ≤ x ∧ x < 2147483629)) ⟨rfl, by simp⟩ ?_ ?_
  · rintro p x q ⟨l, m⟩ ep ⟨hl, hx⟩
    have hp := pre_lt ep
    rw [rngL_len] at hp
    have hp2 : p.length < 22 := hp
    have hx0 := rngL_mem (show x ∈ rngL 0 (22 : Int).toNat by rw [ep]; simp)
    refine .bind (cell_at_ok s (by omega)) fun c _ => .lets ?_
    dsimp only
    have hy0 : 0 ≤ ((m * 48271 + c) + 31 * x + 1) % 2147483647 := Int.emod_nonneg _ (by decide)
    have hy1 : ((m * 48271 + c) + 31 * x + 1) % 2147483647 < 2147483647 := Int.emod_lt_of_pos _ (by decide)
    generalize ((m * 48271 + c) + 31 * x + 1) % 2147483647 = y at *
    have hl' : l.length = p.length := hl
    refine .need (show mulOk y y from .inl ⟨by omega, by omega⟩) (.need (lt_line (m := 1000) (by omega) (by decide)) (.ret ⟨by simp [hl'], fun z hz => ?_⟩))
    rcases List.mem_append.mp hz with h | h
    · exact hx z h
    · rw [List.mem_singleton.mp h]
      exact ⟨Int.emod_nonneg _ (by decide), Int.emod_lt_of_pos _ (by decide)⟩
  · rintro ⟨l, m⟩ ⟨hl, hx⟩
    exact .ret ⟨by rw [hl, rngL_len]; rfl, hx⟩
theorem own_words : ([("and" : Str), ("or" : Str), ("not" : Str), ("then" : Str), ("if" : Str), ("thread" : Str), ("to" : Str), ("any" : Str), ("day" : Str), ("stop" : Str), ("place" : Str), ("answers" : Str)] ++ [("before" : Str), ("after" : Str), ("word" : Str), ("title" : Str), ("from" : Str), ("in" : Str), ("marked" : Str), ("mark" : Str), ("unmark" : Str)]).all isWord = true := by decide +kernel
theorem abc_wsg : Wsg ("abcde1" : Str) := Wsg.lit (by decide +kernel)
theorem word_by_ok {b k : Int} (hb : 0 ≤ b) (hk : 0 ≤ k ∧ k < 5) : Ok (m_law_word_by b k) fun z => isWord z = true := by
  unfold m_law_word_by
  refine .ite (fun _ => ?_) fun _ => ?_
  · refine .lets (.need (by decide) (.lets (.idx (Int.emod_nonneg _ (by decide)) (Int.emod_lt_of_pos _ (by decide)) fun x hx _ => .ret (List.all_eq_true.mp own_words x hx))))
  · refine .lets ?_
    have h0 : 0 ≤ b / 4 % 6 := Int.emod_nonneg _ (by decide)
    have h1 : b / 4 % 6 < 6 := Int.emod_lt_of_pos _ (by decide)
    generalize b / 4 % 6 = pl at *
    refine .need (by omega) ?_
    have g0 : 0 ≤ b / 24 % (20 - pl) := Int.emod_nonneg _ (by omega)
    have g1 : b / 24 % (20 - pl) < 20 - pl := Int.emod_lt_of_pos _ (by omega)
    generalize b / 24 % (20 - pl) = q at *
    refine .need (by omega) ?_
    refine .forI (fun pre (s : Str) => Wsg s ∧ s.length = pre.length) ⟨Wsg.lit (by decide +kernel), rfl⟩ ?_ ?_
    · rintro p x r s ep ⟨hs, hl⟩
      have hp := pre_lt ep
      rw [rngL_len] at hp
      have app1 : ∀ {c : Nat}, wsg c = true → Ok (R.need ((s).length + (sg (c)).length ≤ sizeLine) <| (R.ok (s ++ (sg (c)) : Str)).bind fun y19 => R.ok (y19)) (fun s : Str => Wsg s ∧ s.length = (p ++ [x]).length) := fun {c} hc =>
        .need (le_line (by rw [len_sg]; omega)) (.lets (.ret ⟨hs.app (Wsg.sg hc), by rw [len_app, len_sg, hl, List.length_append]; rfl⟩))
      refine .bind (Q := fun s : Str => Wsg s ∧ s.length = (p ++ [x]).length) (.ite (fun _ => ?_) fun _ => ?_) fun s hs => .ret hs
      · refine .idx hk.1 (show k < ((("abcde1" : Str)).cps.toList.length : Int) from ?_) fun c hc _ => app1 (abc_wsg c hc)
        have : (("abcde1" : Str)).cps.toList.length = 6 := by decide +kernel
        rw [this]; omega
      · exact alph_at fun c hc => app1 hc
    · rintro s ⟨hs, hl⟩
      rw [rngL_len] at hl
      exact .ret (isWord_iff.mpr ⟨hs, by omega, by omega⟩)
def tr : Cond → Any
  | .Anything => .tup [.str ("any" : Str)]
  | .HasWord w => .tup [.str ("word" : Str), .str w]
  | .InTitle w => .tup [.str ("title" : Str), .str w]
  | .FromSender w => .tup [.str ("from" : Str), .str w]
  | .InFolder w => .tup [.str ("in" : Str), .str w]
  | .IsMarked w => .tup [.str ("marked" : Str), .str w]
  | .OnDays a b => .tup [.str ("day" : Str), .int a, .int b]
  | .IsAnswer => .tup [.str ("answers" : Str)]
  | .NotSo c => .tup [.str ("not" : Str), tr c]
  | .InThread c => .tup [.str ("thread" : Str), tr c]
  | .BothSo a b => .tup [.str ("both" : Str), tr a, tr b]
  | .EitherSo a b => .tup [.str ("either" : Str), tr a, tr b]
def dep : Cond → Nat
  | .NotSo c => dep c + 1
  | .InThread c => dep c + 1
  | .BothSo a b => max (dep a) (dep b) + 1
  | .EitherSo a b => max (dep a) (dep b) + 1
  | _ => 1
def Gc : Cond → Prop
  | .HasWord w => isWord w = true
  | .InTitle w => isWord w = true
  | .FromSender w => isWord w = true
  | .InFolder w => isWord w = true
  | .IsMarked w => isWord w = true
  | .NotSo c => Gc c
  | .InThread c => Gc c
  | .BothSo a b => Gc a ∧ Gc b
  | .EitherSo a b => Gc a ∧ Gc b
  | _ => True
theorem dep_pos (c : Cond) : 1 ≤ dep c := by cases c <;> simp [dep]
def kd : List Str := [("any" : Str), ("word" : Str), ("title" : Str), ("from" : Str), ("in" : Str), ("marked" : Str), ("day" : Str), ("answers" : Str), ("not" : Str), ("thread" : Str), ("both" : Str), ("either" : Str)]
theorem kd_asc : kd.all (fun k => k.cps.toList.all (· < 128)) = true := by decide +kernel
theorem kdE {i j : Nat} {k l : Str} (hi : kd[i]? = some k) (hj : kd[j]? = some l) : eqA (.str k) (.str l) = .ok (decide (k = l)) :=
  eqA_str (Asc.lit (List.all_eq_true.mp kd_asc k (List.mem_of_getElem? hi))) (Asc.lit (List.all_eq_true.mp kd_asc l (List.mem_of_getElem? hj)))
theorem q0_6 : eqA (.str ("any" : Str)) (.str ("day" : Str)) = .ok false := (kdE (i := 0) (j := 6) rfl rfl).trans (congrArg R.ok (decide_eq_false (by decide +kernel)))
theorem q0_8 : eqA (.str ("any" : Str)) (.str ("not" : Str)) = .ok false := (kdE (i := 0) (j := 8) rfl rfl).trans (congrArg R.ok (decide_eq_false (by decide +kernel)))
theorem q0_9 : eqA (.str ("any" : Str)) (.str ("thread" : Str)) = .ok false := (kdE (i := 0) (j := 9) rfl rfl).trans (congrArg R.ok (decide_eq_false (by decide +kernel)))
theorem q0_10 : eqA (.str ("any" : Str)) (.str ("both" : Str)) = .ok false := (kdE (i := 0) (j := 10) rfl rfl).trans (congrArg R.ok (decide_eq_false (by decide +kernel)))
theorem q0_11 : eqA (.str ("any" : Str)) (.str ("either" : Str)) = .ok false := (kdE (i := 0) (j := 11) rfl rfl).trans (congrArg R.ok (decide_eq_false (by decide +kernel)))
theorem q1_6 : eqA (.str ("word" : Str)) (.str ("day" : Str)) = .ok false := (kdE (i := 1) (j := 6) rfl rfl).trans (congrArg R.ok (decide_eq_false (by decide +kernel)))
theorem q1_8 : eqA (.str ("word" : Str)) (.str ("not" : Str)) = .ok false := (kdE (i := 1) (j := 8) rfl rfl).trans (congrArg R.ok (decide_eq_false (by decide +kernel)))
theorem q1_9 : eqA (.str ("word" : Str)) (.str ("thread" : Str)) = .ok false := (kdE (i := 1) (j := 9) rfl rfl).trans (congrArg R.ok (decide_eq_false (by decide +kernel)))
theorem q1_10 : eqA (.str ("word" : Str)) (.str ("both" : Str)) = .ok false := (kdE (i := 1) (j := 10) rfl rfl).trans (congrArg R.ok (decide_eq_false (by decide +kernel)))
theorem q1_11 : eqA (.str ("word" : Str)) (.str ("either" : Str)) = .ok false := (kdE (i := 1) (j := 11) rfl rfl).trans (congrArg R.ok (decide_eq_false (by decide +kernel)))
theorem q2_6 : eqA (.str ("title" : Str)) (.str ("day" : Str)) = .ok false := (kdE (i := 2) (j := 6) rfl rfl).trans (congrArg R.ok (decide_eq_false (by decide +kernel)))
theorem q2_8 : eqA (.str ("title" : Str)) (.str ("not" : Str)) = .ok false := (kdE (i := 2) (j := 8) rfl rfl).trans (congrArg R.ok (decide_eq_false (by decide +kernel)))
theorem q2_9 : eqA (.str ("title" : Str)) (.str ("thread" : Str)) = .ok false := (kdE (i := 2) (j := 9) rfl rfl).trans (congrArg R.ok (decide_eq_false (by decide +kernel)))
theorem q2_10 : eqA (.str ("title" : Str)) (.str ("both" : Str)) = .ok false := (kdE (i := 2) (j := 10) rfl rfl).trans (congrArg R.ok (decide_eq_false (by decide +kernel)))
theorem q2_11 : eqA (.str ("title" : Str)) (.str ("either" : Str)) = .ok false := (kdE (i := 2) (j := 11) rfl rfl).trans (congrArg R.ok (decide_eq_false (by decide +kernel)))
theorem q3_6 : eqA (.str ("from" : Str)) (.str ("day" : Str)) = .ok false := (kdE (i := 3) (j := 6) rfl rfl).trans (congrArg R.ok (decide_eq_false (by decide +kernel)))
theorem q3_8 : eqA (.str ("from" : Str)) (.str ("not" : Str)) = .ok false := (kdE (i := 3) (j := 8) rfl rfl).trans (congrArg R.ok (decide_eq_false (by decide +kernel)))
theorem q3_9 : eqA (.str ("from" : Str)) (.str ("thread" : Str)) = .ok false := (kdE (i := 3) (j := 9) rfl rfl).trans (congrArg R.ok (decide_eq_false (by decide +kernel)))
theorem q3_10 : eqA (.str ("from" : Str)) (.str ("both" : Str)) = .ok false := (kdE (i := 3) (j := 10) rfl rfl).trans (congrArg R.ok (decide_eq_false (by decide +kernel)))
theorem q3_11 : eqA (.str ("from" : Str)) (.str ("either" : Str)) = .ok false := (kdE (i := 3) (j := 11) rfl rfl).trans (congrArg R.ok (decide_eq_false (by decide +kernel)))
theorem q4_6 : eqA (.str ("in" : Str)) (.str ("day" : Str)) = .ok false := (kdE (i := 4) (j := 6) rfl rfl).trans (congrArg R.ok (decide_eq_false (by decide +kernel)))
theorem q4_8 : eqA (.str ("in" : Str)) (.str ("not" : Str)) = .ok false := (kdE (i := 4) (j := 8) rfl rfl).trans (congrArg R.ok (decide_eq_false (by decide +kernel)))
theorem q4_9 : eqA (.str ("in" : Str)) (.str ("thread" : Str)) = .ok false := (kdE (i := 4) (j := 9) rfl rfl).trans (congrArg R.ok (decide_eq_false (by decide +kernel)))
theorem q4_10 : eqA (.str ("in" : Str)) (.str ("both" : Str)) = .ok false := (kdE (i := 4) (j := 10) rfl rfl).trans (congrArg R.ok (decide_eq_false (by decide +kernel)))
theorem q4_11 : eqA (.str ("in" : Str)) (.str ("either" : Str)) = .ok false := (kdE (i := 4) (j := 11) rfl rfl).trans (congrArg R.ok (decide_eq_false (by decide +kernel)))
theorem q5_6 : eqA (.str ("marked" : Str)) (.str ("day" : Str)) = .ok false := (kdE (i := 5) (j := 6) rfl rfl).trans (congrArg R.ok (decide_eq_false (by decide +kernel)))
theorem q5_8 : eqA (.str ("marked" : Str)) (.str ("not" : Str)) = .ok false := (kdE (i := 5) (j := 8) rfl rfl).trans (congrArg R.ok (decide_eq_false (by decide +kernel)))
theorem q5_9 : eqA (.str ("marked" : Str)) (.str ("thread" : Str)) = .ok false := (kdE (i := 5) (j := 9) rfl rfl).trans (congrArg R.ok (decide_eq_false (by decide +kernel)))
theorem q5_10 : eqA (.str ("marked" : Str)) (.str ("both" : Str)) = .ok false := (kdE (i := 5) (j := 10) rfl rfl).trans (congrArg R.ok (decide_eq_false (by decide +kernel)))
theorem q5_11 : eqA (.str ("marked" : Str)) (.str ("either" : Str)) = .ok false := (kdE (i := 5) (j := 11) rfl rfl).trans (congrArg R.ok (decide_eq_false (by decide +kernel)))
theorem q6_6 : eqA (.str ("day" : Str)) (.str ("day" : Str)) = .ok true := (kdE (i := 6) (j := 6) rfl rfl).trans (by congr 1)
theorem q6_8 : eqA (.str ("day" : Str)) (.str ("not" : Str)) = .ok false := (kdE (i := 6) (j := 8) rfl rfl).trans (congrArg R.ok (decide_eq_false (by decide +kernel)))
theorem q6_9 : eqA (.str ("day" : Str)) (.str ("thread" : Str)) = .ok false := (kdE (i := 6) (j := 9) rfl rfl).trans (congrArg R.ok (decide_eq_false (by decide +kernel)))
theorem q6_10 : eqA (.str ("day" : Str)) (.str ("both" : Str)) = .ok false := (kdE (i := 6) (j := 10) rfl rfl).trans (congrArg R.ok (decide_eq_false (by decide +kernel)))
theorem q6_11 : eqA (.str ("day" : Str)) (.str ("either" : Str)) = .ok false := (kdE (i := 6) (j := 11) rfl rfl).trans (congrArg R.ok (decide_eq_false (by decide +kernel)))
theorem q7_6 : eqA (.str ("answers" : Str)) (.str ("day" : Str)) = .ok false := (kdE (i := 7) (j := 6) rfl rfl).trans (congrArg R.ok (decide_eq_false (by decide +kernel)))
theorem q7_8 : eqA (.str ("answers" : Str)) (.str ("not" : Str)) = .ok false := (kdE (i := 7) (j := 8) rfl rfl).trans (congrArg R.ok (decide_eq_false (by decide +kernel)))
theorem q7_9 : eqA (.str ("answers" : Str)) (.str ("thread" : Str)) = .ok false := (kdE (i := 7) (j := 9) rfl rfl).trans (congrArg R.ok (decide_eq_false (by decide +kernel)))
theorem q7_10 : eqA (.str ("answers" : Str)) (.str ("both" : Str)) = .ok false := (kdE (i := 7) (j := 10) rfl rfl).trans (congrArg R.ok (decide_eq_false (by decide +kernel)))
theorem q7_11 : eqA (.str ("answers" : Str)) (.str ("either" : Str)) = .ok false := (kdE (i := 7) (j := 11) rfl rfl).trans (congrArg R.ok (decide_eq_false (by decide +kernel)))
theorem q8_8 : eqA (.str ("not" : Str)) (.str ("not" : Str)) = .ok true := (kdE (i := 8) (j := 8) rfl rfl).trans (by congr 1)
theorem q9_8 : eqA (.str ("thread" : Str)) (.str ("not" : Str)) = .ok false := (kdE (i := 9) (j := 8) rfl rfl).trans (congrArg R.ok (decide_eq_false (by decide +kernel)))
theorem q9_9 : eqA (.str ("thread" : Str)) (.str ("thread" : Str)) = .ok true := (kdE (i := 9) (j := 9) rfl rfl).trans (by congr 1)
theorem q10_8 : eqA (.str ("both" : Str)) (.str ("not" : Str)) = .ok false := (kdE (i := 10) (j := 8) rfl rfl).trans (congrArg R.ok (decide_eq_false (by decide +kernel)))
theorem q10_9 : eqA (.str ("both" : Str)) (.str ("thread" : Str)) = .ok false := (kdE (i := 10) (j := 9) rfl rfl).trans (congrArg R.ok (decide_eq_false (by decide +kernel)))
theorem q10_10 : eqA (.str ("both" : Str)) (.str ("both" : Str)) = .ok true := (kdE (i := 10) (j := 10) rfl rfl).trans (by congr 1)
theorem q11_8 : eqA (.str ("either" : Str)) (.str ("not" : Str)) = .ok false := (kdE (i := 11) (j := 8) rfl rfl).trans (congrArg R.ok (decide_eq_false (by decide +kernel)))
theorem q11_9 : eqA (.str ("either" : Str)) (.str ("thread" : Str)) = .ok false := (kdE (i := 11) (j := 9) rfl rfl).trans (congrArg R.ok (decide_eq_false (by decide +kernel)))
theorem q11_10 : eqA (.str ("either" : Str)) (.str ("both" : Str)) = .ok false := (kdE (i := 11) (j := 10) rfl rfl).trans (congrArg R.ok (decide_eq_false (by decide +kernel)))
theorem q11_11 : eqA (.str ("either" : Str)) (.str ("either" : Str)) = .ok true := (kdE (i := 11) (j := 11) rfl rfl).trans (by congr 1)
theorem ofw1 (w : Str) : m_of_word ("word" : Str) w = .ok (.HasWord w) := by
  unfold m_of_word
  rw [if_pos (by decide +kernel)]
  rfl
theorem ofw2 (w : Str) : m_of_word ("title" : Str) w = .ok (.InTitle w) := by
  unfold m_of_word
  rw [if_neg (by decide +kernel)]
  rw [if_pos (by decide +kernel)]
  rfl
theorem ofw3 (w : Str) : m_of_word ("from" : Str) w = .ok (.FromSender w) := by
  unfold m_of_word
  rw [if_neg (by decide +kernel)]
  rw [if_neg (by decide +kernel)]
  rw [if_pos (by decide +kernel)]
  rfl
theorem ofw4 (w : Str) : m_of_word ("in" : Str) w = .ok (.InFolder w) := by
  unfold m_of_word
  rw [if_neg (by decide +kernel)]
  rw [if_neg (by decide +kernel)]
  rw [if_neg (by decide +kernel)]
  rw [if_pos (by decide +kernel)]
  rfl
theorem ofw5 (w : Str) : m_of_word ("marked" : Str) w = .ok (.IsMarked w) := by
  unfold m_of_word
  rw [if_neg (by decide +kernel)]
  rw [if_neg (by decide +kernel)]
  rw [if_neg (by decide +kernel)]
  rw [if_neg (by decide +kernel)]
  rw [if_pos (by decide +kernel)]
  rfl
theorem tree_tr : ∀ (n : Nat) (c : Cond), dep c ≤ n → m_Cond_tree n c = .ok (tr c)
  | 0, c, h => absurd (dep_pos c) (by omega)
  | n + 1, c, h => by
    cases c with
    | Anything => rfl
    | HasWord w => rfl
    | InTitle w => rfl
    | FromSender w => rfl
    | InFolder w => rfl
    | IsMarked w => rfl
    | OnDays a b => rfl
    | IsAnswer => rfl
    | NotSo c =>
      refine Ok.eq ?_
      exact .bindE (m := m_Cond_tree n c) (tree_tr n c (by simp only [dep] at h; omega)) (.ret rfl)
    | InThread c =>
      refine Ok.eq ?_
      exact .bindE (m := m_Cond_tree n c) (tree_tr n c (by simp only [dep] at h; omega)) (.ret rfl)
    | BothSo a b =>
      refine Ok.eq ?_
      exact .bindE (m := m_Cond_tree n a) (tree_tr n a (by simp only [dep] at h; omega)) (.bindE (m := m_Cond_tree n b) (tree_tr n b (by simp only [dep] at h; omega)) (.ret rfl))
    | EitherSo a b =>
      refine Ok.eq ?_
      exact .bindE (m := m_Cond_tree n a) (tree_tr n a (by simp only [dep] at h; omega)) (.bindE (m := m_Cond_tree n b) (tree_tr n b (by simp only [dep] at h; omega)) (.ret rfl))
theorem kd_lay {i : Nat} {k : Str} (hi : kd[i]? = some k) : (PyData.str k).canLay0 = true := (Asc.lit (List.all_eq_true.mp kd_asc k (List.mem_of_getElem? hi))).lay
theorem tr_lay : ∀ c : Cond, Gc c → plA (tr c) = true ∧ (pdA (tr c)).canLay0 = true ∧ (pdA (tr c)).depth ≤ dep c
  | .Anything, h => by
    have k := kd_lay (i := 0) rfl
    unfold tr
    rw [plA, pdA, plAL, plAL, pdAL, pdAL, pdA_str, plA_str]
    simp only [PyData.canLay0, PyData.canLayAll0, PyData.depth, PyData.depthAll, dep] at k ⊢
    refine ⟨rfl, ?_, by omega⟩
    rw [k]; rfl
  | .HasWord w, h => by
    have k := kd_lay (i := 1) rfl
    have hw : (PyData.str w).canLay0 = true := (isW_asc h).lay
    unfold tr
    rw [plA, pdA, plAL, plAL, plAL, pdAL, pdAL, pdAL, pdA_str, pdA_str, plA_str, plA_str]
    simp only [PyData.canLayAll0, PyData.depth, PyData.depthAll, dep, k, hw, PyData.canLay0] at k hw ⊢
    refine ⟨rfl, ?_, by omega⟩
    rw [k, hw]; rfl
  | .InTitle w, h => by
    have k := kd_lay (i := 2) rfl
    have hw : (PyData.str w).canLay0 = true := (isW_asc h).lay
    unfold tr
    rw [plA, pdA, plAL, plAL, plAL, pdAL, pdAL, pdAL, pdA_str, pdA_str, plA_str, plA_str]
    simp only [PyData.canLayAll0, PyData.depth, PyData.depthAll, dep, k, hw, PyData.canLay0] at k hw ⊢
    refine ⟨rfl, ?_, by omega⟩
    rw [k, hw]; rfl
  | .FromSender w, h => by
    have k := kd_lay (i := 3) rfl
    have hw : (PyData.str w).canLay0 = true := (isW_asc h).lay
    unfold tr
    rw [plA, pdA, plAL, plAL, plAL, pdAL, pdAL, pdAL, pdA_str, pdA_str, plA_str, plA_str]
    simp only [PyData.canLayAll0, PyData.depth, PyData.depthAll, dep, k, hw, PyData.canLay0] at k hw ⊢
    refine ⟨rfl, ?_, by omega⟩
    rw [k, hw]; rfl
  | .InFolder w, h => by
    have k := kd_lay (i := 4) rfl
    have hw : (PyData.str w).canLay0 = true := (isW_asc h).lay
    unfold tr
    rw [plA, pdA, plAL, plAL, plAL, pdAL, pdAL, pdAL, pdA_str, pdA_str, plA_str, plA_str]
    simp only [PyData.canLayAll0, PyData.depth, PyData.depthAll, dep, k, hw, PyData.canLay0] at k hw ⊢
    refine ⟨rfl, ?_, by omega⟩
    rw [k, hw]; rfl
  | .IsMarked w, h => by
    have k := kd_lay (i := 5) rfl
    have hw : (PyData.str w).canLay0 = true := (isW_asc h).lay
    unfold tr
    rw [plA, pdA, plAL, plAL, plAL, pdAL, pdAL, pdAL, pdA_str, pdA_str, plA_str, plA_str]
    simp only [PyData.canLayAll0, PyData.depth, PyData.depthAll, dep, k, hw, PyData.canLay0] at k hw ⊢
    refine ⟨rfl, ?_, by omega⟩
    rw [k, hw]; rfl
  | .OnDays a b, h => by
    have k := kd_lay (i := 6) rfl
    unfold tr
    rw [plA, pdA, plAL, plAL, plAL, plAL, pdAL, pdAL, pdAL, pdAL, pdA_str, pdA_int, pdA_int, plA_str, plA_int, plA_int]
    simp only [PyData.canLayAll0, PyData.depth, PyData.depthAll, dep, PyData.canLay0] at k ⊢
    refine ⟨rfl, ?_, by omega⟩
    rw [k]; rfl
  | .IsAnswer, h => by
    have k := kd_lay (i := 7) rfl
    unfold tr
    rw [plA, pdA, plAL, plAL, pdAL, pdAL, pdA_str, plA_str]
    simp only [PyData.canLay0, PyData.canLayAll0, PyData.depth, PyData.depthAll, dep] at k ⊢
    refine ⟨rfl, ?_, by omega⟩
    rw [k]; rfl
  | .NotSo c, h => by
    have k := kd_lay (i := 8) rfl
    obtain ⟨h1, h2, h3⟩ := tr_lay c h
    unfold tr
    rw [plA, pdA, plAL, plAL, plAL, pdAL, pdAL, pdAL, pdA_str, plA_str, h1]
    simp only [PyData.canLayAll0, PyData.depth, PyData.depthAll, dep, PyData.canLay0] at k ⊢
    refine ⟨rfl, ?_, by omega⟩
    rw [k, h2]; rfl
  | .InThread c, h => by
    have k := kd_lay (i := 9) rfl
    obtain ⟨h1, h2, h3⟩ := tr_lay c h
    unfold tr
    rw [plA, pdA, plAL, plAL, plAL, pdAL, pdAL, pdAL, pdA_str, plA_str, h1]
    simp only [PyData.canLayAll0, PyData.depth, PyData.depthAll, dep, PyData.canLay0] at k ⊢
    refine ⟨rfl, ?_, by omega⟩
    rw [k, h2]; rfl
  | .BothSo a b, h => by
    have k := kd_lay (i := 10) rfl
    obtain ⟨h1, h2, h3⟩ := tr_lay a h.1
    obtain ⟨g1, g2, g3⟩ := tr_lay b h.2
    unfold tr
    rw [plA, pdA, plAL, plAL, plAL, plAL, pdAL, pdAL, pdAL, pdAL, pdA_str, plA_str, h1, g1]
    simp only [PyData.canLayAll0, PyData.depth, PyData.depthAll, dep, PyData.canLay0] at k ⊢
    refine ⟨rfl, ?_, by omega⟩
    rw [k, h2, g2]; rfl
  | .EitherSo a b, h => by
    have k := kd_lay (i := 11) rfl
    obtain ⟨h1, h2, h3⟩ := tr_lay a h.1
    obtain ⟨g1, g2, g3⟩ := tr_lay b h.2
    unfold tr
    rw [plA, pdA, plAL, plAL, plAL, plAL, pdAL, pdAL, pdAL, pdAL, pdA_str, plA_str, h1, g1]
    simp only [PyData.canLayAll0, PyData.depth, PyData.depthAll, dep, PyData.canLay0] at k ⊢
    refine ⟨rfl, ?_, by omega⟩
    rw [k, h2, g2]; rfl
theorem tr_self {c : Cond} (h : Gc c) (d : dep c ≤ 64) : eqA (tr c) (tr c) = .ok true := by
  obtain ⟨h1, h2, h3⟩ := tr_lay c h
  have s : SeqAt.shaped (pdA (tr c)) = true := by
    unfold SeqAt.shaped
    rw [h2]
    simp; omega
  unfold eqA
  rw [R.need_pos ⟨h1, h1, s, s⟩, SeqAt.eqv_refl _ h2]
abbrev num (i : Int) : Str := Str.ofString (toString i)
theorem num_tl (n : Nat) : (num (n : Int)).cps.toList = TL.numL n := tl_num n
theorem num_facts {i : Int} (h0 : 0 ≤ i) (h1 : i ≤ 9999) : (∀ c, c ∈ (num i).cps.toList → 48 ≤ c ∧ c ≤ 57) ∧ 1 ≤ (num i).length ∧ (num i).length ≤ 4 ∧ intR (num i) = .ok i := by
  obtain ⟨n, rfl⟩ : ∃ n : Nat, i = (n : Int) := ⟨i.toNat, by omega⟩
  have hd := TL.numL_digits n
  have hl : (TL.numL n).length ≤ 4 := TL.numL_len (n := n) (k := 4) (by decide) (by omega)
  have hn := TL.numL_ne n
  have h1 : 1 ≤ (TL.numL n).length := by
    cases e : TL.numL n with
    | nil => exact absurd e hn
    | cons a l => simp
  refine ⟨fun c hc => hd c (by rw [num_tl] at hc; exact hc), by rw [len_tl, num_tl]; exact h1, by rw [len_tl, num_tl]; exact hl, ?_⟩
  unfold intR
  have := intText_digits (x := num (n : Int)) (fun c hc => hd c (by rw [num_tl] at hc; exact hc)) (by rw [num_tl]; exact hn) (by rw [len_tl, num_tl]; omega)
  rw [this, num_tl, TL.numL_val]
  exact R.need_pos (by rw [len_tl, num_tl]; omega) _
theorem num_log {i : Int} (h0 : 0 ≤ i) (h1 : i ≤ 9999) : i.natAbs.log2 < 1920 := log2_small (by omega) (by omega)
def Gd : Cond → Prop
  | .OnDays a b => (0 ≤ a ∧ a ≤ 9999) ∧ 0 ≤ b ∧ b ≤ 9999
  | .NotSo c => Gd c
  | .InThread c => Gd c
  | .BothSo a b => Gd a ∧ Gd b
  | .EitherSo a b => Gd a ∧ Gd b
  | _ => True
def thr : Cond → Nat
  | .NotSo c => thr c
  | .InThread c => thr c + 1
  | .BothSo a b => max (thr a) (thr b)
  | .EitherSo a b => max (thr a) (thr b)
  | _ => 0
def sz : Cond → Nat
  | .NotSo c => sz c + 1
  | .InThread c => sz c + 1
  | .BothSo a b => sz a + sz b + 1
  | .EitherSo a b => sz a + sz b + 1
  | _ => 1
theorem tr_is (c : Cond) : (tr c).is "tuple" = true := by cases c <;> rfl
theorem idx0 {α : Type} {x : α} {r : List α} : idxR (x :: r) 0 = .ok x := by
  obtain ⟨y, h1, _, h2⟩ := idxR_mem (xs := x :: r) (i := 0) (by decide) (by rw [List.length_cons]; omega)
  rw [h1]
  exact congrArg R.ok (Option.some.inj h2).symm
theorem cut1 {α : Type} {x : α} {r : List α} : cutL (x :: r) (some 1) none = r := by rw [cutL_from (by decide)]; rfl
theorem cut1n {α : Type} {x : α} {r : List α} : ¬ (HT.sIx (x :: r).length 0 (some (1)) = 0 ∧ HT.sIx (x :: r).length (x :: r).length none = (x :: r).length) := fun z => by
  have z := z.1
  rw [sIx_nn (by decide), List.length_cons] at z
  have : min (1 : Int).toNat (r.length + 1) = 1 := by show min 1 _ = 1; omega
  omega
/-- the greatest of what comes of the parts -/
def lpB (f : Any → R Int) : Int → Any → R Int := fun s x => (if (x.is "tuple") = true then ((f x).bind fun r14 => (R.ok (if r14 > s then r14 else s : Int)).bind fun y15 => R.ok (y15)) else (R.ok (s))).bind fun (s13 : Int) => R.ok (s13)
theorem lp0 (f : Any → R Int) : forR (lpB f) [] 0 = .ok 0 := rfl
theorem lp1s (f : Any → R Int) (w : Str) : forR (lpB f) [.str w] 0 = .ok 0 := rfl
theorem lp2i (f : Any → R Int) (a b : Int) : forR (lpB f) [.int a, .int b] 0 = .ok 0 := rfl
theorem lpB_tr {f : Any → R Int} {c : Cond} {v : Nat} {s : Nat} (h : f (tr c) = .ok (v : Int)) : lpB f (s : Int) (tr c) = .ok ((max s v : Nat) : Int) := by
  unfold lpB
  rw [tr_is, if_pos rfl, h]
  show R.ok (if (v : Int) > (s : Int) then (v : Int) else (s : Int)) = _
  congr 1
  split <;> omega
theorem lp1 {f : Any → R Int} {c : Cond} {v : Nat} (h : f (tr c) = .ok (v : Int)) : forR (lpB f) [tr c] 0 = .ok (v : Int) := by
  show (lpB f ((0 : Nat) : Int) (tr c)).bind _ = _
  rw [lpB_tr h]
  exact congrArg R.ok (by omega)
theorem lp2 {f : Any → R Int} {a b : Cond} {v w : Nat} (ha : f (tr a) = .ok (v : Int)) (hb : f (tr b) = .ok (w : Int)) : forR (lpB f) [tr a, tr b] 0 = .ok ((max v w : Nat) : Int) := by
  show (lpB f ((0 : Nat) : Int) (tr a)).bind _ = _
  rw [lpB_tr ha]
  show (lpB f ((max 0 v : Nat) : Int) (tr b)).bind _ = _
  rw [lpB_tr hb]
  exact congrArg R.ok (by omega)
theorem thr_b {f : Any → R Int} {i : Nat} {k : Str} {r : List Any} {v : Int} (hk : kd[i]? = some k) (h : forR (lpB f) r 0 = .ok v) : m_law_threads_b f (.tup (.str k :: r)) = .ok (v + (if decide (k = ("thread" : Str)) = true then 1 else 0)) := by
  refine Ok.eq ?_
  unfold m_law_threads_b
  refine .bindE (a := .str k :: r) rfl (.need cut1n ?_)
  rw [cut1]
  exact .bindE h (.bindE (a := .str k :: r) rfl (.bindE idx0 (.bindE (kdE (j := 9) hk rfl) (.ret rfl))))
def cpB (f : Any → R Int) : Unit → Any → R (Unit × Option Int) := fun _ x7 => if (x7.is "tuple") = true then ((f x7).bind fun r12 => R.ok ((), some (r12))) else R.ok ((), none)
theorem cp_str (f : Any → R Int) (k : Str) (r : List Any) {ys : List Int} (h : compR (cpB f) r () = .ok ((), ys)) : compR (cpB f) (.str k :: r) () = .ok ((), ys) := by
  show (cpB f () (.str k)).bind _ = _
  show (compR (cpB f) r ()).bind _ = _
  rw [h]; rfl
theorem cp_int (f : Any → R Int) (k : Int) (r : List Any) {ys : List Int} (h : compR (cpB f) r () = .ok ((), ys)) : compR (cpB f) (.int k :: r) () = .ok ((), ys) := by
  show (compR (cpB f) r ()).bind _ = _
  rw [h]; rfl
theorem cp_tr {f : Any → R Int} {c : Cond} {v : Int} (r : List Any) {ys : List Int} (hv : f (tr c) = .ok v) (h : compR (cpB f) r () = .ok ((), ys)) : compR (cpB f) (tr c :: r) () = .ok ((), v :: ys) := by
  show (cpB f () (tr c)).bind _ = _
  have e : cpB f () (tr c) = .ok ((), some v) := by
    unfold cpB
    rw [tr_is, if_pos rfl, hv]; rfl
  rw [e]
  show (compR (cpB f) r ()).bind _ = _
  rw [h]; rfl
theorem cp_nil (f : Any → R Int) : compR (cpB f) [] () = .ok ((), []) := rfl
theorem deep_b {f : Any → R Int} {xs : List Any} {ys : List Int} (hl : xs.length ≤ 3) (h : compR (cpB f) xs () = .ok ((), ys)) : m_deep_b f (.tup xs) = .ok (1 + maxDef ys 0) := by
  refine Ok.eq ?_
  unfold m_deep_b
  exact .bindE (a := xs) rfl (.need (le_line (by omega)) (.bindE h (.ret rfl)))
theorem tdeep_b {f : Any → R Int} {i : Nat} {k : Str} {r : List Any} {ys : List Int} (hk : kd[i]? = some k) (hl : r.length ≤ 2) (h : compR (cpB f) (.str k :: r) () = .ok ((), ys)) : m_threads_deep_b f (.tup (.str k :: r)) = .ok (maxDef ys 0 + (if decide (k = ("thread" : Str)) = true then 1 else 0)) := by
  refine Ok.eq ?_
  unfold m_threads_deep_b
  exact .bindE (a := .str k :: r) rfl (.need (le_line (by rw [List.length_cons]; omega)) (.bindE h (.lets (.bindE (a := .str k :: r) rfl (.bindE idx0 (.bindE (kdE (j := 9) hk rfl) (.ret rfl)))))))
theorem md1 (v : Nat) : maxDef [(v : Int)] 0 = v := rfl
theorem md2 (v w : Nat) : maxDef [(v : Int), (w : Int)] 0 = ((max v w : Nat) : Int) := by
  show max (v : Int) (w : Int) = _
  omega
theorem threads_eq : ∀ (n : Nat) (c : Cond), dep c ≤ n → m_law_threads n (tr c) = .ok ((thr c : Nat) : Int)
  | 0, c, h => absurd (dep_pos c) (by omega)
  | n + 1, c, h => by
    show m_law_threads_b (m_law_threads n) (tr c) = _
    cases c with
    | Anything =>
      refine (thr_b (i := 0) rfl (lp0 _)).trans (congrArg R.ok ?_)
      rw [if_neg (by decide +kernel)]
      first | rfl | (simp only [thr]; omega)
    | HasWord w =>
      refine (thr_b (i := 1) rfl (lp1s _ _)).trans (congrArg R.ok ?_)
      rw [if_neg (by decide +kernel)]
      first | rfl | (simp only [thr]; omega)
    | InTitle w =>
      refine (thr_b (i := 2) rfl (lp1s _ _)).trans (congrArg R.ok ?_)
      rw [if_neg (by decide +kernel)]
      first | rfl | (simp only [thr]; omega)
    | FromSender w =>
      refine (thr_b (i := 3) rfl (lp1s _ _)).trans (congrArg R.ok ?_)
      rw [if_neg (by decide +kernel)]
      first | rfl | (simp only [thr]; omega)
    | InFolder w =>
      refine (thr_b (i := 4) rfl (lp1s _ _)).trans (congrArg R.ok ?_)
      rw [if_neg (by decide +kernel)]
      first | rfl | (simp only [thr]; omega)
    | IsMarked w =>
      refine (thr_b (i := 5) rfl (lp1s _ _)).trans (congrArg R.ok ?_)
      rw [if_neg (by decide +kernel)]
      first | rfl | (simp only [thr]; omega)
    | OnDays a b =>
      refine (thr_b (i := 6) rfl (lp2i _ _ _)).trans (congrArg R.ok ?_)
      rw [if_neg (by decide +kernel)]
      first | rfl | (simp only [thr]; omega)
    | IsAnswer =>
      refine (thr_b (i := 7) rfl (lp0 _)).trans (congrArg R.ok ?_)
      rw [if_neg (by decide +kernel)]
      first | rfl | (simp only [thr]; omega)
    | NotSo c =>
      refine (thr_b (i := 8) rfl (lp1 (threads_eq n c (by simp only [dep] at h; omega)))).trans (congrArg R.ok ?_)
      rw [if_neg (by decide +kernel)]
      first | rfl | (simp only [thr]; omega)
    | InThread c =>
      refine (thr_b (i := 9) rfl (lp1 (threads_eq n c (by simp only [dep] at h; omega)))).trans (congrArg R.ok ?_)
      rw [if_pos (by decide +kernel)]
      first | rfl | (simp only [thr]; omega)
    | BothSo a b =>
      refine (thr_b (i := 10) rfl (lp2 (threads_eq n a (by simp only [dep] at h; omega)) (threads_eq n b (by simp only [dep] at h; omega)))).trans (congrArg R.ok ?_)
      rw [if_neg (by decide +kernel)]
      first | rfl | (simp only [thr]; omega)
    | EitherSo a b =>
      refine (thr_b (i := 11) rfl (lp2 (threads_eq n a (by simp only [dep] at h; omega)) (threads_eq n b (by simp only [dep] at h; omega)))).trans (congrArg R.ok ?_)
      rw [if_neg (by decide +kernel)]
      first | rfl | (simp only [thr]; omega)
theorem deep_eq : ∀ (n : Nat) (c : Cond), dep c ≤ n → m_deep n (tr c) = .ok ((dep c : Nat) : Int)
  | 0, c, h => absurd (dep_pos c) (by omega)
  | n + 1, c, h => by
    show m_deep_b (m_deep n) (tr c) = _
    cases c with
    | Anything =>
      refine (deep_b (by show 1 ≤ 3; decide) (cp_str _ _ _ (cp_nil _))).trans (congrArg R.ok ?_)
      simp only [maxDef]
      first | rfl | (simp only [dep]; omega)
    | HasWord w =>
      refine (deep_b (by show 2 ≤ 3; decide) (cp_str _ _ _ (cp_str _ _ _ (cp_nil _)))).trans (congrArg R.ok ?_)
      simp only [maxDef]
      first | rfl | (simp only [dep]; omega)
    | InTitle w =>
      refine (deep_b (by show 2 ≤ 3; decide) (cp_str _ _ _ (cp_str _ _ _ (cp_nil _)))).trans (congrArg R.ok ?_)
      simp only [maxDef]
      first | rfl | (simp only [dep]; omega)
    | FromSender w =>
      refine (deep_b (by show 2 ≤ 3; decide) (cp_str _ _ _ (cp_str _ _ _ (cp_nil _)))).trans (congrArg R.ok ?_)
      simp only [maxDef]
      first | rfl | (simp only [dep]; omega)
    | InFolder w =>
      refine (deep_b (by show 2 ≤ 3; decide) (cp_str _ _ _ (cp_str _ _ _ (cp_nil _)))).trans (congrArg R.ok ?_)
      simp only [maxDef]
      first | rfl | (simp only [dep]; omega)
    | IsMarked w =>
      refine (deep_b (by show 2 ≤ 3; decide) (cp_str _ _ _ (cp_str _ _ _ (cp_nil _)))).trans (congrArg R.ok ?_)
      simp only [maxDef]
      first | rfl | (simp only [dep]; omega)
    | OnDays a b =>
      refine (deep_b (by show 3 ≤ 3; decide) (cp_str _ _ _ (cp_int _ _ _ (cp_int _ _ _ (cp_nil _))))).trans (congrArg R.ok ?_)
      simp only [maxDef]
      first | rfl | (simp only [dep]; omega)
    | IsAnswer =>
      refine (deep_b (by show 1 ≤ 3; decide) (cp_str _ _ _ (cp_nil _))).trans (congrArg R.ok ?_)
      simp only [maxDef]
      first | rfl | (simp only [dep]; omega)
    | NotSo c =>
      refine (deep_b (by show 2 ≤ 3; decide) (cp_str _ _ _ (cp_tr _ (deep_eq n c (by simp only [dep] at h; omega)) (cp_nil _)))).trans (congrArg R.ok ?_)
      rw [md1]; first | rfl | (simp only [dep]; omega)
    | InThread c =>
      refine (deep_b (by show 2 ≤ 3; decide) (cp_str _ _ _ (cp_tr _ (deep_eq n c (by simp only [dep] at h; omega)) (cp_nil _)))).trans (congrArg R.ok ?_)
      rw [md1]; first | rfl | (simp only [dep]; omega)
    | BothSo a b =>
      refine (deep_b (by show 3 ≤ 3; decide) (cp_str _ _ _ (cp_tr _ (deep_eq n a (by simp only [dep] at h; omega)) (cp_tr _ (deep_eq n b (by simp only [dep] at h; omega)) (cp_nil _))))).trans (congrArg R.ok ?_)
      rw [md2]; first | rfl | (simp only [dep]; omega)
    | EitherSo a b =>
      refine (deep_b (by show 3 ≤ 3; decide) (cp_str _ _ _ (cp_tr _ (deep_eq n a (by simp only [dep] at h; omega)) (cp_tr _ (deep_eq n b (by simp only [dep] at h; omega)) (cp_nil _))))).trans (congrArg R.ok ?_)
      rw [md2]; first | rfl | (simp only [dep]; omega)
theorem tdeep_eq : ∀ (n : Nat) (c : Cond), dep c ≤ n → m_threads_deep n (tr c) = .ok ((thr c : Nat) : Int)
  | 0, c, h => absurd (dep_pos c) (by omega)
  | n + 1, c, h => by
    show m_threads_deep_b (m_threads_deep n) (tr c) = _
    cases c with
    | Anything =>
      refine (tdeep_b (i := 0) rfl (by show 0 ≤ 2; decide) (cp_str _ _ _ (cp_nil _))).trans (congrArg R.ok ?_)
      simp only [maxDef]
      rw [if_neg (by decide +kernel)]
      first | rfl | (simp only [thr]; omega)
    | HasWord w =>
      refine (tdeep_b (i := 1) rfl (by show 1 ≤ 2; decide) (cp_str _ _ _ (cp_str _ _ _ (cp_nil _)))).trans (congrArg R.ok ?_)
      simp only [maxDef]
      rw [if_neg (by decide +kernel)]
      first | rfl | (simp only [thr]; omega)
    | InTitle w =>
      refine (tdeep_b (i := 2) rfl (by show 1 ≤ 2; decide) (cp_str _ _ _ (cp_str _ _ _ (cp_nil _)))).trans (congrArg R.ok ?_)
      simp only [maxDef]
      rw [if_neg (by decide +kernel)]
      first | rfl | (simp only [thr]; omega)
    | FromSender w =>
      refine (tdeep_b (i := 3) rfl (by show 1 ≤ 2; decide) (cp_str _ _ _ (cp_str _ _ _ (cp_nil _)))).trans (congrArg R.ok ?_)
      simp only [maxDef]
      rw [if_neg (by decide +kernel)]
      first | rfl | (simp only [thr]; omega)
    | InFolder w =>
      refine (tdeep_b (i := 4) rfl (by show 1 ≤ 2; decide) (cp_str _ _ _ (cp_str _ _ _ (cp_nil _)))).trans (congrArg R.ok ?_)
      simp only [maxDef]
      rw [if_neg (by decide +kernel)]
      first | rfl | (simp only [thr]; omega)
    | IsMarked w =>
      refine (tdeep_b (i := 5) rfl (by show 1 ≤ 2; decide) (cp_str _ _ _ (cp_str _ _ _ (cp_nil _)))).trans (congrArg R.ok ?_)
      simp only [maxDef]
      rw [if_neg (by decide +kernel)]
      first | rfl | (simp only [thr]; omega)
    | OnDays a b =>
      refine (tdeep_b (i := 6) rfl (by show 2 ≤ 2; decide) (cp_str _ _ _ (cp_int _ _ _ (cp_int _ _ _ (cp_nil _))))).trans (congrArg R.ok ?_)
      simp only [maxDef]
      rw [if_neg (by decide +kernel)]
      first | rfl | (simp only [thr]; omega)
    | IsAnswer =>
      refine (tdeep_b (i := 7) rfl (by show 0 ≤ 2; decide) (cp_str _ _ _ (cp_nil _))).trans (congrArg R.ok ?_)
      simp only [maxDef]
      rw [if_neg (by decide +kernel)]
      first | rfl | (simp only [thr]; omega)
    | NotSo c =>
      refine (tdeep_b (i := 8) rfl (by show 1 ≤ 2; decide) (cp_str _ _ _ (cp_tr _ (tdeep_eq n c (by simp only [dep] at h; omega)) (cp_nil _)))).trans (congrArg R.ok ?_)
      rw [md1]; rw [if_neg (by decide +kernel)]
      first | rfl | (simp only [thr]; omega)
    | InThread c =>
      refine (tdeep_b (i := 9) rfl (by show 1 ≤ 2; decide) (cp_str _ _ _ (cp_tr _ (tdeep_eq n c (by simp only [dep] at h; omega)) (cp_nil _)))).trans (congrArg R.ok ?_)
      rw [md1]; rw [if_pos (by decide +kernel)]
      first | rfl | (simp only [thr]; omega)
    | BothSo a b =>
      refine (tdeep_b (i := 10) rfl (by show 2 ≤ 2; decide) (cp_str _ _ _ (cp_tr _ (tdeep_eq n a (by simp only [dep] at h; omega)) (cp_tr _ (tdeep_eq n b (by simp only [dep] at h; omega)) (cp_nil _))))).trans (congrArg R.ok ?_)
      rw [md2]; rw [if_neg (by decide +kernel)]
      first | rfl | (simp only [thr]; omega)
    | EitherSo a b =>
      refine (tdeep_b (i := 11) rfl (by show 2 ≤ 2; decide) (cp_str _ _ _ (cp_tr _ (tdeep_eq n a (by simp only [dep] at h; omega)) (cp_tr _ (tdeep_eq n b (by simp only [dep] at h; omega)) (cp_nil _))))).trans (congrArg R.ok ?_)
      rw [md2]; rw [if_neg (by decide +kernel)]
      first | rfl | (simp only [thr]; omega)
def spc (c : Nat) : Bool := decide (c ∈ ((" ()," : Str)).cps.toList)
def flu (s : List Str × Str) : List Str := if s.2 = ("" : Str) then s.1 else s.1 ++ [s.2]
def stepT (s : List Str × Str) (c : Nat) : List Str × Str := if spc c = true then (if c = 32 then flu s else flu s ++ [sg c], ("" : Str)) else (s.1, s.2 ++ sg c)
theorem forR_run {σ α : Type} {f : σ → α → R σ} {g : σ → α → σ} {xs : List α} {s : σ} (h : ∀ p x q, xs = p ++ x :: q → f (p.foldl g s) x = .ok (g (p.foldl g s) x)) : forR f xs s = .ok (xs.foldl g s) := by
  obtain ⟨a, e, q⟩ := forR_inv (f := f) (xs := xs) (s := s) (fun p t => t = p.foldl g s) rfl fun p x q t e ht => by
    subst ht
    exact ⟨_, h p x q e, by rw [List.foldl_append]; rfl⟩
  rw [e, q]
theorem stepT_sp {s : List Str × Str} {c : Nat} (h : spc c = true) : stepT s c = (if c = 32 then flu s else flu s ++ [sg c], ("" : Str)) := if_pos h
theorem sg_sp {c : Nat} : (sg c = (" " : Str)) = (c = 32) := propext ⟨fun h => by
  have := congrArg (fun s : Str => s.cps.toList) h
  have e : (" " : Str).cps.toList = [32] := by decide
  change [c] = _ at this
  rw [e] at this
  exact (List.cons.inj this).1, fun h => by subst h; decide +kernel⟩
theorem stepT_len (p : List Nat) (s : List Str × Str) : (p.foldl stepT s).1.length ≤ s.1.length + 2 * p.length ∧ (p.foldl stepT s).2.length ≤ s.2.length + p.length := by
  induction p generalizing s with
  | nil => exact ⟨by simp, by simp⟩
  | cons c r ih =>
    have h := ih (stepT s c)
    have g : (stepT s c).1.length ≤ s.1.length + 2 ∧ (stepT s c).2.length ≤ s.2.length + 1 := by
      have fl : (flu s).length ≤ s.1.length + 1 := by unfold flu; split <;> simp
      unfold stepT
      split
      · have e0 : ("" : Str).length = 0 := by decide
        dsimp only
        split
        · exact ⟨by omega, by rw [e0]; omega⟩
        · exact ⟨by rw [List.length_append, List.length_singleton]; omega, by rw [e0]; omega⟩
      · dsimp only
        rw [len_app, len_sg]
        exact ⟨by omega, by omega⟩
    rw [List.foldl_cons, List.length_cons]
    exact ⟨by omega, by omega⟩
theorem tokens_eq {t : Str} (hl : t.length ≤ 100000) : m_tokens_of t = .ok (flu (t.cps.toList.foldl stepT ([], ("" : Str)))) := by
  unfold m_tokens_of
  refine Ok.eq ?_
  have ln : t.cps.toList.length ≤ 100000 := by rw [← len_tl]; exact hl
  generalize t.cps.toList = cs at *
  refine .bindE (forR_run (xs := cs) (s := (([] : List Str), ("" : Str))) (g := stepT) fun p c q e => ?_) ?_
  · have hp := pre_lt e
    have hi := stepT_len p ([], ("" : Str))
    have e0 : ("" : Str).length = 0 := by decide
    rw [e0] at hi
    simp only [List.length_nil, Nat.zero_add] at hi
    generalize p.foldl stepT ([], ("" : Str)) = s at *
    change (if spc c = true then _ else _ : R (List Str × Str)).bind _ = _
    unfold stepT
    by_cases d : spc c = true
    · rw [if_pos d, if_pos d]
      refine Ok.eq ?_
      refine .bind (Q := fun z => z = ((if c = 32 then flu s else flu s ++ [sg c]), ("" : Str))) ?_ fun z hz => .ret (by rw [hz])
      refine .bind (Q := fun z => z = flu s) (.ite (fun z => ?_) fun z => ?_) fun f hf => ?_
      · have z : s.2 ≠ ("" : Str) := by simpa using z
        exact .need (lt_line (m := 300000) (by omega) (by decide)) (.ret (by unfold flu; rw [if_neg z]))
      · have z : s.2 = ("" : Str) := by simpa using z
        exact .ret (by unfold flu; rw [if_pos z])
      · subst hf
        have fl : (flu s).length ≤ s.1.length + 1 := by unfold flu; split <;> simp
        refine .bind (Q := fun z => z = (if c = 32 then flu s else flu s ++ [sg c])) (.ite (fun z => ?_) fun z => ?_) fun w hw => .ret (by rw [hw])
        · have z : ¬ c = 32 := by rw [← sg_sp]; simpa using z
          exact .need (lt_line (m := 300000) (by omega) (by decide)) (.ret (by rw [if_neg z]))
        · have z : c = 32 := by rw [← sg_sp]; simpa using z
          exact .ret (by rw [if_pos z])
    · rw [if_neg d, if_neg d, R.need_pos (le_line (by rw [len_sg]; omega))]; rfl
  · have hi := stepT_len cs ([], ("" : Str))
    have e0 : ("" : Str).length = 0 := by decide
    rw [e0] at hi
    simp only [List.length_nil, Nat.zero_add] at hi
    generalize cs.foldl stepT ([], ("" : Str)) = s at *
    refine .bind (Q := fun z => z = flu s) (.ite (fun z => ?_) fun z => ?_) fun f hf => .ret hf
    · have z : s.2 ≠ ("" : Str) := by simpa using z
      exact .need (lt_line (m := 300000) (by omega) (by decide)) (.ret (by unfold flu; rw [if_neg z]))
    · have z : s.2 = ("" : Str) := by simpa using z
      exact .ret (by unfold flu; rw [if_pos z])
/-- the parts of l are ts, wherever it stands -/
def Tk (l : List Nat) (ts : List Str) : Prop := ∀ f : List Str, flu (l.foldl stepT (f, ("" : Str))) = f ++ ts
theorem flu_nil (f : List Str) : flu (f, ("" : Str)) = f := by unfold flu; rw [if_pos rfl]
theorem plain_run (l : List Nat) (h : ∀ c, c ∈ l → spc c = false) : ∀ (f : List Str) (r : Str), l.foldl stepT (f, r) = (f, r ++ (⟨l.toArray⟩ : Str)) := by
  induction l with
  | nil => intro f r; exact Prod.ext rfl (str_ext (by rw [tl_app]; simp))
  | cons c l ih =>
    intro f r
    rw [List.foldl_cons]
    have e : stepT (f, r) c = (f, r ++ sg c) := by
      unfold stepT
      rw [if_neg (by rw [h c (by simp)]; exact Bool.false_ne_true)]
    rw [e, ih (fun d hd => h d (by simp [hd]))]
    refine Prod.ext rfl (str_ext ?_)
    dsimp only
    rw [tl_app, tl_app, tl_app]
    show (r.cps.toList ++ [c]) ++ l = r.cps.toList ++ (c :: l)
    simp
theorem Tk.word {w : Str} (h : ∀ c, c ∈ w.cps.toList → spc c = false) (hn : w ≠ ("" : Str)) : Tk w.cps.toList [w] := fun f => by
  rw [plain_run _ h]
  have e : (("" : Str) ++ (⟨w.cps.toList.toArray⟩ : Str)) = w := str_ext (by rw [tl_app]; rfl)
  rw [e]
  unfold flu
  rw [if_neg hn]
theorem Tk.sp {a b : List Nat} {x y : List Str} (ha : Tk a x) (hb : Tk b y) : Tk (a ++ 32 :: b) (x ++ y) := fun f => by
  rw [List.foldl_append, List.foldl_cons]
  have e : stepT (a.foldl stepT (f, ("" : Str))) 32 = (f ++ x, ("" : Str)) := by
    rw [stepT_sp (by decide +kernel), if_pos rfl, ha f]
  rw [e, hb, List.append_assoc]
theorem Tk.op {a : List Nat} {x : List Str} (ha : Tk a x) : Tk (40 :: a) (("(" : Str) :: x) := fun f => by
  rw [List.foldl_cons]
  have e : stepT (f, ("" : Str)) 40 = (f ++ [("(" : Str)], ("" : Str)) := by
    rw [stepT_sp (by decide +kernel), if_neg (by decide), flu_nil]
    exact Prod.ext (congrArg (fun z => f ++ [z]) (by decide +kernel)) rfl
  rw [e, ha, List.append_assoc]; rfl
theorem Tk.cl {a : List Nat} {x : List Str} (ha : Tk a x) : Tk (a ++ [41]) (x ++ [(")" : Str)]) := fun f => by
  rw [List.foldl_append]
  show flu (stepT (a.foldl stepT (f, ("" : Str))) 41) = _
  have e : stepT (a.foldl stepT (f, ("" : Str))) 41 = ((f ++ x) ++ [(")" : Str)], ("" : Str)) := by
    rw [stepT_sp (by decide +kernel), if_neg (by decide), ha f]
    exact Prod.ext (congrArg (fun z => (f ++ x) ++ [z]) (by decide +kernel)) rfl
  rw [e, flu_nil, List.append_assoc]
theorem Tk.all {t : Str} {ts : List Str} (h : Tk t.cps.toList ts) (hl : t.length ≤ 100000) : m_tokens_of t = .ok ts := by
  rw [tokens_eq hl, h []]; rfl
theorem wsg_spc {c : Nat} (h : wsg c = true) : spc c = false := by
  have e : ((" ()," : Str)).cps.toList = [32, 40, 41, 44] := by decide +kernel
  unfold spc
  rw [e]
  unfold wsg at h
  simp at h ⊢
  omega
theorem Tk.isW {w : Str} (h : isWord w = true) : Tk w.cps.toList [w] := .word (fun c hc => wsg_spc ((isWord_iff.mp h).1 c hc)) fun e => by
  have := (isWord_iff.mp h).2.1
  rw [e] at this
  have e0 : ("" : Str).length = 0 := by decide
  omega
theorem Tk.num {i : Int} (h0 : 0 ≤ i) (h1 : i ≤ 9999) : Tk (num i).cps.toList [num i] := by
  have h := num_facts h0 h1
  refine .word (fun c hc => wsg_spc ?_) fun e => ?_
  · have := h.1 c hc
    unfold wsg
    simp; omega
  · have := h.2.1
    rw [e] at this
    have e0 : ("" : Str).length = 0 := by decide
    omega
theorem Tk.lit {w : Str} (h : (w.cps.toList.all fun c => !spc c) = true) (hn : w ≠ ("" : Str)) : Tk w.cps.toList [w] := .word (fun c hc => by simpa using List.all_eq_true.mp h c hc) hn
def toks : Cond → List Str
  | .Anything => [("any" : Str)]
  | .HasWord w => [("word" : Str), w]
  | .InTitle w => [("title" : Str), w]
  | .FromSender w => [("from" : Str), w]
  | .InFolder w => [("in" : Str), w]
  | .IsMarked w => [("marked" : Str), w]
  | .OnDays a b => [("day" : Str), num a, ("to" : Str), num b]
  | .IsAnswer => [("answers" : Str)]
  | .NotSo c => ("not" : Str) :: toks c
  | .InThread c => ("thread" : Str) :: toks c
  | .BothSo a b => ("(" : Str) :: (toks a ++ ("and" : Str) :: (toks b ++ [(")" : Str)]))
  | .EitherSo a b => ("(" : Str) :: (toks a ++ ("or" : Str) :: (toks b ++ [(")" : Str)]))
theorem sp_tl : (" " : Str).cps.toList = [32] := by decide
/-- so many brackets about -/
def wrap (m : Nat) (ts : List Str) : List Str := match m with
  | 0 => ts
  | m + 1 => ("(" : Str) :: (wrap m ts ++ [(")" : Str)])
theorem Tk.wrap {l : List Nat} {ts : List Str} (h : Tk l ts) : ∀ m : Nat, Tk ((List.replicate m 40 ++ l) ++ List.replicate m 41) (wrap m ts)
  | 0 => by simpa [Lw.wrap] using h
  | m + 1 => by
    have t := (h.wrap m).cl.op
    have e : (List.replicate (m + 1) 40 ++ l) ++ List.replicate (m + 1) 41 = 40 :: (((List.replicate m 40 ++ l) ++ List.replicate m 41) ++ [41]) := by
      rw [List.replicate_succ, List.replicate_succ' (a := 41)]
      simp
    rw [e]
    exact t
theorem rep_one (c : Nat) (s : Str) (h : s.cps.toList = [c]) (m : Nat) : (repS s m).cps.toList = List.replicate m c := by
  rw [rep_tl, h]
  induction m with
  | zero => rfl
  | succ m ih => rw [List.replicate_succ, List.flatten_cons, ih]; rfl
theorem tok_at {L : List Str} {p : Nat} {x : Str} {r : List Str} (h : L.drop p = x :: r) : m_token_at L (p : Int) = .ok x ∧ idxR L (p : Int) = .ok x ∧ L.drop (p + 1) = r := by
  have hp : p < L.length := by
    by_cases q : p < L.length
    · exact q
    · rw [List.drop_of_length_le (by omega)] at h; cases h
  have e : L[p]? = some x := by
    have : (L.drop p)[0]? = L[p]? := by rw [List.getElem?_drop]; rfl
    rw [← this, h]; rfl
  have ei : idxR L (p : Int) = .ok x := by
    obtain ⟨y, h1, _, h2⟩ := idxR_mem (xs := L) (i := (p : Int)) (by omega) (by omega)
    rw [Int.toNat_natCast, e] at h2
    rw [h1, Option.some.inj h2]
  refine ⟨?_, ei, ?_⟩
  · unfold m_token_at
    rw [if_pos (by simp; omega), ei]; rfl
  · have e2 : L.drop (p + 1) = (L.drop p).drop 1 := by rw [List.drop_drop]
    rw [e2, h]; rfl
theorem tok_end {L : List Str} {p : Nat} (h : L.length ≤ p) : m_token_at L (p : Int) = .ok ("" : Str) := by
  unfold m_token_at
  rw [if_neg (by simp; omega)]
theorem word_at_ok {L : List Str} {p : Nat} {w : Str} (h : m_token_at L (p : Int) = .ok w) (hw : isWord w = true) : m_word_at L (p : Int) = .ok w := by
  unfold m_word_at
  have hl := (isWord_iff.mp hw).2.2
  rw [h, R.bind_ok, is_word_str (le_line (by omega)), R.bind_ok, hw]; rfl
section
variable {f : List Str → Int → Int → R (Cond × Int)} {L : List Str} {p q q2 : Nat} {r : Int} {a b : Cond} {t : Str} {ts : List Str}
/-- a bracket, what stands in it, and its end -/
theorem one_br {m : Nat} (hr : r ≠ 0) (h0 : m_token_at L (p : Int) = .ok ("(" : Str)) (h : m_either_at (m_one_at m) L ((p : Int) + 1) (r - 1) = .ok (a, (q : Int))) (h1 : m_token_at L (q : Int) = .ok (")" : Str)) : m_one_at (m + 1) L (p : Int) r = .ok (a, (q : Int) + 1) := by
  show m_one_at_b (m_one_at m) L (p : Int) r = _
  refine Ok.eq ?_
  unfold m_one_at_b
  refine .bindE h0 (.ifF (by decide +kernel) (.ifF (by decide +kernel) (.ifF (by decide +kernel) (.ifF (by decide +kernel) (.ifF (by simpa using hr) (.ifT (by decide +kernel) (.bindE h (.bindE h1 (.ifF (by decide +kernel) (.ret rfl))))))))))
theorem one_not {m : Nat} (hr : r ≠ 0) (h0 : m_token_at L (p : Int) = .ok ("not" : Str)) (h : m_one_at m L ((p : Int) + 1) (r - 1) = .ok (a, (q : Int))) : m_one_at (m + 1) L (p : Int) r = .ok (.NotSo a, (q : Int)) := by
  show m_one_at_b (m_one_at m) L (p : Int) r = _
  refine Ok.eq ?_
  unfold m_one_at_b
  refine .bindE h0 (.ifF (by decide +kernel) (.ifF (by decide +kernel) (.ifF (by decide +kernel) (.ifF (by decide +kernel) (.ifF (by simpa using hr) (.ifF (by decide +kernel) (.bindE h (.ifT (by decide +kernel) (.bindE rfl (.ret rfl))))))))))
theorem one_thr {m : Nat} (hr : r ≠ 0) (h0 : m_token_at L (p : Int) = .ok ("thread" : Str)) (h : m_one_at m L ((p : Int) + 1) (r - 1) = .ok (a, (q : Int))) : m_one_at (m + 1) L (p : Int) r = .ok (.InThread a, (q : Int)) := by
  show m_one_at_b (m_one_at m) L (p : Int) r = _
  refine Ok.eq ?_
  unfold m_one_at_b
  refine .bindE h0 (.ifF (by decide +kernel) (.ifF (by decide +kernel) (.ifF (by decide +kernel) (.ifF (by decide +kernel) (.ifF (by simpa using hr) (.ifF (by decide +kernel) (.bindE h (.ifF (by decide +kernel) (.bindE rfl (.ret rfl))))))))))
theorem one_any {m : Nat} (h0 : m_token_at L (p : Int) = .ok ("any" : Str)) : m_one_at (m + 1) L (p : Int) r = .ok (.Anything, (p : Int) + 1) := by
  show m_one_at_b (m_one_at m) L (p : Int) r = _
  refine Ok.eq ?_
  unfold m_one_at_b
  exact .bindE h0 (.ifT (by decide +kernel) (.ret rfl))
theorem one_ans {m : Nat} (h0 : m_token_at L (p : Int) = .ok ("answers" : Str)) : m_one_at (m + 1) L (p : Int) r = .ok (.IsAnswer, (p : Int) + 1) := by
  show m_one_at_b (m_one_at m) L (p : Int) r = _
  refine Ok.eq ?_
  unfold m_one_at_b
  exact .bindE h0 (.ifF (by decide +kernel) (.ifT (by decide +kernel) (.ret rfl)))
theorem one_HasWord {m : Nat} {w : Str} (h0 : L.drop p = ("word" : Str) :: w :: ts) (hw : isWord w = true) : m_one_at (m + 1) L (p : Int) r = .ok (.HasWord w, (p : Int) + 2) := by
  obtain ⟨a1, _, a3⟩ := tok_at h0
  obtain ⟨b1, _, _⟩ := tok_at a3
  have b1 : m_token_at L ((p : Int) + 1) = .ok w := b1
  have w1 : m_word_at L ((p : Int) + 1) = .ok w := word_at_ok (p := p + 1) b1 hw
  show m_one_at_b (m_one_at m) L (p : Int) r = _
  refine Ok.eq ?_
  unfold m_one_at_b
  exact .bindE a1 (.ifF (by decide +kernel) (.ifF (by decide +kernel) (.ifF (by decide +kernel) (.ifT (by decide +kernel) (.bindE b1 (.bindE (ofw1 w) (.bindE w1 (.ret rfl))))))))
theorem one_InTitle {m : Nat} {w : Str} (h0 : L.drop p = ("title" : Str) :: w :: ts) (hw : isWord w = true) : m_one_at (m + 1) L (p : Int) r = .ok (.InTitle w, (p : Int) + 2) := by
  obtain ⟨a1, _, a3⟩ := tok_at h0
  obtain ⟨b1, _, _⟩ := tok_at a3
  have b1 : m_token_at L ((p : Int) + 1) = .ok w := b1
  have w1 : m_word_at L ((p : Int) + 1) = .ok w := word_at_ok (p := p + 1) b1 hw
  show m_one_at_b (m_one_at m) L (p : Int) r = _
  refine Ok.eq ?_
  unfold m_one_at_b
  exact .bindE a1 (.ifF (by decide +kernel) (.ifF (by decide +kernel) (.ifF (by decide +kernel) (.ifT (by decide +kernel) (.bindE b1 (.bindE (ofw2 w) (.bindE w1 (.ret rfl))))))))
theorem one_FromSender {m : Nat} {w : Str} (h0 : L.drop p = ("from" : Str) :: w :: ts) (hw : isWord w = true) : m_one_at (m + 1) L (p : Int) r = .ok (.FromSender w, (p : Int) + 2) := by
  obtain ⟨a1, _, a3⟩ := tok_at h0
  obtain ⟨b1, _, _⟩ := tok_at a3
  have b1 : m_token_at L ((p : Int) + 1) = .ok w := b1
  have w1 : m_word_at L ((p : Int) + 1) = .ok w := word_at_ok (p := p + 1) b1 hw
  show m_one_at_b (m_one_at m) L (p : Int) r = _
  refine Ok.eq ?_
  unfold m_one_at_b
  exact .bindE a1 (.ifF (by decide +kernel) (.ifF (by decide +kernel) (.ifF (by decide +kernel) (.ifT (by decide +kernel) (.bindE b1 (.bindE (ofw3 w) (.bindE w1 (.ret rfl))))))))
theorem one_InFolder {m : Nat} {w : Str} (h0 : L.drop p = ("in" : Str) :: w :: ts) (hw : isWord w = true) : m_one_at (m + 1) L (p : Int) r = .ok (.InFolder w, (p : Int) + 2) := by
  obtain ⟨a1, _, a3⟩ := tok_at h0
  obtain ⟨b1, _, _⟩ := tok_at a3
  have b1 : m_token_at L ((p : Int) + 1) = .ok w := b1
  have w1 : m_word_at L ((p : Int) + 1) = .ok w := word_at_ok (p := p + 1) b1 hw
  show m_one_at_b (m_one_at m) L (p : Int) r = _
  refine Ok.eq ?_
  unfold m_one_at_b
  exact .bindE a1 (.ifF (by decide +kernel) (.ifF (by decide +kernel) (.ifF (by decide +kernel) (.ifT (by decide +kernel) (.bindE b1 (.bindE (ofw4 w) (.bindE w1 (.ret rfl))))))))
theorem one_IsMarked {m : Nat} {w : Str} (h0 : L.drop p = ("marked" : Str) :: w :: ts) (hw : isWord w = true) : m_one_at (m + 1) L (p : Int) r = .ok (.IsMarked w, (p : Int) + 2) := by
  obtain ⟨a1, _, a3⟩ := tok_at h0
  obtain ⟨b1, _, _⟩ := tok_at a3
  have b1 : m_token_at L ((p : Int) + 1) = .ok w := b1
  have w1 : m_word_at L ((p : Int) + 1) = .ok w := word_at_ok (p := p + 1) b1 hw
  show m_one_at_b (m_one_at m) L (p : Int) r = _
  refine Ok.eq ?_
  unfold m_one_at_b
  exact .bindE a1 (.ifF (by decide +kernel) (.ifF (by decide +kernel) (.ifF (by decide +kernel) (.ifT (by decide +kernel) (.bindE b1 (.bindE (ofw5 w) (.bindE w1 (.ret rfl))))))))
end
theorem drop_app {L x y : List Str} {p : Nat} (h : L.drop p = x ++ y) : L.drop (p + x.length) = y := by
  rw [← List.drop_drop, h, List.drop_left]
/-- within brackets -/
theorem wrap_len (ts : List Str) : ∀ m : Nat, (wrap m ts).length = ts.length + 2 * m
  | 0 => rfl
  | m + 1 => by simp only [wrap, List.length_cons, List.length_append, List.length_nil, wrap_len ts m]; omega
theorem day_in {a b y : Int} (ha : 0 ≤ a ∧ a ≤ 9999) (hx : 0 ≤ b) (h : y ∈ [a, 9999, b % 10000, b % 9]) : 0 ≤ y ∧ y ≤ 9999 := by
  have a0 := Int.emod_nonneg b (show (10000 : Int) ≠ 0 by decide)
  have a1 := Int.emod_lt_of_pos b (show (0 : Int) < 10000 by decide)
  have b0 := Int.emod_nonneg b (show (9 : Int) ≠ 0 by decide)
  have b1 := Int.emod_lt_of_pos b (show (0 : Int) < 9 by decide)
  simp only [List.mem_cons, List.not_mem_nil, or_false] at h
  rcases h with rfl | rfl | rfl | rfl <;> omega
/-- what all drawn trees keep -/
def Gt (c : Cond) : Prop := Gc c ∧ Gd c ∧ thr c ≤ 2
theorem leaf_ok {b x : Int} (hb : 0 ≤ b) (hx : 0 ≤ x) : Ok (m_law_leaf_by b x) fun r => ∃ c, r = tr c ∧ Gt c ∧ dep c = 1 ∧ sz c = 1 := by
  unfold m_law_leaf_by
  refine .bind (word_by_ok hb ⟨Int.emod_nonneg _ (by decide), Int.emod_lt_of_pos _ (by decide)⟩) fun w hw => .lets ?_
  have h0 : 0 ≤ x % 11 := Int.emod_nonneg _ (by decide)
  have h1 : x % 11 < 11 := Int.emod_lt_of_pos _ (by decide)
  refine .ite (fun _ => .ret ⟨.Anything, rfl, ⟨trivial, trivial, by decide⟩, rfl, rfl⟩) fun _ => .ite (fun _ => .ret ⟨.IsAnswer, rfl, ⟨trivial, trivial, by decide⟩, rfl, rfl⟩) fun _ => .ite (fun _ => ?_) fun q => ?_
  · refine .idx (Int.emod_nonneg _ (by decide)) (Int.emod_lt_of_pos _ (by decide)) fun y hy _ => .idx (Int.emod_nonneg _ (by decide)) (Int.emod_lt_of_pos _ (by decide)) fun z hz _ => ?_
    have y0 : 0 ≤ y ∧ y ≤ 9999 := day_in (a := 0) (b := x / 55) (by decide) (Int.ediv_nonneg hx (by decide)) (by
      simp only [List.mem_cons, List.not_mem_nil, or_false] at hy ⊢
      rcases hy with h | h | h
      · exact .inl h
      · exact .inr (.inr (.inl h))
      · exact .inr (.inr (.inr h)))
    exact .ret ⟨.OnDays y z, rfl, ⟨trivial, ⟨y0, day_in y0 (Int.ediv_nonneg hx (by decide)) hz⟩, by simp [thr]⟩, rfl, rfl⟩
  · have q : 4 ≤ x % 11 := by
      have := of_decide_eq_false (by simpa using q : decide (x % 11 < 4) = false)
      omega
    refine .idx (by omega) (by show x % 11 - 4 < 7; omega) fun k hk _ => .ret ?_
    have t2 : (0 : Nat) ≤ 2 := by decide
    simp only [List.mem_cons, List.not_mem_nil, or_false] at hk
    rcases hk with rfl | rfl | rfl | rfl | rfl | rfl | rfl
    · exact ⟨.HasWord w, rfl, ⟨hw, trivial, t2⟩, rfl, rfl⟩
    · exact ⟨.InTitle w, rfl, ⟨hw, trivial, t2⟩, rfl, rfl⟩
    · exact ⟨.FromSender w, rfl, ⟨hw, trivial, t2⟩, rfl, rfl⟩
    · exact ⟨.InFolder w, rfl, ⟨hw, trivial, t2⟩, rfl, rfl⟩
    · exact ⟨.IsMarked w, rfl, ⟨hw, trivial, t2⟩, rfl, rfl⟩
    · exact ⟨.HasWord w, rfl, ⟨hw, trivial, t2⟩, rfl, rfl⟩
    · exact ⟨.IsMarked w, rfl, ⟨hw, trivial, t2⟩, rfl, rfl⟩
theorem idx_end {α : Type} {xs : List α} {j : Nat} (hj : j < xs.length) : idxR xs (-((j : Int) + 1)) = .ok (xs[xs.length - 1 - j]'(by omega)) := by
  have e : ixN xs.length (-((j : Int) + 1)) = some (xs.length - 1 - j) := by
    unfold ixN
    rw [if_neg (by omega), if_pos (by omega)]
    congr 1; omega
  unfold idxR atI
  rw [e]
  show (match xs[xs.length - 1 - j]? with | some x => R.ok x | none => R.bad) = _
  rw [List.getElem?_eq_getElem (by omega)]
theorem last1 {α : Type} {l : List α} {x : α} : idxR (l ++ [x]) (-1) = .ok x := by
  have h := idx_end (xs := l ++ [x]) (j := 0) (by simp)
  have e : (-(((0 : Nat) : Int) + 1)) = -1 := rfl
  rw [e] at h
  rw [h]
  congr 1
  simp
theorem last2 {α : Type} {l : List α} {x y : α} : idxR (l ++ [x, y]) (-1) = .ok y ∧ idxR (l ++ [x, y]) (-2) = .ok x := by
  have h0 := idx_end (xs := l ++ [x, y]) (j := 0) (by simp)
  have h1 := idx_end (xs := l ++ [x, y]) (j := 1) (by simp)
  have e0 : (-(((0 : Nat) : Int) + 1)) = -1 := rfl
  have e1 : (-(((1 : Nat) : Int) + 1)) = -2 := rfl
  rw [e0] at h0
  rw [e1] at h1
  rw [h0, h1]
  exact ⟨by congr 1; simp, by congr 1; simp⟩
theorem but2 {α : Type} {l : List α} {x y : α} : cutL (l ++ [x, y]) none (some (-2)) = l := by
  unfold cutL
  have e : HT.sIx (l ++ [x, y]).length (l ++ [x, y]).length (some (-2)) = l.length := by
    show (if (-2 : Int) < 0 then (-2 + ((l ++ [x, y]).length : Int)).toNat else min (-2 : Int).toNat (l ++ [x, y]).length) = _
    rw [if_pos (by decide), List.length_append]
    simp only [List.length_cons, List.length_nil]
    omega
  rw [HT.sIx_none, e, List.drop_zero, Nat.sub_zero]
  simp
theorem split1 {α : Type} {l : List α} (h : 0 < l.length) : ∃ m x, l = m ++ [x] := ⟨l.dropLast, l.getLast (by intro e; rw [e] at h; simp at h), (List.dropLast_concat_getLast _).symm⟩
/-- a pile of trees: k deep together, j great together with their number -/
def Pil (k j : Nat) (s : List Any) : Prop := ∃ cs : List Cond, s = cs.map tr ∧ (∀ c, c ∈ cs → Gt c) ∧ (cs.map dep).sum = k ∧ (cs.map sz).sum + cs.length = j
/-- out of n numbers -/
def Pile (n : Nat) (s : List Any) : Prop := ∃ k j, Pil k j s ∧ k ≤ n ∧ j ≤ 2 * n
theorem Pil.len {k j : Nat} {s : List Any} (h : Pil k j s) : s.length ≤ k := by
  obtain ⟨cs, rfl, _, h, _⟩ := h
  rw [List.length_map]
  have : ∀ cs : List Cond, cs.length ≤ (cs.map dep).sum := fun cs => by
    induction cs with
    | nil => exact Nat.le_refl _
    | cons c r ih =>
      have := dep_pos c
      rw [List.map_cons, List.sum_cons, List.length_cons]; omega
  exact Nat.le_trans (this cs) (Nat.le_of_eq h)
theorem Pile.len {n : Nat} {s : List Any} (h : Pile n s) : s.length ≤ n := by
  obtain ⟨k, j, h, hk, _⟩ := h
  exact Nat.le_trans h.len hk
theorem Pil.put {k j n : Nat} {s : List Any} {c : Cond} (h : Pil k j s) (g : Gt c) (e : k + dep c ≤ n) (e2 : j + sz c + 1 ≤ 2 * n) : Pile n (s ++ [tr c]) := by
  obtain ⟨cs, rfl, h1, h2, h3⟩ := h
  refine ⟨_, _, ⟨cs ++ [c], by simp, fun d hd => ?_, rfl, rfl⟩, ?_, ?_⟩
  · rcases List.mem_append.mp hd with q | q
    · exact h1 d q
    · rw [List.mem_singleton.mp q]; exact g
  · rw [List.map_append, List.sum_append, List.map_singleton, List.sum_singleton]; omega
  · rw [List.map_append, List.sum_append, List.map_singleton, List.sum_singleton, List.length_append, List.length_singleton]; omega
theorem Pil.last {k j : Nat} {s : List Any} (h : Pil k j s) (l : 0 < s.length) : ∃ p c k' j', s = p ++ [tr c] ∧ Pil k' j' p ∧ Gt c ∧ k = k' + dep c ∧ j = j' + sz c + 1 := by
  obtain ⟨cs, rfl, h1, h2, h3⟩ := h
  rw [List.length_map] at l
  obtain ⟨m, c, rfl⟩ := split1 l
  rw [List.map_append, List.sum_append, List.map_singleton, List.sum_singleton] at h2 h3
  rw [List.length_append, List.length_singleton] at h3
  exact ⟨m.map tr, c, _, _, by simp, ⟨m, rfl, fun d hd => h1 d (by simp [hd]), rfl, rfl⟩, h1 c (by simp), by omega, by omega⟩
theorem Pil.last2 {k j : Nat} {s : List Any} (h : Pil k j s) (l : 1 < s.length) : ∃ p a b k' j', s = p ++ [tr a, tr b] ∧ Pil k' j' p ∧ Gt a ∧ Gt b ∧ k = k' + dep a + dep b ∧ j = j' + sz a + sz b + 2 := by
  obtain ⟨p, b, k1, j1, rfl, hp, gb, e, e2⟩ := h.last (by omega)
  rw [List.length_append, List.length_singleton] at l
  obtain ⟨q, a, k2, j2, rfl, hq, ga, e3, e4⟩ := hp.last (by omega)
  exact ⟨q, a, b, k2, j2, by simp, hq, ga, gb, by omega, by omega⟩
theorem Pile.last {n : Nat} {s : List Any} (h : Pile n s) (l : 0 < s.length) : ∃ p c k j, s = p ++ [tr c] ∧ Pil k j p ∧ Gt c ∧ k + dep c ≤ n ∧ j + sz c + 1 ≤ 2 * n := by
  obtain ⟨k, j, h, hk, hj⟩ := h
  obtain ⟨p, c, k1, j1, rfl, hp, g, e, e2⟩ := h.last l
  exact ⟨p, c, k1, j1, rfl, hp, g, by omega, by omega⟩
theorem join_ok {n : Nat} {s : List Any} {y : Int} (h : Pile n s) (hn : n ≤ 12) (l : 1 < s.length) (hy : 0 ≤ y ∧ y < 2) :
    Ok ((idxR ([("both" : Str), ("either" : Str)]) y).bind fun x58 =>
(idxR s (-2)).bind fun x59 =>
(idxR s (-1)).bind fun x67 =>
R.need ((cutL s none (some (-2))).length + ([(Any.tup [(Any.str x58), x59, x67])]).length ≤ sizeLine) <|
(R.ok ((cutL s none (some (-2))) ++ ([(Any.tup [(Any.str x58), x59, x67])]) : (List Any))).bind fun y80 =>
R.ok (y80)) fun r => Pile n r ∧ r.length + 1 = s.length := by
  obtain ⟨k, j, h, hk, hj⟩ := h
  obtain ⟨p, a, b, k1, j1, rfl, hp, ga, gb, e, e2⟩ := h.last2 l
  have hl := hp.len
  refine .idx hy.1 (show y < 2 from hy.2) fun w hw _ => .bindE last2.2 (.bindE last2.1 ?_)
  rw [but2]
  refine .need (le_line (by simp only [List.length_singleton]; omega)) (.lets (.ret ?_))
  have h1 := dep_pos a
  have h2 := dep_pos b
  have t : max (thr a) (thr b) ≤ 2 := by have := ga.2.2; have := gb.2.2; omega
  refine ⟨?_, by simp⟩
  simp only [List.mem_cons, List.not_mem_nil, or_false] at hw
  rcases hw with rfl | rfl
  · exact hp.put (c := .BothSo a b) ⟨⟨ga.1, gb.1⟩, ⟨ga.2.1, gb.2.1⟩, t⟩ (by simp only [dep]; omega) (by simp only [sz]; omega)
  · exact hp.put (c := .EitherSo a b) ⟨⟨ga.1, gb.1⟩, ⟨ga.2.1, gb.2.1⟩, t⟩ (by simp only [dep]; omega) (by simp only [sz]; omega)
theorem while_ok {n : Nat} {f : List Any → R (List Any)} (hf : ∀ s, Pile n s → 1 < s.length → Ok (f s) fun r => Pile n r ∧ r.length + 1 = s.length) :
    ∀ (m : Nat) (s : List Any), Pile n s → s.length < m → 0 < s.length → Ok (whileN m (fun s => decide (1 < (s.length : Int))) f s) fun r => Pile n r ∧ r.length = 1
  | 0, s, _, h, _ => absurd h (by omega)
  | m + 1, s, hs, h, h0 => by
    unfold whileN
    refine .ite (fun c => ?_) fun c => ?_
    · have c : 1 < s.length := by have := of_decide_eq_true c; omega
      exact .bind (hf s hs c) fun r hr => while_ok hf m r hr.1 (by omega) (by omega)
    · have c : ¬ (1 < (s.length : Int)) := by simpa using c
      exact .ret ⟨hs, by omega⟩
theorem tree_by_ok {b : Int} {l : List Int} (hb : 0 ≤ b) (h0 : 0 < l.length) (hl : l.length ≤ 10) (hx : ∀ x, x ∈ l → 0 ≤ x ∧ x < 2147483629) :
    Ok (m_law_tree_by b l) fun r => ∃ c, r = tr c ∧ Gt c ∧ dep c ≤ l.length ∧ sz c ≤ 20 := by
  unfold m_law_tree_by
  refine .forI (fun pre s => Pile pre.length s ∧ (pre ≠ [] → 0 < s.length)) ⟨⟨0, 0, ⟨[], rfl, by simp, rfl, rfl⟩, by simp, by simp⟩, fun h => absurd rfl h⟩ ?_ ?_
  · rintro p x q s ep ⟨hs, _⟩
    have hp := pre_lt ep
    have x0 := (hx x (by rw [ep]; simp)).1
    have sl := hs.len
    have lp : (p ++ [x]).length = p.length + 1 := by simp
    refine .lets ?_
    have y0 : 0 ≤ x % 9 := Int.emod_nonneg _ (by decide)
    generalize x % 9 = y at *
    have fin : ∀ {m : R (List Any)}, Ok m (fun r => Pile (p ++ [x]).length r ∧ 0 < r.length) → Ok m fun r => Pile (p ++ [x]).length r ∧ (p ++ [x] ≠ [] → 0 < r.length) := fun h => h.mono fun r hr => ⟨hr.1, fun _ => hr.2⟩
    refine fin ?_
    rw [lp]
    have pos : ∀ {n : Nat}, decide (0 < (n : Int)) = true → 0 < n := fun h => by have := of_decide_eq_true h; omega
    refine .bind (Q := fun r => Pile (p.length + 1) r ∧ 0 < r.length) (.ite (fun c => ?_) fun c => ?_) fun r hr => .ret hr
    · rw [Bool.and_eq_true] at c
      obtain ⟨u, d, k, j, rfl, hu, gd, e, e2⟩ := hs.last (pos c.2)
      have ul := hu.len
      refine .bindE last1 ?_
      rw [cutL_but1, List.dropLast_concat]
      exact .need (le_line (by simp only [List.length_singleton]; omega)) (.lets (.ret ⟨hu.put (c := .NotSo d) gd (by simp only [dep]; omega) (by simp only [sz]; omega), by simp⟩))
    · refine .bind (Q := fun b26 => b26 = true → ∃ u d k j, s = u ++ [tr d] ∧ Pil k j u ∧ Gt d ∧ k + dep d ≤ p.length ∧ j + sz d + 1 ≤ 2 * p.length ∧ thr d < 2) (.ite (fun _ => ?_) fun _ => .ret fun z => absurd z Bool.false_ne_true) fun b26 hb26 => ?_
      · refine .bind (Q := fun b27 => b27 = true → ∃ u d k j, s = u ++ [tr d] ∧ Pil k j u ∧ Gt d ∧ k + dep d ≤ p.length ∧ j + sz d + 1 ≤ 2 * p.length ∧ thr d < 2) (.ite (fun c2 => ?_) fun _ => .ret fun z => absurd z Bool.false_ne_true) fun z hz => .ret hz
        obtain ⟨u, d, k, j, rfl, hu, gd, e, e2⟩ := hs.last (pos c2)
        exact .bindE last1 (.bindE (threads_eq 34 d (by omega)) (.ret fun q => ⟨u, d, k, j, rfl, hu, gd, e, e2, by have := of_decide_eq_true q; omega⟩))
      · refine .bind (Q := fun r => Pile (p.length + 1) r ∧ 0 < r.length) (.ite (fun c2 => ?_) fun c2 => ?_) fun r hr => .ret hr
        · obtain ⟨u, d, k, j, rfl, hu, gd, e, e2, t⟩ := hb26 c2
          have ul := hu.len
          refine .bindE last1 ?_
          rw [cutL_but1, List.dropLast_concat]
          exact .need (le_line (by simp only [List.length_singleton]; omega)) (.lets (.ret ⟨hu.put (c := .InThread d) ⟨gd.1, gd.2.1, by simp only [thr]; omega⟩ (by simp only [dep]; omega) (by simp only [sz]; omega), by simp⟩))
        · refine .bind (Q := fun r => Pile (p.length + 1) r ∧ 0 < r.length) (.ite (fun c3 => ?_) fun c3 => ?_) fun r hr => .ret hr
          · rw [Bool.and_eq_true] at c3
            have c4 : 1 < s.length := by have := of_decide_eq_true c3.2; omega
            refine (join_ok hs (by omega) c4 ⟨Int.emod_nonneg _ (by decide), Int.emod_lt_of_pos _ (by decide)⟩).mono fun r hr => ⟨?_, by omega⟩
            obtain ⟨k, j, e1, e2, e3⟩ := hr.1
            exact ⟨k, j, e1, by omega, by omega⟩
          · refine .bind (leaf_ok hb (Int.ediv_nonneg x0 (by decide))) fun r hr => ?_
            obtain ⟨c, rfl, gc, dc, sc⟩ := hr
            obtain ⟨k, j, e1, e2, e3⟩ := hs
            exact .need (lt_line (m := 10) (by omega) (by decide)) (.ret ⟨e1.put gc (by omega) (by omega), by simp⟩)
  · rintro s ⟨hs, h1⟩
    have h1 := h1 (by intro e; rw [e] at h0; simp at h0)
    have sl := hs.len
    refine .bind (while_ok (n := l.length) (fun s hs c => ?_) 64 s hs (by omega) h1) fun r hr => ?_
    · refine .idx (by decide) (by omega) fun x _ _ => ?_
      exact join_ok hs (by omega) c ⟨Int.emod_nonneg _ (by decide), Int.emod_lt_of_pos _ (by decide)⟩
    · obtain ⟨⟨k, j, ⟨cs, rfl, g, d, d2⟩, dk, dj⟩, l1⟩ := hr
      rw [List.length_map] at l1
      obtain ⟨c, rfl⟩ := List.length_eq_one_iff.mp l1
      have d : dep c = k := by simpa using d
      have d2 : sz c + 1 = j := by simpa using d2
      exact .bindE (a := tr c) rfl (.ret ⟨c, rfl, g c (by simp), by omega, by omega⟩)
/-- a text tells a number, up to four figures -/
def NumT (i : Int) (s : Str) : Prop := (∀ c, c ∈ s.cps.toList → 48 ≤ c ∧ c ≤ 57) ∧ 1 ≤ s.length ∧ s.length ≤ 4 ∧ intR s = .ok i
theorem num_atT {L : List Str} {p : Nat} {i : Int} {s : Str} (h : m_token_at L (p : Int) = .ok s) (f : NumT i s) : m_number_at L (p : Int) = .ok i := by
  have e9 : (("0123456789" : Str)).cps.toList = [48, 49, 50, 51, 52, 53, 54, 55, 56, 57] := by decide +kernel
  have f2 := f.2.1
  have f3 := f.2.2.1
  refine Ok.eq ?_
  unfold m_number_at
  refine .bindE h (.need (le_line (by omega)) ?_)
  refine .bind (Q := fun z => z = false) (.ifF ?_ (.need (le_line (by rw [← len_tl]; omega)) ?_)) fun z hz => .ifF (by rw [hz]; exact Bool.false_ne_true) (.bindE f.2.2.2 (.ret rfl))
  · simp; omega
  · refine .bindE (compR_map (g := fun x => decide (x ∈ (("0123456789" : Str)).cps.toList)) fun x _ => rfl) (.ret ?_)
    dsimp only
    rw [List.all_map, Bool.not_eq_false', List.all_eq_true]
    intro c hc
    have hc := f.1 c hc
    rw [e9]
    simp; omega
/-- a condition that stands alone, its tokens -/
inductive Lf : Cond → List Str → Prop
  | any : Lf .Anything [("any" : Str)]
  | ans : Lf .IsAnswer [("answers" : Str)]
  | word {w : Str} : isWord w = true → Lf (.HasWord w) [("word" : Str), w]
  | title {w : Str} : isWord w = true → Lf (.InTitle w) [("title" : Str), w]
  | from_ {w : Str} : isWord w = true → Lf (.FromSender w) [("from" : Str), w]
  | in_ {w : Str} : isWord w = true → Lf (.InFolder w) [("in" : Str), w]
  | marked {w : Str} : isWord w = true → Lf (.IsMarked w) [("marked" : Str), w]
  | one {a : Int} {s : Str} : NumT a s → Lf (.OnDays a a) [("day" : Str), s]
  | before {b : Int} {s : Str} : NumT (b + 1) s → 0 ≤ b → Lf (.OnDays 0 b) [("before" : Str), s]
  | after {a : Int} {s : Str} : NumT (a - 1) s → a ≤ 9999 → Lf (.OnDays a 9999) [("after" : Str), s]
  | days {a b : Int} {s t : Str} : NumT a s → NumT b t → Lf (.OnDays a b) [("day" : Str), s, ("to" : Str), t]
section
variable {L : List Str} {p q q2 n : Nat} {r : Int} {a b c : Cond} {t : Str} {ts : List Str}
theorem one_lf {m : Nat} {post : List Str} (h : Lf c ts) (hd : L.drop p = ts ++ post) (ht : m_token_at L ((p + ts.length : Nat) : Int) = .ok t) (hn : t ≠ ("to" : Str)) : m_one_at (m + 1) L (p : Int) r = .ok (c, ((p + ts.length : Nat) : Int)) := by
  have days : ∀ {x : Cond} {k s : Str} {post : List Str} {q : Int}, (k = ("day" : Str) ∨ k = ("before" : Str) ∨ k = ("after" : Str)) → L.drop p = k :: post → m_days_at L (p : Int) = .ok (x, q) → m_one_at (m + 1) L (p : Int) r = .ok (x, q) := fun {x k s post q} hk h0 h => by
    obtain ⟨a1, a2, a3⟩ := tok_at h0
    show m_one_at_b (m_one_at m) L (p : Int) r = _
    refine Ok.eq ?_
    unfold m_one_at_b
    rcases hk with rfl | rfl | rfl <;> exact .bindE a1 (.ifF (by decide +kernel) (.ifF (by decide +kernel) (.ifT (by decide +kernel) (.bindE h (.ret rfl)))))
  cases h with
  | any => exact one_any (tok_at hd).1
  | ans => exact one_ans (tok_at hd).1
  | word h => exact one_HasWord hd h
  | title h => exact one_InTitle hd h
  | from_ h => exact one_FromSender hd h
  | in_ h => exact one_InFolder hd h
  | marked h => exact one_IsMarked hd h
  | one f =>
    obtain ⟨a1, a2, a3⟩ := tok_at hd
    obtain ⟨b1, _, b3⟩ := tok_at a3
    have n1 := num_atT (p := p + 1) b1 f
    refine days (s := t) (.inl rfl) hd (Ok.eq ?_)
    unfold m_days_at
    exact .bindE n1 (.bindE a2 (.ifF (by decide +kernel) (.bindE a2 (.ifF (by decide +kernel) (.bindE ht (.ifT (by simpa using hn) (.bindE rfl (.ret rfl))))))))
  | before f h0 =>
    rename_i b s
    obtain ⟨a1, a2, a3⟩ := tok_at hd
    obtain ⟨b1, _, b3⟩ := tok_at a3
    have n1 := num_atT (p := p + 1) b1 f
    refine days (s := t) (.inr (.inl rfl)) hd (Ok.eq ?_)
    unfold m_days_at
    refine .bindE n1 (.bindE a2 (.ifT (by decide +kernel) (.ifF (by simp; omega) (.bindE rfl (.ret ?_)))))
    show (Cond.OnDays 0 (b + 1 - 1), _) = _
    rw [Int.add_sub_cancel]; rfl
  | after f h1 =>
    rename_i a s
    obtain ⟨a1, a2, a3⟩ := tok_at hd
    obtain ⟨b1, _, b3⟩ := tok_at a3
    have n1 := num_atT (p := p + 1) b1 f
    refine days (s := t) (.inr (.inr rfl)) hd (Ok.eq ?_)
    unfold m_days_at
    refine .bindE n1 (.bindE a2 (.ifF (by decide +kernel) (.bindE a2 (.ifT (by decide +kernel) (.ifF (by simp; omega) (.bindE rfl (.ret ?_)))))))
    show (Cond.OnDays (a - 1 + 1) 9999, _) = _
    rw [Int.sub_add_cancel]; rfl
  | days f g =>
    obtain ⟨a1, a2, a3⟩ := tok_at hd
    obtain ⟨b1, _, b3⟩ := tok_at a3
    obtain ⟨c1, _, c3⟩ := tok_at b3
    obtain ⟨d1, _, _⟩ := tok_at c3
    have n1 := num_atT (p := p + 1) b1 f
    have n2 := num_atT (p := p + 1 + 1 + 1) d1 g
    have c1 : m_token_at L ((p : Int) + 2) = .ok ("to" : Str) := c1
    refine days (s := t) (.inl rfl) hd (Ok.eq ?_)
    unfold m_days_at
    exact .bindE n1 (.bindE a2 (.ifF (by decide +kernel) (.bindE a2 (.ifF (by decide +kernel) (.bindE c1 (.ifF (by decide +kernel) (.bindE n2 (.bindE rfl (.ret rfl)))))))))
end
/-- tokens that tell a condition: 0 with or, 1 with and, 2 alone; so many may be open -/
inductive Spd : Nat → Nat → Cond → List Str → Prop
  | lf {l o : Nat} {c : Cond} {t : List Str} : Lf c t → Spd l o c t
  | nt {l o : Nat} {c : Cond} {t : List Str} : Spd 2 o c t → Spd l (o + 1) (.NotSo c) (("not" : Str) :: t)
  | th {l o : Nat} {c : Cond} {t : List Str} : Spd 2 o c t → Spd l (o + 1) (.InThread c) (("thread" : Str) :: t)
  | br {l o : Nat} {c : Cond} {t : List Str} : Spd 0 o c t → Spd l (o + 1) c (("(" : Str) :: (t ++ [(")" : Str)]))
  | an {l o : Nat} {a b : Cond} {x y : List Str} : l ≤ 1 → Spd 1 o a x → Spd 2 o b y → Spd l o (.BothSo a b) (x ++ ("and" : Str) :: y)
  | or_ {o : Nat} {a b : Cond} {x y : List Str} : Spd 0 o a x → Spd 1 o b y → Spd 0 o (.EitherSo a b) (x ++ ("or" : Str) :: y)
section
variable {f : List Str → Int → Int → R (Cond × Int)} {L : List Str} {p q q2 n : Nat} {r : Int} {a b c : Cond} {t : Str} {ts : List Str}
def tt1 (L : List Str) : Cond × Int → R Bool := fun s4 => (m_token_at L s4.2).bind fun r15 => R.ok (decide (r15 = ("and" : Str)))
def b1 (f : List Str → Int → Int → R (Cond × Int)) (L : List Str) (r : Int) : Cond × Int → R (Cond × Int) := fun s4 => (f L (s4.2 + 1) r).bind fun r22 => (m_OfTwo___init___BothSo s4.1 r22.1).bind fun r41 => R.ok (((Cond.BothSo r41.first r41.second), r22.2))
def tt0 (L : List Str) : Cond × Int → R Bool := fun s4 => (m_token_at L s4.2).bind fun r15 => R.ok (decide (r15 = ("or" : Str)))
def b0 (f : List Str → Int → Int → R (Cond × Int)) (L : List Str) (r : Int) : Cond × Int → R (Cond × Int) := fun s4 => (m_both_at f L (s4.2 + 1) r).bind fun r22 => (m_OfTwo___init___EitherSo s4.1 r22.1).bind fun r41 => R.ok (((Cond.EitherSo r41.first r41.second), r22.2))
/-- on the way of and -/
def Bc (f : List Str → Int → Int → R (Cond × Int)) (L : List Str) (p : Nat) (r : Int) (c : Cond) (q : Nat) : Prop :=
  ∃ k s, k ≤ sz c ∧ f L (p : Int) r = .ok s ∧ ∀ m, whileT (k + m) (tt1 L) (b1 f L r) s = whileT m (tt1 L) (b1 f L r) (c, (q : Int))
/-- on the way of or -/
def Ec (f : List Str → Int → Int → R (Cond × Int)) (L : List Str) (p : Nat) (r : Int) (c : Cond) (q : Nat) : Prop :=
  ∃ k s, k ≤ sz c ∧ m_both_at f L (p : Int) r = .ok s ∧ ∀ m, whileT (k + m) (tt0 L) (b0 f L r) s = whileT m (tt0 L) (b0 f L r) (c, (q : Int))
theorem Bc.one (h : f L (p : Int) r = .ok (c, (q : Int))) : Bc f L p r c q := ⟨0, _, Nat.zero_le _, h, fun m => by rw [Nat.zero_add]⟩
theorem Ec.both (h : m_both_at f L (p : Int) r = .ok (c, (q : Int))) : Ec f L p r c q := ⟨0, _, Nat.zero_le _, h, fun m => by rw [Nat.zero_add]⟩
theorem whileT_stop {τ : Type} {c : τ → R Bool} {g : τ → R τ} {s : τ} {m : Nat} (h : c s = .ok false) : whileT (m + 1) c g s = .ok s := by
  unfold whileT
  rw [h]; rfl
theorem whileT_go {τ : Type} {c : τ → R Bool} {g : τ → R τ} {s s' : τ} {m : Nat} (h : c s = .ok true) (h2 : g s = .ok s') : whileT (m + 1) c g s = whileT m c g s' := by
  show ((c s).bind fun b => if b = true then (g s).bind (whileT m c g) else .ok s) = _
  rw [h, R.bind_ok, if_pos rfl, h2, R.bind_ok]
theorem Bc.done (h : Bc f L p r c q) (hz : sz c ≤ 62) (ht : m_token_at L (q : Int) = .ok t) (hn : t ≠ ("and" : Str)) : m_both_at f L (p : Int) r = .ok (c, (q : Int)) := by
  obtain ⟨k, s, hk, h1, h2⟩ := h
  refine Ok.eq ?_
  unfold m_both_at
  refine .bindE h1 (.bindE (a := (c, (q : Int))) ?_ (.ret rfl))
  show whileT 64 (tt1 L) (b1 f L r) s = _
  obtain ⟨m, hm⟩ : ∃ m, 64 = k + (m + 1) := ⟨63 - k, by omega⟩
  rw [hm, h2]
  refine whileT_stop ?_
  show ((m_token_at L (q : Int)).bind fun r15 => R.ok (decide (r15 = ("and" : Str)))) = _
  rw [ht, R.bind_ok, decide_eq_false hn]
theorem Ec.done (h : Ec f L p r c q) (hz : sz c ≤ 62) (ht : m_token_at L (q : Int) = .ok t) (hn : t ≠ ("or" : Str)) : m_either_at f L (p : Int) r = .ok (c, (q : Int)) := by
  obtain ⟨k, s, hk, h1, h2⟩ := h
  refine Ok.eq ?_
  unfold m_either_at
  refine .bindE h1 (.bindE (a := (c, (q : Int))) ?_ (.ret rfl))
  show whileT 64 (tt0 L) (b0 f L r) s = _
  obtain ⟨m, hm⟩ : ∃ m, 64 = k + (m + 1) := ⟨63 - k, by omega⟩
  rw [hm, h2]
  refine whileT_stop ?_
  show ((m_token_at L (q : Int)).bind fun r15 => R.ok (decide (r15 = ("or" : Str)))) = _
  rw [ht, R.bind_ok, decide_eq_false hn]
theorem sz_pos (c : Cond) : 1 ≤ sz c := by cases c <;> simp [sz]
theorem Bc.step (h : Bc f L p r a q) (ht : m_token_at L (q : Int) = .ok ("and" : Str)) (h2 : f L ((q : Int) + 1) r = .ok (b, (q2 : Int))) : Bc f L p r (.BothSo a b) q2 := by
  obtain ⟨k, s, hk, e1, e2⟩ := h
  refine ⟨k + 1, s, by simp only [sz]; omega, e1, fun m => ?_⟩
  rw [show k + 1 + m = k + (m + 1) by omega, e2]
  refine whileT_go ?_ ?_
  · show ((m_token_at L (q : Int)).bind fun r15 => R.ok (decide (r15 = ("and" : Str)))) = _
    rw [ht, R.bind_ok, decide_eq_true rfl]
  · show ((f L ((q : Int) + 1) r).bind fun r22 => (m_OfTwo___init___BothSo a r22.1).bind fun r41 => R.ok (((Cond.BothSo r41.first r41.second), r22.2))) = _
    rw [h2]; rfl
theorem Ec.step (h : Ec f L p r a q) (ht : m_token_at L (q : Int) = .ok ("or" : Str)) (h2 : m_both_at f L ((q : Int) + 1) r = .ok (b, (q2 : Int))) : Ec f L p r (.EitherSo a b) q2 := by
  obtain ⟨k, s, hk, e1, e2⟩ := h
  refine ⟨k + 1, s, by simp only [sz]; omega, e1, fun m => ?_⟩
  rw [show k + 1 + m = k + (m + 1) by omega, e2]
  refine whileT_go ?_ ?_
  · show ((m_token_at L (q : Int)).bind fun r15 => R.ok (decide (r15 = ("or" : Str)))) = _
    rw [ht, R.bind_ok, decide_eq_true rfl]
  · show ((m_both_at f L ((q : Int) + 1) r).bind fun r22 => (m_OfTwo___init___EitherSo a r22.1).bind fun r41 => R.ok (((Cond.EitherSo r41.first r41.second), r22.2))) = _
    rw [h2]; rfl
end
/-- what is read of tokens that tell a condition -/
def Rd3 (l n : Nat) (L : List Str) (p : Nat) (r : Int) (c : Cond) (q : Nat) (t : Str) : Prop :=
  (2 ≤ l → m_one_at n L (p : Int) r = .ok (c, (q : Int))) ∧ (l = 1 → Bc (m_one_at n) L p r c q) ∧ (l = 0 → t ≠ ("and" : Str) → Ec (m_one_at n) L p r c q)
theorem Rd3.one {l n : Nat} {L : List Str} {p : Nat} {r : Int} {c : Cond} {q : Nat} {t : Str} (hz : sz c ≤ 62) (ht : m_token_at L (q : Int) = .ok t) (h : m_one_at n L (p : Int) r = .ok (c, (q : Int))) : Rd3 l n L p r c q t :=
  ⟨fun _ => h, fun _ => .one h, fun _ hn => .both ((Bc.one h).done hz ht hn)⟩
theorem Rd3.bc {l n : Nat} {L : List Str} {p : Nat} {r : Int} {c : Cond} {q : Nat} {t : Str} (hl : l ≤ 1) (hz : sz c ≤ 62) (ht : m_token_at L (q : Int) = .ok t) (h : Bc (m_one_at n) L p r c q) : Rd3 l n L p r c q t :=
  ⟨fun _ => absurd hl (by omega), fun _ => h, fun _ hn => .both (h.done hz ht hn)⟩
theorem Spd.read {l o : Nat} {c : Cond} {ts : List Str} (h : Spd l o c ts) : ∀ (n : Nat) (r : Int) (p : Nat) (L post : List Str) (t : Str), L.drop p = ts ++ post → (o : Int) ≤ r → o < n → sz c ≤ 62 →
    m_token_at L ((p + ts.length : Nat) : Int) = .ok t → t ≠ ("to" : Str) → Rd3 l n L p r c (p + ts.length) t := by
  induction h with
  | lf h =>
    intro n r p L post t hd ho hn hz ht hto
    obtain ⟨n, rfl⟩ : ∃ m, n = m + 1 := ⟨n - 1, by omega⟩
    exact .one hz ht (one_lf h hd ht hto)
  | nt h ih =>
    rename_i l o c ts
    intro n r p L post t hd ho hn hz ht hto
    obtain ⟨n, rfl⟩ : ∃ m, n = m + 1 := ⟨n - 1, by omega⟩
    obtain ⟨a1, _, a3⟩ := tok_at (show L.drop p = ("not" : Str) :: (ts ++ post) by rw [hd]; rfl)
    have e : p + (("not" : Str) :: ts).length = p + 1 + ts.length := by rw [List.length_cons]; omega
    rw [e] at ht ⊢
    exact .one hz ht (one_not (by omega) a1 ((ih n (r - 1) (p + 1) L post t a3 (by omega) (by omega) (by simp only [sz] at hz; omega) ht hto).1 (Nat.le_refl _)))
  | th h ih =>
    rename_i l o c ts
    intro n r p L post t hd ho hn hz ht hto
    obtain ⟨n, rfl⟩ : ∃ m, n = m + 1 := ⟨n - 1, by omega⟩
    obtain ⟨a1, _, a3⟩ := tok_at (show L.drop p = ("thread" : Str) :: (ts ++ post) by rw [hd]; rfl)
    have e : p + (("thread" : Str) :: ts).length = p + 1 + ts.length := by rw [List.length_cons]; omega
    rw [e] at ht ⊢
    exact .one hz ht (one_thr (by omega) a1 ((ih n (r - 1) (p + 1) L post t a3 (by omega) (by omega) (by simp only [sz] at hz; omega) ht hto).1 (Nat.le_refl _)))
  | br h ih =>
    rename_i l o c ts
    intro n r p L post t hd ho hn hz ht hto
    obtain ⟨n, rfl⟩ : ∃ m, n = m + 1 := ⟨n - 1, by omega⟩
    obtain ⟨a1, _, a3⟩ := tok_at (show L.drop p = ("(" : Str) :: (ts ++ ((")" : Str) :: post)) by rw [hd]; simp)
    obtain ⟨c1, _, _⟩ := tok_at (drop_app a3)
    have e : p + (("(" : Str) :: (ts ++ [(")" : Str)])).length = p + 1 + ts.length + 1 := by simp only [List.length_cons, List.length_append, List.length_nil]; omega
    rw [e] at ht ⊢
    exact .one hz ht (one_br (by omega) a1 (((ih n (r - 1) (p + 1) L _ _ a3 (by omega) (by omega) hz c1 (by decide +kernel)).2.2 rfl (by decide +kernel)).done hz c1 (by decide +kernel)) c1)
  | an hl h1 h2 ih1 ih2 =>
    rename_i l o a b x y
    intro n r p L post t hd ho hn hz ht hto
    have a3 : L.drop p = x ++ (("and" : Str) :: (y ++ post)) := by rw [hd]; simp
    obtain ⟨c1, _, c3⟩ := tok_at (drop_app a3)
    have e : p + (x ++ ("and" : Str) :: y).length = p + x.length + 1 + y.length := by simp only [List.length_cons, List.length_append]; omega
    rw [e] at ht ⊢
    simp only [sz] at hz
    have i1 := (ih1 n r p L _ _ a3 ho hn (by omega) c1 (by decide +kernel)).2.1 rfl
    have i2 := (ih2 n r (p + x.length + 1) L post t c3 ho hn (by omega) ht hto).1 (Nat.le_refl _)
    exact .bc hl (by simp only [sz]; omega) ht (i1.step c1 i2)
  | or_ h1 h2 ih1 ih2 =>
    rename_i o a b x y
    intro n r p L post t hd ho hn hz ht hto
    have a3 : L.drop p = x ++ (("or" : Str) :: (y ++ post)) := by rw [hd]; simp
    obtain ⟨c1, _, c3⟩ := tok_at (drop_app a3)
    have e : p + (x ++ ("or" : Str) :: y).length = p + x.length + 1 + y.length := by simp only [List.length_cons, List.length_append]; omega
    rw [e] at ht ⊢
    simp only [sz] at hz
    have i1 := (ih1 n r p L _ _ a3 ho hn (by omega) c1 (by decide +kernel)).2.2 rfl (by decide +kernel)
    refine ⟨fun h => absurd h (by omega), fun h => absurd h (by omega), fun _ hna => ?_⟩
    have i2 := (ih2 n r (p + x.length + 1) L post t c3 ho hn (by omega) ht hto).2.1 rfl
    exact i1.step c1 (i2.done (by omega) ht hna)
theorem read_sp {c : Cond} {o : Nat} {ts : List Str} (h : Spd 0 o c ts) (hz : sz c ≤ 62) (ho : o ≤ 40) (h30 : dep c ≤ 30) (h2 : thr c ≤ 2) {t : Str} (ht : Tk t.cps.toList ts) (hl : t.length ≤ 100000) : m_read_condition t = .ok c := by
  refine Ok.eq ?_
  unfold m_read_condition
  have e0 : m_token_at ts ((0 + ts.length : Nat) : Int) = .ok ("" : Str) := tok_end (by omega)
  have h1 := ((h.read 45 40 0 ts [] _ (by simp) (by omega) (by omega) hz e0 (by decide +kernel)).2.2 rfl (by decide +kernel)).done hz e0 (by decide +kernel)
  refine .bindE (ht.all hl) (.bindE (a := (c, ((0 + ts.length : Nat) : Int))) (Ok.eq ?_) (.ifF (by simp) (.ret rfl)))
  unfold m_whole_at
  refine .bindE h1 (.bindE (tree_tr 34 c (by omega)) (.bindE (deep_eq 34 c (by omega)) ?_))
  refine .bind (Q := fun z => z = false) (.ifF (by simp; omega) (.bindE (tdeep_eq 34 c (by omega)) (.ret (by simp; omega)))) fun z hz => .ifF (by rw [hz]; exact Bool.false_ne_true) (.ret rfl)
theorem eqA_int (i j : Int) : eqA (.int i) (.int j) = .ok (decide (i = j)) := by
  unfold eqA
  rw [R.need_pos (by rw [plA_int, plA_int, pdA_int, pdA_int]; exact ⟨rfl, rfl, rfl, rfl⟩), pdA_int, pdA_int]
  congr 1
theorem idx1 {α : Type} {x y : α} {r : List α} : idxR (x :: y :: r) 1 = .ok y := by
  obtain ⟨z, h1, _, h2⟩ := idxR_mem (xs := x :: y :: r) (i := 1) (by decide) (by simp only [List.length_cons]; omega)
  rw [h1]
  exact congrArg R.ok (Option.some.inj h2).symm
theorem idx2 {α : Type} {x y z : α} {r : List α} : idxR (x :: y :: z :: r) 2 = .ok z := by
  obtain ⟨u, h1, _, h2⟩ := idxR_mem (xs := x :: y :: z :: r) (i := 2) (by decide) (by simp only [List.length_cons]; omega)
  rw [h1]
  exact congrArg R.ok (Option.some.inj h2).symm
theorem NumT.num {i : Int} (h0 : 0 ≤ i) (h1 : i ≤ 9999) : NumT i (num i) := num_facts h0 h1
theorem zero_tl : ("0" : Str).cps.toList = [48] := by decide
theorem NumT.zero {i : Int} {s : Str} (h : NumT i s) (hl : s.length ≤ 3) : NumT i (("0" : Str) ++ s) := by
  obtain ⟨a, b, c, d⟩ := h
  have l : (("0" : Str) ++ s).length = 1 + s.length := by rw [len_app]; rfl
  have tl : (("0" : Str) ++ s).cps.toList = 48 :: s.cps.toList := by rw [tl_app, zero_tl]; rfl
  have a2 : ∀ c, c ∈ (("0" : Str) ++ s).cps.toList → 48 ≤ c ∧ c ≤ 57 := fun c hc => by
    rw [tl] at hc
    rcases List.mem_cons.mp hc with rfl | hc
    · decide
    · exact a c hc
  have n : s.cps.toList ≠ [] := fun e => by rw [len_tl, e] at b; exact absurd b (by decide)
  refine ⟨a2, by omega, by omega, ?_⟩
  have e1 := intText_digits a n (by omega)
  have e2 := intText_digits a2 (by rw [tl]; exact fun z => by cases z) (by omega)
  unfold intR at d ⊢
  rw [e1] at d
  rw [e2, tl]
  dsimp only at d ⊢
  have dv : NumText.digitsVal (48 :: s.cps.toList) = NumText.digitsVal s.cps.toList := by
    unfold NumText.digitsVal
    rw [List.foldl_cons]
  rw [R.need_pos (by omega)] at d
  rw [dv]
  exact (R.need_pos (by omega) _).trans d
theorem num_while {i c : Int} : ∀ (m : Nat) (s : Str), NumT i s → 4 - s.length < m → Ok (whileT m (fun (s3 : Str) =>
R.need ((s3).length ≤ sizeLine) <|
R.ok (decide (((s3).length : Int) < (1 + (c % 4))))) (fun (s3 : Str) =>
R.need ((("0" : Str)).length + (s3).length ≤ sizeLine) <|
(R.ok (("0" : Str) ++ s3 : Str)).bind fun y6 =>
R.ok (y6)) s) (NumT i)
  | 0, s, _, h => absurd h (by omega)
  | m + 1, s, hs, h => by
    have l := hs.2.2.1
    have e0 : ("0" : Str).length = 1 := by decide
    unfold whileT
    refine .bind (Q := fun b => b = true → s.length ≤ 3) (.need (le_line (by omega)) (.ret fun q => ?_)) fun b hb => .ite (fun q => ?_) fun _ => .ret hs
    · have q := of_decide_eq_true q
      have := Int.emod_lt_of_pos c (show (0 : Int) < 4 by decide)
      omega
    · have l3 := hb q
      refine .bind (Q := fun t => NumT i t ∧ t.length = s.length + 1) (.need (le_line (by omega)) (.lets (.ret ⟨hs.zero l3, by rw [len_app]; omega⟩))) fun t ht => num_while m t ht.1 (by omega)
theorem number_ok {i c : Int} (h0 : 0 ≤ i) (h1 : i ≤ 9999) : Ok (m_law_number i c) (NumT i) := by
  unfold m_law_number
  refine .need (num_log h0 h1) (.lets ?_)
  exact .bind (num_while 64 _ (.num h0 h1) (by omega)) fun s hs => .ret hs
theorem day_tokens_ok {a b c : Int} (g : Gd (.OnDays a b)) : Ok (m_law_day_tokens (tr (.OnDays a b)) c) (Lf (.OnDays a b)) := by
  obtain ⟨⟨a0, a1⟩, b0, b1⟩ := g
  unfold m_law_day_tokens tr
  refine .bindE rfl (.bindE idx1 (.bindE rfl (.bindE idx2 (.bindE (eqA_int a b) (.ite (fun q => ?_) fun _ => ?_)))))
  · rw [Bool.and_eq_true] at q
    have e := of_decide_eq_true q.1
    subst e
    exact .bindE rfl (.bind (number_ok a0 a1) fun s hs => .ret (.one hs))
  · refine .bindE (eqA_int a 0) (.bind (Q := fun v => v = true → a = 0 ∧ b < 9999) (.ite (fun q => .bindE rfl (.ret fun v => ?_)) fun _ => .ret fun z => absurd z Bool.false_ne_true) fun v hv => .ite (fun q => ?_) fun _ => ?_)
    · rw [Bool.and_eq_true] at v
      exact ⟨of_decide_eq_true q, of_decide_eq_true v.1⟩
    · obtain ⟨rfl, hb⟩ := hv q
      exact .bindE rfl (.bind (number_ok (by omega) (by omega)) fun s hs => .ret (.before hs b0))
    · refine .bindE (eqA_int b 9999) (.bind (Q := fun v => v = true → b = 9999 ∧ 0 < a) (.ite (fun q => .bindE rfl (.ret fun v => ?_)) fun _ => .ret fun z => absurd z Bool.false_ne_true) fun v hv => .ite (fun q => ?_) fun _ => ?_)
      · rw [Bool.and_eq_true] at v
        exact ⟨of_decide_eq_true q, of_decide_eq_true v.1⟩
      · obtain ⟨rfl, hb⟩ := hv q
        exact .bindE rfl (.bind (number_ok (by omega) (by omega)) fun s hs => .ret (.after hs a1))
      · exact .bindE rfl (.bind (number_ok a0 a1) fun s hs => .bindE rfl (.bind (number_ok b0 b1) fun t ht => .ret (.days hs ht)))
/-- a token without brackets -/
def Pl (t : Str) : Prop := t ≠ ("" : Str) ∧ t.length ≤ 20 ∧ ∀ c, c ∈ t.cps.toList → spc c = false
def Tg (t : Str) : Prop := t = ("(" : Str) ∨ t = (")" : Str) ∨ Pl t
theorem Pl.isW {w : Str} (h : isWord w = true) : Pl w := ⟨fun e => by
  have := (isWord_iff.mp h).2.1
  rw [e] at this
  have e0 : ("" : Str).length = 0 := by decide
  omega, (isWord_iff.mp h).2.2, fun c hc => wsg_spc ((isWord_iff.mp h).1 c hc)⟩
theorem Pl.num {i : Int} {s : Str} (h : NumT i s) : Pl s := ⟨fun e => by
  have := h.2.1
  rw [e] at this
  have e0 : ("" : Str).length = 0 := by decide
  omega, by have := h.2.2.1; omega, fun c hc => wsg_spc (by
    have := h.1 c hc
    unfold wsg
    simp; omega)⟩
theorem Pl.lit {w : Str} (h : (w.cps.toList.all fun c => !spc c) = true) (hn : w ≠ ("" : Str)) (hl : w.length ≤ 20) : Pl w := ⟨hn, hl, fun c hc => by simpa using List.all_eq_true.mp h c hc⟩
theorem Pl.kw : ∀ w, w ∈ [("any" : Str), ("word" : Str), ("title" : Str), ("from" : Str), ("in" : Str), ("marked" : Str), ("day" : Str), ("answers" : Str), ("not" : Str), ("thread" : Str), ("and" : Str), ("or" : Str), ("before" : Str), ("after" : Str), ("to" : Str)] → Pl w := by
  have h : ∀ w, w ∈ [("any" : Str), ("word" : Str), ("title" : Str), ("from" : Str), ("in" : Str), ("marked" : Str), ("day" : Str), ("answers" : Str), ("not" : Str), ("thread" : Str), ("and" : Str), ("or" : Str), ("before" : Str), ("after" : Str), ("to" : Str)] → ((w.cps.toList.all fun c => !spc c) = true ∧ w ≠ ("" : Str)) ∧ w.length ≤ 20 := by decide +kernel
  exact fun w hw => .lit (h w hw).1.1 (h w hw).1.2 (h w hw).2
theorem Lf.pl {c : Cond} {ts : List Str} (h : Lf c ts) : (∀ t, t ∈ ts → Pl t) ∧ ts.length ≤ 4 := by
  have k : ∀ w, w ∈ _ → Pl w := Pl.kw
  have two : ∀ {a b : Str}, Pl a → Pl b → ∀ t, t ∈ [a, b] → Pl t := fun ha hb t ht => by
    simp only [List.mem_cons, List.not_mem_nil, or_false] at ht
    rcases ht with rfl | rfl
    · exact ha
    · exact hb
  cases h with
  | any => exact ⟨fun t ht => k t (by rw [List.mem_singleton.mp ht]; simp), by decide⟩
  | ans => exact ⟨fun t ht => k t (by rw [List.mem_singleton.mp ht]; simp), by decide⟩
  | word h => exact ⟨two (k _ (by simp)) (.isW h), by simp⟩
  | title h => exact ⟨two (k _ (by simp)) (.isW h), by simp⟩
  | from_ h => exact ⟨two (k _ (by simp)) (.isW h), by simp⟩
  | in_ h => exact ⟨two (k _ (by simp)) (.isW h), by simp⟩
  | marked h => exact ⟨two (k _ (by simp)) (.isW h), by simp⟩
  | one f => exact ⟨two (k _ (by simp)) (.num f), by simp⟩
  | before f _ => exact ⟨two (k _ (by simp)) (.num f), by simp⟩
  | after f _ => exact ⟨two (k _ (by simp)) (.num f), by simp⟩
  | days f g =>
    refine ⟨fun t ht => ?_, by simp⟩
    simp only [List.mem_cons, List.not_mem_nil, or_false] at ht
    rcases ht with rfl | rfl | rfl | rfl
    · exact k _ (by simp)
    · exact .num f
    · exact k _ (by simp)
    · exact .num g
theorem Spd.down {l o : Nat} {c : Cond} {ts : List Str} (h : Spd l o c ts) {k : Nat} (hk : k ≤ l) : Spd k o c ts := by
  cases h with
  | lf h => exact .lf h
  | nt h => exact .nt h
  | th h => exact .th h
  | br h => exact .br h
  | an hl h1 h2 => exact .an (by omega) h1 h2
  | or_ h1 h2 => exact (by omega : k = 0) ▸ .or_ h1 h2
theorem Spd.wrap {o : Nat} {c : Cond} {ts : List Str} (h : Spd 0 o c ts) : ∀ (m l : Nat), Spd l (o + (m + 1)) c (Lw.wrap (m + 1) ts)
  | 0, l => .br h
  | m + 1, l => .br (h.wrap m 0)
/-- what the tokens of a tree are; s.2: how closely they hold together -/
def Big (c : Cond) (s : List Str × Int) : Prop := (s.2 = 0 ∨ s.2 = 1 ∨ s.2 = 2) ∧ (∀ o, 3 * dep c ≤ o + 2 → Spd s.2.toNat o c s.1) ∧ s.1.length + 4 ≤ 8 * sz c ∧ ∀ t, t ∈ s.1 → Tg t
def Tks (c : Cond) (close : Int) (ts : List Str) : Prop := (∀ o, 3 * dep c ≤ o → Spd close.toNat o c ts) ∧ ts.length ≤ 8 * sz c ∧ ∀ t, t ∈ ts → Tg t
theorem Big.leaf {c : Cond} {ts : List Str} (h : Lf c ts) : Big c (ts, 2) := ⟨.inr (.inr rfl), fun o _ => .lf h, by have := h.pl.2; have := sz_pos c; dsimp only; omega, fun t ht => .inr (.inr (h.pl.1 t ht))⟩
theorem Big.nt {c : Cond} {ts : List Str} (h : Tks c 2 ts) : Big (.NotSo c) ([("not" : Str)] ++ ts, 2) := ⟨.inr (.inr rfl), fun o ho => by
  simp only [dep] at ho
  obtain ⟨o, rfl⟩ : ∃ k, o = k + 1 := ⟨o - 1, by omega⟩
  exact .nt (h.1 o (by omega)), by have := h.2.1; simp only [sz, List.length_append, List.length_singleton]; omega, fun t ht => by
  rcases List.mem_append.mp ht with ht | ht
  · exact .inr (.inr (Pl.kw t (by rw [List.mem_singleton.mp ht]; simp)))
  · exact h.2.2 t ht⟩
theorem Big.th {c : Cond} {ts : List Str} (h : Tks c 2 ts) : Big (.InThread c) ([("thread" : Str)] ++ ts, 2) := ⟨.inr (.inr rfl), fun o ho => by
  simp only [dep] at ho
  obtain ⟨o, rfl⟩ : ∃ k, o = k + 1 := ⟨o - 1, by omega⟩
  exact .th (h.1 o (by omega)), by have := h.2.1; simp only [sz, List.length_append, List.length_singleton]; omega, fun t ht => by
  rcases List.mem_append.mp ht with ht | ht
  · exact .inr (.inr (Pl.kw t (by rw [List.mem_singleton.mp ht]; simp)))
  · exact h.2.2 t ht⟩
theorem tg_mid {x y : List Str} {k : Str} (hx : ∀ t, t ∈ x → Tg t) (hy : ∀ t, t ∈ y → Tg t) (hk : Pl k) : ∀ t, t ∈ (x ++ [k]) ++ y → Tg t := fun t ht => by
  rcases List.mem_append.mp ht with ht | ht
  · rcases List.mem_append.mp ht with ht | ht
    · exact hx t ht
    · rw [List.mem_singleton.mp ht]; exact .inr (.inr hk)
  · exact hy t ht
theorem Big.an {a b : Cond} {x y : List Str} (h : Tks a 1 x) (h2 : Tks b 2 y) : Big (.BothSo a b) ((x ++ [("and" : Str)]) ++ y, 1) := ⟨.inr (.inl rfl), fun o ho => by
  simp only [dep] at ho
  show Spd 1 o _ ((x ++ [("and" : Str)]) ++ y)
  rw [List.append_assoc]
  exact .an (Nat.le_refl _) (h.1 o (by omega)) (h2.1 o (by omega)), by have := h.2.1; have := h2.2.1; simp only [sz, List.length_append, List.length_singleton]; omega, tg_mid h.2.2 h2.2.2 (Pl.kw _ (by simp))⟩
theorem Big.or_ {a b : Cond} {x y : List Str} (h : Tks a 0 x) (h2 : Tks b 1 y) : Big (.EitherSo a b) ((x ++ [("or" : Str)]) ++ y, 0) := ⟨.inl rfl, fun o ho => by
  simp only [dep] at ho
  show Spd 0 o _ ((x ++ [("or" : Str)]) ++ y)
  rw [List.append_assoc]
  exact .or_ (h.1 o (by omega)) (h2.1 o (by omega)), by have := h.2.1; have := h2.2.1; simp only [sz, List.length_append, List.length_singleton]; omega, tg_mid h.2.2 h2.2.2 (Pl.kw _ (by simp))⟩
theorem big_ok {f : Any → Int → List Int → Int → R (List Str)} (c : Cond) {l : List Int} {x y4 : Int} (g : Gc c) (d : Gd c) (hz : sz c ≤ 60)
    (ih : ∀ (a : Cond) (cl x' : Int), sz a < sz c → dep a < dep c → Gc a → Gd a → 0 ≤ cl → cl ≤ 2 → x' = x + 1 ∨ x' = x + 2 → Ok (f (tr a) cl l x') (Tks a cl)) {K : List Str × Int → R (List Str)} {P : List Str → Prop} (hK : ∀ s, Big c s → Ok (K s) P) :
    Ok ((Any.asTup (tr c)).bind fun xs5 =>
(idxR xs5 (0)).bind fun x7 =>
(eqA x7 (Any.str ("not" : Str))).bind fun b16 =>
(if b16 = true then R.ok true else (
(Any.asTup (tr c)).bind fun xs18 =>
(idxR xs18 (0)).bind fun x20 =>
(eqA x20 (Any.str ("thread" : Str))).bind fun b29 =>
R.ok (b29))).bind fun b17 =>
(if b17 = true then (
(Any.asTup (tr c)).bind fun xs32 =>
(idxR xs32 (0)).bind fun x34 =>
(Any.asStr x34).bind fun s45 =>
(Any.asTup (tr c)).bind fun xs48 =>
(idxR xs48 (1)).bind fun x50 =>
(f x50 2 l (x + 1)).bind fun r60 =>
R.need (([s45]).length + r60.length ≤ sizeLine) <|
(R.ok (([s45]) ++ r60 : (List Str))).bind fun y64 =>
R.ok (y64, 2)) else (
(Any.asTup (tr c)).bind fun xs65 =>
(idxR xs65 (0)).bind fun x67 =>
(eqA x67 (Any.str ("both" : Str))).bind fun b76 =>
(if b76 = true then (
(Any.asTup (tr c)).bind fun xs79 =>
(idxR xs79 (1)).bind fun x81 =>
(f x81 1 l (x + 1)).bind fun r91 =>
R.need (r91.length + ([("and" : Str)]).length ≤ sizeLine) <|
(Any.asTup (tr c)).bind fun xs96 =>
(idxR xs96 (2)).bind fun x98 =>
(f x98 2 l (x + 2)).bind fun r108 =>
R.need ((r91 ++ ([("and" : Str)])).length + r108.length ≤ sizeLine) <|
(R.ok ((r91 ++ ([("and" : Str)])) ++ r108 : (List Str))).bind fun y112 =>
R.ok (y112, 1)) else (
(Any.asTup (tr c)).bind fun xs113 =>
(idxR xs113 (0)).bind fun x115 =>
(eqA x115 (Any.str ("either" : Str))).bind fun b124 =>
(if b124 = true then (
(Any.asTup (tr c)).bind fun xs127 =>
(idxR xs127 (1)).bind fun x129 =>
(f x129 0 l (x + 1)).bind fun r139 =>
R.need (r139.length + ([("or" : Str)]).length ≤ sizeLine) <|
(Any.asTup (tr c)).bind fun xs144 =>
(idxR xs144 (2)).bind fun x146 =>
(f x146 1 l (x + 2)).bind fun r156 =>
R.need ((r139 ++ ([("or" : Str)])).length + r156.length ≤ sizeLine) <|
(R.ok ((r139 ++ ([("or" : Str)])) ++ r156 : (List Str))).bind fun y160 =>
R.ok (y160, 0)) else (
(Any.asTup (tr c)).bind fun xs161 =>
(idxR xs161 (0)).bind fun x163 =>
(eqA x163 (Any.str ("day" : Str))).bind fun b172 =>
(if b172 = true then (
(m_law_day_tokens (tr c) (y4 / 7)).bind fun r175 =>
R.ok (r175, 2)) else (
(Any.asStrs (tr c)).bind fun ss178 =>
R.ok (ss178, 2))).bind fun (s173 : (List Str) × Int) =>
R.ok (s173.1, s173.2))).bind fun (s125 : (List Str) × Int) =>
R.ok (s125.1, s125.2))).bind fun (s77 : (List Str) × Int) =>
R.ok (s77.1, s77.2))).bind K) P := by
  cases c with
  | Anything =>
    refine .bindE rfl (.bindE idx0 (.bindE q0_8 (.bind (Q := fun z => z = false) (.ifF (by simp) (.bindE rfl (.bindE idx0 (.bindE q0_9 (.ret rfl))))) fun z hv => ?_)))
    subst hv
    exact .bind (Q := Big (.Anything)) (.ifF (by simp) (.bindE rfl (.bindE idx0 (.bindE q0_10 (.bind (Q := Big (.Anything)) (.ifF (by simp) (.bindE rfl (.bindE idx0 (.bindE q0_11 (.bind (Q := Big (.Anything)) (.ifF (by simp) (.bindE rfl (.bindE idx0 (.bindE q0_6 (.bind (Q := Big (.Anything)) (.ifF (by simp) (.bindE rfl (.ret (.leaf (.any))))) fun s hs => .ret hs))))) fun s hs => .ret hs))))) fun s hs => .ret hs))))) fun s hs => hK s hs
  | HasWord w =>
    refine .bindE rfl (.bindE idx0 (.bindE q1_8 (.bind (Q := fun z => z = false) (.ifF (by simp) (.bindE rfl (.bindE idx0 (.bindE q1_9 (.ret rfl))))) fun z hv => ?_)))
    subst hv
    exact .bind (Q := Big (.HasWord w)) (.ifF (by simp) (.bindE rfl (.bindE idx0 (.bindE q1_10 (.bind (Q := Big (.HasWord w)) (.ifF (by simp) (.bindE rfl (.bindE idx0 (.bindE q1_11 (.bind (Q := Big (.HasWord w)) (.ifF (by simp) (.bindE rfl (.bindE idx0 (.bindE q1_6 (.bind (Q := Big (.HasWord w)) (.ifF (by simp) (.bindE rfl (.ret (.leaf (.word g))))) fun s hs => .ret hs))))) fun s hs => .ret hs))))) fun s hs => .ret hs))))) fun s hs => hK s hs
  | InTitle w =>
    refine .bindE rfl (.bindE idx0 (.bindE q2_8 (.bind (Q := fun z => z = false) (.ifF (by simp) (.bindE rfl (.bindE idx0 (.bindE q2_9 (.ret rfl))))) fun z hv => ?_)))
    subst hv
    exact .bind (Q := Big (.InTitle w)) (.ifF (by simp) (.bindE rfl (.bindE idx0 (.bindE q2_10 (.bind (Q := Big (.InTitle w)) (.ifF (by simp) (.bindE rfl (.bindE idx0 (.bindE q2_11 (.bind (Q := Big (.InTitle w)) (.ifF (by simp) (.bindE rfl (.bindE idx0 (.bindE q2_6 (.bind (Q := Big (.InTitle w)) (.ifF (by simp) (.bindE rfl (.ret (.leaf (.title g))))) fun s hs => .ret hs))))) fun s hs => .ret hs))))) fun s hs => .ret hs))))) fun s hs => hK s hs
  | FromSender w =>
    refine .bindE rfl (.bindE idx0 (.bindE q3_8 (.bind (Q := fun z => z = false) (.ifF (by simp) (.bindE rfl (.bindE idx0 (.bindE q3_9 (.ret rfl))))) fun z hv => ?_)))
    subst hv
    exact .bind (Q := Big (.FromSender w)) (.ifF (by simp) (.bindE rfl (.bindE idx0 (.bindE q3_10 (.bind (Q := Big (.FromSender w)) (.ifF (by simp) (.bindE rfl (.bindE idx0 (.bindE q3_11 (.bind (Q := Big (.FromSender w)) (.ifF (by simp) (.bindE rfl (.bindE idx0 (.bindE q3_6 (.bind (Q := Big (.FromSender w)) (.ifF (by simp) (.bindE rfl (.ret (.leaf (.from_ g))))) fun s hs => .ret hs))))) fun s hs => .ret hs))))) fun s hs => .ret hs))))) fun s hs => hK s hs
  | InFolder w =>
    refine .bindE rfl (.bindE idx0 (.bindE q4_8 (.bind (Q := fun z => z = false) (.ifF (by simp) (.bindE rfl (.bindE idx0 (.bindE q4_9 (.ret rfl))))) fun z hv => ?_)))
    subst hv
    exact .bind (Q := Big (.InFolder w)) (.ifF (by simp) (.bindE rfl (.bindE idx0 (.bindE q4_10 (.bind (Q := Big (.InFolder w)) (.ifF (by simp) (.bindE rfl (.bindE idx0 (.bindE q4_11 (.bind (Q := Big (.InFolder w)) (.ifF (by simp) (.bindE rfl (.bindE idx0 (.bindE q4_6 (.bind (Q := Big (.InFolder w)) (.ifF (by simp) (.bindE rfl (.ret (.leaf (.in_ g))))) fun s hs => .ret hs))))) fun s hs => .ret hs))))) fun s hs => .ret hs))))) fun s hs => hK s hs
  | IsMarked w =>
    refine .bindE rfl (.bindE idx0 (.bindE q5_8 (.bind (Q := fun z => z = false) (.ifF (by simp) (.bindE rfl (.bindE idx0 (.bindE q5_9 (.ret rfl))))) fun z hv => ?_)))
    subst hv
    exact .bind (Q := Big (.IsMarked w)) (.ifF (by simp) (.bindE rfl (.bindE idx0 (.bindE q5_10 (.bind (Q := Big (.IsMarked w)) (.ifF (by simp) (.bindE rfl (.bindE idx0 (.bindE q5_11 (.bind (Q := Big (.IsMarked w)) (.ifF (by simp) (.bindE rfl (.bindE idx0 (.bindE q5_6 (.bind (Q := Big (.IsMarked w)) (.ifF (by simp) (.bindE rfl (.ret (.leaf (.marked g))))) fun s hs => .ret hs))))) fun s hs => .ret hs))))) fun s hs => .ret hs))))) fun s hs => hK s hs
  | OnDays a b =>
    refine .bindE rfl (.bindE idx0 (.bindE q6_8 (.bind (Q := fun z => z = false) (.ifF (by simp) (.bindE rfl (.bindE idx0 (.bindE q6_9 (.ret rfl))))) fun z hv => ?_)))
    subst hv
    exact .bind (Q := Big (.OnDays a b)) (.ifF (by simp) (.bindE rfl (.bindE idx0 (.bindE q6_10 (.bind (Q := Big (.OnDays a b)) (.ifF (by simp) (.bindE rfl (.bindE idx0 (.bindE q6_11 (.bind (Q := Big (.OnDays a b)) (.ifF (by simp) (.bindE rfl (.bindE idx0 (.bindE q6_6 (.bind (Q := Big (.OnDays a b)) (.ifT (by simp) (.bind (day_tokens_ok d) fun r hr => .ret (.leaf hr))) fun s hs => .ret hs))))) fun s hs => .ret hs))))) fun s hs => .ret hs))))) fun s hs => hK s hs
  | IsAnswer =>
    refine .bindE rfl (.bindE idx0 (.bindE q7_8 (.bind (Q := fun z => z = false) (.ifF (by simp) (.bindE rfl (.bindE idx0 (.bindE q7_9 (.ret rfl))))) fun z hv => ?_)))
    subst hv
    exact .bind (Q := Big (.IsAnswer)) (.ifF (by simp) (.bindE rfl (.bindE idx0 (.bindE q7_10 (.bind (Q := Big (.IsAnswer)) (.ifF (by simp) (.bindE rfl (.bindE idx0 (.bindE q7_11 (.bind (Q := Big (.IsAnswer)) (.ifF (by simp) (.bindE rfl (.bindE idx0 (.bindE q7_6 (.bind (Q := Big (.IsAnswer)) (.ifF (by simp) (.bindE rfl (.ret (.leaf (.ans))))) fun s hs => .ret hs))))) fun s hs => .ret hs))))) fun s hs => .ret hs))))) fun s hs => hK s hs
  | NotSo c =>
    refine .bindE rfl (.bindE idx0 (.bindE q8_8 (.bind (Q := fun z => z = true) (.ifT rfl (.ret rfl)) fun z hv => ?_)))
    subst hv
    exact .bind (Q := Big (.NotSo c)) (.ifT rfl (.bindE rfl (.bindE idx0 (.bindE rfl (.bindE rfl (.bindE idx1 (.bind (ih c 2 _ (by simp only [sz]; omega) (by simp only [dep]; omega) g d (by decide) (by decide) (.inl rfl)) fun r hr => .need (le_line (by have := hr.2.1; simp only [sz, List.length_singleton] at hz ⊢; omega)) (.lets (.ret (.nt hr)))))))))) fun s hs => hK s hs
  | InThread c =>
    refine .bindE rfl (.bindE idx0 (.bindE q9_8 (.bind (Q := fun z => z = true) (.ifF (by simp) (.bindE rfl (.bindE idx0 (.bindE q9_9 (.ret rfl))))) fun z hv => ?_)))
    subst hv
    exact .bind (Q := Big (.InThread c)) (.ifT rfl (.bindE rfl (.bindE idx0 (.bindE rfl (.bindE rfl (.bindE idx1 (.bind (ih c 2 _ (by simp only [sz]; omega) (by simp only [dep]; omega) g d (by decide) (by decide) (.inl rfl)) fun r hr => .need (le_line (by have := hr.2.1; simp only [sz, List.length_singleton] at hz ⊢; omega)) (.lets (.ret (.th hr)))))))))) fun s hs => hK s hs
  | BothSo a b =>
    refine .bindE rfl (.bindE idx0 (.bindE q10_8 (.bind (Q := fun z => z = false) (.ifF (by simp) (.bindE rfl (.bindE idx0 (.bindE q10_9 (.ret rfl))))) fun z hv => ?_)))
    subst hv
    exact .bind (Q := Big (.BothSo a b)) (.ifF (by simp) (.bindE rfl (.bindE idx0 (.bindE q10_10 (.bind (Q := Big (.BothSo a b)) (.ifT rfl (.bindE rfl (.bindE idx1 (.bind (ih a 1 _ (by simp only [sz]; have := sz_pos b; omega) (by simp only [dep]; omega) g.1 d.1 (by decide) (by decide) (.inl rfl)) fun r hr => .need (le_line (by have := hr.2.1; simp only [sz, List.length_singleton] at hz ⊢; omega)) (.bindE rfl (.bindE idx2 (.bind (ih b 2 _ (by simp only [sz]; have := sz_pos a; omega) (by simp only [dep]; omega) g.2 d.2 (by decide) (by decide) (.inr rfl)) fun r2 hr2 => .need (le_line (by have := hr.2.1; have := hr2.2.1; simp only [sz, List.length_append, List.length_singleton] at hz ⊢; omega)) (.lets (.ret (.an hr hr2)))))))))) fun s hs => .ret hs))))) fun s hs => hK s hs
  | EitherSo a b =>
    refine .bindE rfl (.bindE idx0 (.bindE q11_8 (.bind (Q := fun z => z = false) (.ifF (by simp) (.bindE rfl (.bindE idx0 (.bindE q11_9 (.ret rfl))))) fun z hv => ?_)))
    subst hv
    exact .bind (Q := Big (.EitherSo a b)) (.ifF (by simp) (.bindE rfl (.bindE idx0 (.bindE q11_10 (.bind (Q := Big (.EitherSo a b)) (.ifF (by simp) (.bindE rfl (.bindE idx0 (.bindE q11_11 (.bind (Q := Big (.EitherSo a b)) (.ifT rfl (.bindE rfl (.bindE idx1 (.bind (ih a 0 _ (by simp only [sz]; have := sz_pos b; omega) (by simp only [dep]; omega) g.1 d.1 (by decide) (by decide) (.inl rfl)) fun r hr => .need (le_line (by have := hr.2.1; simp only [sz, List.length_singleton] at hz ⊢; omega)) (.bindE rfl (.bindE idx2 (.bind (ih b 1 _ (by simp only [sz]; have := sz_pos a; omega) (by simp only [dep]; omega) g.2 d.2 (by decide) (by decide) (.inr rfl)) fun r2 hr2 => .need (le_line (by have := hr.2.1; have := hr2.2.1; simp only [sz, List.length_append, List.length_singleton] at hz ⊢; omega)) (.lets (.ret (.or_ hr hr2)))))))))) fun s hs => .ret hs))))) fun s hs => .ret hs))))) fun s hs => hK s hs
theorem wrap_tg {ts : List Str} (h : ∀ t, t ∈ ts → Tg t) : ∀ m : Nat, ∀ t, t ∈ wrap m ts → Tg t
  | 0 => h
  | m + 1 => fun t ht => by
    rcases List.mem_cons.mp ht with rfl | ht
    · exact .inl rfl
    · rcases List.mem_append.mp ht with ht | ht
      · exact wrap_tg h m t ht
      · exact .inr (.inl (List.mem_singleton.mp ht))
theorem tokens_ok : ∀ (n : Nat) (c : Cond) (cl x : Int) (l : List Int), dep c ≤ n → Gc c → Gd c → sz c ≤ 60 → 0 ≤ cl → cl ≤ 2 → 0 < l.length → 0 ≤ x → x + 2 * dep c ≤ 1000 → Ok (m_law_tokens n (tr c) cl l x) (Tks c cl)
  | 0, c, _, _, _, h, _, _, _, _, _, _, _, _ => absurd (dep_pos c) (by omega)
  | n + 1, c, cl, x, l, h, g, d, hz, c0, c2, hl, x0, x1 => by
    show Ok (m_law_tokens_b (m_law_tokens n) (tr c) cl l x) _
    unfold m_law_tokens_b
    refine .need (by omega) (.idx (Int.emod_nonneg _ (by omega)) (Int.emod_lt_of_pos _ (by omega)) fun v _ _ => .need (by omega) (.lets ?_))
    refine big_ok c g d hz (fun a cl' x' s1 d1 ga gd k0 k2 hx => tokens_ok n a cl' x' l (by omega) ga gd (by omega) k0 k2 hl (by omega) (by omega)) fun s hs => ?_
    obtain ⟨s1, s2⟩ := s
    obtain ⟨hv, hsp, hln, htg⟩ := hs
    dsimp only at hv hsp hln htg ⊢
    have hn : ∃ k : Nat, ((if (decide (s2 < cl)) = true then 1 else 0) + (if (decide ((v / (1 + x)) % 5 = 1)) = true then 1 else 0) : Int) = (k : Int) ∧ k ≤ 2 ∧ (k = 0 → cl ≤ s2) := by
      by_cases h1 : s2 < cl
      · rw [if_pos (decide_eq_true h1)]
        by_cases h2 : (v / (1 + x)) % 5 = 1
        · rw [if_pos (decide_eq_true h2)]; exact ⟨2, by decide, by decide, fun h => absurd h (by decide)⟩
        · rw [if_neg (by simpa using h2)]; exact ⟨1, by decide, by decide, fun h => absurd h (by decide)⟩
      · rw [if_neg (by simpa using h1)]
        by_cases h2 : (v / (1 + x)) % 5 = 1
        · rw [if_pos (decide_eq_true h2)]; exact ⟨1, by decide, by decide, fun h => absurd h (by decide)⟩
        · rw [if_neg (by simpa using h2)]; exact ⟨0, by decide, by decide, fun _ => by omega⟩
    obtain ⟨k, ek, k2, kz⟩ := hn
    rw [ek]
    refine .need (by omega) ?_
    refine .forI (fun pre s => s = wrap pre.length s1) rfl ?_ ?_
    · rintro p y q s ep rfl
      have hp := pre_lt ep
      rw [rngL_len, Int.toNat_natCast] at hp
      refine .need (le_line (by rw [wrap_len, List.length_singleton]; omega)) (.need (le_line (by rw [List.length_append, wrap_len, List.length_singleton, List.length_singleton]; omega)) (.lets (.ret ?_)))
      rw [List.length_append, List.length_singleton]
      show _ = ("(" : Str) :: (wrap p.length s1 ++ [(")" : Str)])
      rfl
    · rintro s rfl
      rw [rngL_len, Int.toNat_natCast]
      refine .ret ⟨fun o ho => ?_, by rw [wrap_len]; omega, wrap_tg htg k⟩
      have dp := dep_pos c
      obtain rfl | rfl | rfl : k = 0 ∨ k = 1 ∨ k = 2 := by omega
      · exact (hsp o (by omega)).down (by have := kz rfl; omega)
      · obtain ⟨o, rfl⟩ : ∃ j, o = j + (0 + 1) := ⟨o - 1, by omega⟩
        exact ((hsp o (by omega)).down (Nat.zero_le _)).wrap 0 _
      · obtain ⟨o, rfl⟩ : ∃ j, o = j + (1 + 1) := ⟨o - 2, by omega⟩
        exact ((hsp o (by omega)).down (Nat.zero_le _)).wrap 1 _
/-- the state of the reading: the tokens so far, the last of them still open where it is a plain one -/
def Jn (f : List Str) (l : List Nat) (ts : List Str) (last : Str) : Prop :=
  (Pl last ∧ ∃ i, ts = i ++ [last] ∧ l.foldl stepT (f, ("" : Str)) = (f ++ i, last)) ∨ ((last = ("(" : Str) ∨ last = (")" : Str)) ∧ l.foldl stepT (f, ("" : Str)) = (f ++ ts, ("" : Str)))
theorem Jn.flu {f : List Str} {l : List Nat} {ts : List Str} {t : Str} (h : Jn f l ts t) : flu (l.foldl stepT (f, ("" : Str))) = f ++ ts := by
  rcases h with ⟨hp, i, e, h⟩ | ⟨_, h⟩
  · rw [h]
    unfold Lw.flu
    rw [if_neg hp.1, e, List.append_assoc]
  · rw [h, flu_nil]
/-- blanks -/
theorem blanks {f : List Str} {l : List Nat} {ts : List Str} (h : Lw.flu (l.foldl stepT (f, ("" : Str))) = f ++ ts) : ∀ n : Nat, (l ++ List.replicate (n + 1) 32).foldl stepT (f, ("" : Str)) = (f ++ ts, ("" : Str))
  | 0 => by
    rw [List.foldl_append]
    show stepT _ 32 = _
    rw [stepT_sp (by decide +kernel), if_pos rfl, h]
  | n + 1 => by
    rw [List.replicate_succ', ← List.append_assoc, List.foldl_append, blanks h n]
    show stepT _ 32 = _
    rw [stepT_sp (by decide +kernel), if_pos rfl, flu_nil]
theorem put_pl {f : List Str} {l : List Nat} {ts : List Str} {t : Str} (h : l.foldl stepT (f, ("" : Str)) = (f ++ ts, ("" : Str))) (hp : Pl t) : Jn f (l ++ t.cps.toList) (ts ++ [t]) t := by
  refine .inl ⟨hp, ts, rfl, ?_⟩
  rw [List.foldl_append, h, plain_run _ hp.2.2]
  refine Prod.ext rfl (str_ext ?_)
  dsimp only
  rw [tl_app]
  rfl
theorem br_tl : ("(" : Str).cps.toList = [40] ∧ (")" : Str).cps.toList = [41] := by decide
theorem put_br {f : List Str} {l : List Nat} {ts : List Str} {t : Str} (h : Lw.flu (l.foldl stepT (f, ("" : Str))) = f ++ ts) (ht : t = ("(" : Str) ∨ t = (")" : Str)) : Jn f (l ++ t.cps.toList) (ts ++ [t]) t := by
  refine .inr ⟨ht, ?_⟩
  rw [List.foldl_append]
  rcases ht with rfl | rfl
  · rw [br_tl.1]
    show stepT _ 40 = _
    rw [stepT_sp (by decide +kernel), if_neg (by decide), h, List.append_assoc]
    exact Prod.ext (congrArg (fun z => f ++ (ts ++ [z])) (by decide +kernel)) rfl
  · rw [br_tl.2]
    show stepT _ 41 = _
    rw [stepT_sp (by decide +kernel), if_neg (by decide), h, List.append_assoc]
    exact Prod.ext (congrArg (fun z => f ++ (ts ++ [z])) (by decide +kernel)) rfl
/-- one token more, behind n blanks: at least one between two plain ones -/
theorem Jn.put {f : List Str} {l : List Nat} {ts : List Str} {t u : Str} (h : Jn f l ts t) (hu : Tg u) {n : Nat} (hn : n = 0 → Pl t → Pl u → False) : Jn f ((l ++ List.replicate n 32) ++ u.cps.toList) (ts ++ [u]) u := by
  have b : Pl u ∨ (u = ("(" : Str) ∨ u = (")" : Str)) := by
    rcases hu with h | h | h
    · exact .inr (.inl h)
    · exact .inr (.inr h)
    · exact .inl h
  cases n with
  | succ n =>
    have e := blanks h.flu n
    rcases b with b | b
    · exact put_pl e b
    · exact put_br (by rw [e, flu_nil]) b
  | zero =>
    rw [List.replicate_zero, List.append_nil]
    rcases b with b | b
    · rcases h with ⟨hp, _⟩ | ⟨_, h⟩
      · exact (hn rfl hp b).elim
      · exact put_pl h b
    · exact put_br h.flu b
theorem spc_br {c : Nat} (h : c = 40 ∨ c = 41 ∨ c = 44) : spc c = true := by
  have e : ((" ()," : Str)).cps.toList = [32, 40, 41, 44] := by decide +kernel
  unfold spc
  rw [e]
  rcases h with rfl | rfl | rfl <;> decide
theorem Pl.no {t : Str} (h : Pl t) : t ∉ [("(" : Str), (")" : Str), ("," : Str)] := fun m => by
  have e : ("(" : Str).cps.toList = [40] ∧ (")" : Str).cps.toList = [41] ∧ ("," : Str).cps.toList = [44] := by decide
  have k : ∀ {c : Nat}, spc c = true → c ∈ t.cps.toList → False := fun hc hm => by rw [h.2.2 _ hm] at hc; exact Bool.false_ne_true hc
  simp only [List.mem_cons, List.not_mem_nil, or_false] at m
  rcases m with rfl | rfl | rfl
  · exact k (spc_br (.inl rfl)) (by rw [e.1]; simp)
  · exact k (spc_br (.inr (.inl rfl))) (by rw [e.2.1]; simp)
  · exact k (spc_br (.inr (.inr rfl))) (by rw [e.2.2]; simp)
theorem Tg.len {t : Str} (h : Tg t) : t.length ≤ 20 := by
  rcases h with rfl | rfl | h
  · decide
  · decide
  · exact h.2.1
theorem joined_ok {ts : List Str} {l : List Int} (hl : 0 < l.length) (hts : ∀ t, t ∈ ts → Tg t) (hn : ts.length ≤ 1000) : Ok (m_law_joined ts l) fun s => s.length ≤ 30 * ts.length ∧ Tk s.cps.toList ts := by
  unfold m_law_joined
  refine .need (le_line (by omega)) ?_
  refine .forI (fun pre (s : Str × Str) => s.1.length ≤ 30 * pre.length ∧ ∀ f, Jn f s.1.cps.toList (ts.take pre.length) s.2) ⟨by decide, fun f => .inr ⟨.inl rfl, by simp [show ("" : Str).cps.toList = [] by decide]⟩⟩ ?_ ?_
  · rintro p x q ⟨s, t⟩ ep ⟨hs, hj⟩
    have hp := pre_lt ep
    rw [rngL_len, Int.toNat_natCast] at hp
    have ex : x = (p.length : Int) := by have := (rngL_get (i := p.length) (x := x) (by rw [ep]; simp)).1; omega
    subst ex
    dsimp only at hs hj ⊢
    refine .need (by omega) (.idx (Int.emod_nonneg _ (by omega)) (Int.emod_lt_of_pos _ (by omega)) fun v _ _ => .need (by omega) (.lets ?_))
    have y0 := Int.emod_nonneg (v / (3 + (p.length : Int))) (show (3 : Int) ≠ 0 by decide)
    have y1 := Int.emod_lt_of_pos (v / (3 + (p.length : Int))) (show (0 : Int) < 3 by decide)
    generalize (v / (3 + (p.length : Int))) % 3 = y at *
    obtain ⟨u, hu, mu, gu⟩ := idxR_mem (xs := ts) (i := (p.length : Int)) (by omega) (by omega)
    rw [Int.toNat_natCast] at gu
    have tu := hts u mu
    have lu := tu.len
    refine .bind (Q := fun b => b = false → y = 0 → Pl t → Pl u → False) (.ite (fun c => ?_) fun c => .ret fun _ e => absurd (decide_eq_true e) c) fun b hb => ?_
    · refine .bind (Q := fun b => b = false → y = 0 → Pl t → Pl u → False) (.ite (fun c2 => .bindE hu (.ret fun e _ _ pu => ?_)) fun c2 => .ret fun _ _ pt _ => ?_) fun b hb => .ret hb
      · have := pu.no
        simp only [Bool.not_eq_false', decide_eq_true_eq] at e
        exact this e
      · have := pt.no
        simp only [Bool.not_eq_true', decide_eq_false_iff_not, Decidable.not_not] at c2
        exact this c2
    · refine .bind (Q := fun z : Int => 0 ≤ z ∧ z ≤ 2 ∧ (z = 0 → Pl t → Pl u → False)) (.ite (fun _ => .ret ⟨by decide, by decide, fun e => absurd e (by decide)⟩) fun c => .ret ⟨y0, by omega, hb (by simpa using c)⟩) fun z hz => ?_
      obtain ⟨n, rfl⟩ : ∃ n : Nat, z = (n : Int) := ⟨z.toNat, by omega⟩
      obtain ⟨_, z2, z3⟩ := hz
      have sp := rep_one 32 (" " : Str) (by decide +kernel) n
      have ln : (repS (" " : Str) n).length = n := by rw [len_tl, sp, List.length_replicate]
      have n1 : (" " : Str).length * n ≤ sizeLine := le_line (by show 1 * n ≤ _; omega)
      refine .need ⟨n1, by omega, by omega⟩ (.need (le_line (by rw [Int.toNat_natCast, ln]; omega)) (.bindE hu (.need (le_line (by rw [Int.toNat_natCast, len_app, ln]; omega)) (.lets (.bindE hu (.ret ⟨?_, fun f => ?_⟩))))))
      · dsimp only
        rw [Int.toNat_natCast, len_app, len_app, ln, List.length_append, List.length_singleton]; omega
      · dsimp only
        rw [Int.toNat_natCast, tl_app, tl_app, sp, List.length_append, List.length_singleton]
        have et : ts.take (p.length + 1) = ts.take p.length ++ [u] := by
          rw [List.take_add_one, gu]; rfl
        rw [et]
        exact (hj f).put tu (fun e => z3 (by omega))
  · rintro ⟨s, t⟩ ⟨hs, hj⟩
    rw [rngL_len, Int.toNat_natCast] at hs hj
    rw [List.take_length] at hj
    exact .ret ⟨hs, fun f => (hj f).flu⟩
theorem Tk.after {l : List Nat} {ts : List Str} (h : Tk l ts) : ∀ n : Nat, Tk (l ++ List.replicate n 32) ts
  | 0 => by simpa using h
  | n + 1 => fun f => by rw [blanks (h f) n, flu_nil]
theorem Tk.ahead {l : List Nat} {ts : List Str} (h : Tk l ts) : Tk (32 :: l) ts := fun f => by
  rw [List.foldl_cons, stepT_sp (by decide +kernel), if_pos rfl, flu_nil]
  exact h f
theorem cutL_to14 {α : Type} {xs : List α} {n : Nat} (h : n ≤ xs.length) : (cutL xs none (some (n : Int))).length = n := by
  unfold cutL
  rw [HT.sIx_none, sIx_nn (by omega), List.length_take, List.length_drop]
  omega
theorem law_ok (s : Script) (_ : s.ns.length ≤ 63) : m_law s = .ok true := by
  unfold m_law
  refine Ok.eq ?_
  refine .bind (mixed_ok s) fun r hr => ?_
  obtain ⟨hl, hx⟩ := hr
  have cx : ∀ {a b : Option Int}, ∀ x, x ∈ cutL r a b → 0 ≤ x ∧ x < 2147483629 := fun x h => hx x (cutL_mem h)
  obtain ⟨b, eb, hb, _⟩ := idxR_mem (xs := r) (i := 20) (by decide) (by rw [hl]; decide)
  obtain ⟨x4, e4, h4, _⟩ := idxR_mem (xs := r) (i := 21) (by decide) (by rw [hl]; decide)
  have hb := (hx b hb).1
  have h4 := (hx x4 h4).1
  have e0 := Int.emod_nonneg x4 (show (10 : Int) ≠ 0 by decide)
  have e1 := Int.emod_lt_of_pos x4 (show (0 : Int) < 10 by decide)
  obtain ⟨n, hn⟩ : ∃ n : Nat, 1 + x4 % 10 = ((1 + n : Nat) : Int) := ⟨(x4 % 10).toNat, by omega⟩
  refine .bindE eb (.bindE e4 ?_)
  rw [hn]
  have l1 := cutL_to14 (xs := r) (n := 1 + n) (by omega)
  refine .bind (tree_by_ok hb (by omega) (by omega) cx) fun t ht => ?_
  obtain ⟨c, rfl, g, d, z⟩ := ht
  refine .bind (tokens_ok 12 c 0 0 r (by omega) g.1 g.2.1 (by omega) (by decide) (by decide) (by omega) (by decide) (by omega)) fun ts hts => ?_
  obtain ⟨hsp, hln, htg⟩ := hts
  have l2 : 0 < (cutL r (some 3) (some 20)).length := by
    unfold cutL
    rw [sIx_nn (by decide), sIx_nn (by decide), List.length_take, List.length_drop, hl]
    decide
  refine .bind (joined_ok l2 htg (by omega)) fun w hw => .bindE e4 ?_
  obtain ⟨wl, wt⟩ := hw
  have k0 := Int.emod_nonneg (x4 / 10) (show (3 : Int) ≠ 0 by decide)
  have k1 := Int.emod_lt_of_pos (x4 / 10) (show (0 : Int) < 3 by decide)
  obtain ⟨k, hk⟩ : ∃ k : Nat, x4 / 10 % 3 = (k : Int) := ⟨(x4 / 10 % 3).toNat, by omega⟩
  rw [hk]
  have sp := rep_one 32 (" " : Str) (by decide +kernel) k
  have ln : (repS (" " : Str) k).length = k := by rw [len_tl, sp, List.length_replicate]
  have n1 : (" " : Str).length * k ≤ sizeLine := le_line (by show 1 * k ≤ _; omega)
  refine .need ⟨n1, by omega, by omega⟩ (.need (le_line (by rw [Int.toNat_natCast, ln]; omega)) (.lets ?_))
  rw [Int.toNat_natCast]
  have sp0 : Spd 0 30 c ts := hsp 30 (by omega)
  have tk1 : Tk (w ++ repS (" " : Str) k).cps.toList ts := by rw [tl_app, sp]; exact wt.after k
  have yl : (w ++ repS (" " : Str) k).length ≤ 10000 := by rw [len_app, ln]; omega
  generalize w ++ repS (" " : Str) k = y at *
  have rd : ∀ {t : Str}, Tk t.cps.toList ts → t.length ≤ 100000 → m_read_condition t = .ok c := fun ht hl => read_sp sp0 (by omega) (by decide) (by omega) g.2.2 ht hl
  have r1 := rd tk1 (by omega)
  have r2 := rd (t := (" " : Str) ++ y) (by rw [tl_app, sp_tl]; exact tk1.ahead) (by rw [len_app]; show 1 + _ ≤ _; omega)
  have tt := tree_tr 34 c (by omega)
  have ts' := tr_self g.1 (by omega)
  refine .bindE r1 (.bindE r1 (.bindE tt (.bindE ts' (.bind (Q := fun v => v = true) (.ifT rfl (.need (le_line (by show 1 + _ ≤ _; omega)) (.bindE r2 (.bindE tt (.bindE ts' (.ret rfl)))))) fun v hv => .ret hv))))
end Lw
namespace Lw
open PySem PySem.Spec PyProof.Rows L2 Ml
instance imAnythingI {G : Gx} : Im G Anything := ⟨fun H v x => ∃ a dx, v = .ref a ∧ G.fz (G.cl 1) = some 0 ∧ H a = some (.ins (G.cl 1) dx []),
  fun ⟨a, dx, e, z, h⟩ s => ⟨a, dx, e, z, s.1 a _ h (by show decide (G.fz (G.cl 1) = some 0) = true; rw [z]; rfl)⟩⟩
instance {G : Gx} : IsRef G Anything := ⟨fun h => by obtain ⟨a, _, e, _⟩ := h; exact ⟨a, e⟩⟩
instance imHasWordI {G : Gx} : Im G HasWord := ⟨fun H v x => ∃ a dx, v = .ref a ∧ G.fz (G.cl 2) = some 1 ∧ H a = some (.ins (G.cl 2) dx [("word", (.str (x.word)))]),
  fun ⟨a, dx, e, z, h⟩ s => ⟨a, dx, e, z, s.1 a _ h (by show decide (G.fz (G.cl 2) = some 1) = true; rw [z]; rfl)⟩⟩
instance {G : Gx} : IsRef G HasWord := ⟨fun h => by obtain ⟨a, _, e, _⟩ := h; exact ⟨a, e⟩⟩
theorem im_HasWord {G : Gx} {H : Hp} {a : Addr} {x : HasWord} (h : Im.im G H (.ref a) x) : ∃ dx, H a = some (.ins (G.cl 2) dx [("word", (.str (x.word)))]) := by
  obtain ⟨b, dx, e, _, h⟩ := h; cases e; exact ⟨dx, h⟩
theorem mk_HasWord {G : Gx} {H : Hp} {a dx : Addr} {f_word : Str} (z : G.fz (G.cl 2) = some 1) (h : H a = some (.ins (G.cl 2) dx [("word", (.str (f_word)))])) : Im.im G H (.ref a) (⟨f_word⟩ : HasWord) := ⟨a, dx, rfl, z, h⟩
instance imInTitleI {G : Gx} : Im G InTitle := ⟨fun H v x => ∃ a dx, v = .ref a ∧ G.fz (G.cl 3) = some 1 ∧ H a = some (.ins (G.cl 3) dx [("word", (.str (x.word)))]),
  fun ⟨a, dx, e, z, h⟩ s => ⟨a, dx, e, z, s.1 a _ h (by show decide (G.fz (G.cl 3) = some 1) = true; rw [z]; rfl)⟩⟩
instance {G : Gx} : IsRef G InTitle := ⟨fun h => by obtain ⟨a, _, e, _⟩ := h; exact ⟨a, e⟩⟩
theorem im_InTitle {G : Gx} {H : Hp} {a : Addr} {x : InTitle} (h : Im.im G H (.ref a) x) : ∃ dx, H a = some (.ins (G.cl 3) dx [("word", (.str (x.word)))]) := by
  obtain ⟨b, dx, e, _, h⟩ := h; cases e; exact ⟨dx, h⟩
theorem mk_InTitle {G : Gx} {H : Hp} {a dx : Addr} {f_word : Str} (z : G.fz (G.cl 3) = some 1) (h : H a = some (.ins (G.cl 3) dx [("word", (.str (f_word)))])) : Im.im G H (.ref a) (⟨f_word⟩ : InTitle) := ⟨a, dx, rfl, z, h⟩
instance imFromSenderI {G : Gx} : Im G FromSender := ⟨fun H v x => ∃ a dx, v = .ref a ∧ G.fz (G.cl 4) = some 1 ∧ H a = some (.ins (G.cl 4) dx [("word", (.str (x.word)))]),
  fun ⟨a, dx, e, z, h⟩ s => ⟨a, dx, e, z, s.1 a _ h (by show decide (G.fz (G.cl 4) = some 1) = true; rw [z]; rfl)⟩⟩
instance {G : Gx} : IsRef G FromSender := ⟨fun h => by obtain ⟨a, _, e, _⟩ := h; exact ⟨a, e⟩⟩
theorem im_FromSender {G : Gx} {H : Hp} {a : Addr} {x : FromSender} (h : Im.im G H (.ref a) x) : ∃ dx, H a = some (.ins (G.cl 4) dx [("word", (.str (x.word)))]) := by
  obtain ⟨b, dx, e, _, h⟩ := h; cases e; exact ⟨dx, h⟩
theorem mk_FromSender {G : Gx} {H : Hp} {a dx : Addr} {f_word : Str} (z : G.fz (G.cl 4) = some 1) (h : H a = some (.ins (G.cl 4) dx [("word", (.str (f_word)))])) : Im.im G H (.ref a) (⟨f_word⟩ : FromSender) := ⟨a, dx, rfl, z, h⟩
instance imInFolderI {G : Gx} : Im G InFolder := ⟨fun H v x => ∃ a dx, v = .ref a ∧ G.fz (G.cl 5) = some 1 ∧ H a = some (.ins (G.cl 5) dx [("word", (.str (x.word)))]),
  fun ⟨a, dx, e, z, h⟩ s => ⟨a, dx, e, z, s.1 a _ h (by show decide (G.fz (G.cl 5) = some 1) = true; rw [z]; rfl)⟩⟩
instance {G : Gx} : IsRef G InFolder := ⟨fun h => by obtain ⟨a, _, e, _⟩ := h; exact ⟨a, e⟩⟩
theorem im_InFolder {G : Gx} {H : Hp} {a : Addr} {x : InFolder} (h : Im.im G H (.ref a) x) : ∃ dx, H a = some (.ins (G.cl 5) dx [("word", (.str (x.word)))]) := by
  obtain ⟨b, dx, e, _, h⟩ := h; cases e; exact ⟨dx, h⟩
theorem mk_InFolder {G : Gx} {H : Hp} {a dx : Addr} {f_word : Str} (z : G.fz (G.cl 5) = some 1) (h : H a = some (.ins (G.cl 5) dx [("word", (.str (f_word)))])) : Im.im G H (.ref a) (⟨f_word⟩ : InFolder) := ⟨a, dx, rfl, z, h⟩
instance imIsMarkedI {G : Gx} : Im G IsMarked := ⟨fun H v x => ∃ a dx, v = .ref a ∧ G.fz (G.cl 6) = some 1 ∧ H a = some (.ins (G.cl 6) dx [("word", (.str (x.word)))]),
  fun ⟨a, dx, e, z, h⟩ s => ⟨a, dx, e, z, s.1 a _ h (by show decide (G.fz (G.cl 6) = some 1) = true; rw [z]; rfl)⟩⟩
instance {G : Gx} : IsRef G IsMarked := ⟨fun h => by obtain ⟨a, _, e, _⟩ := h; exact ⟨a, e⟩⟩
theorem im_IsMarked {G : Gx} {H : Hp} {a : Addr} {x : IsMarked} (h : Im.im G H (.ref a) x) : ∃ dx, H a = some (.ins (G.cl 6) dx [("word", (.str (x.word)))]) := by
  obtain ⟨b, dx, e, _, h⟩ := h; cases e; exact ⟨dx, h⟩
theorem mk_IsMarked {G : Gx} {H : Hp} {a dx : Addr} {f_word : Str} (z : G.fz (G.cl 6) = some 1) (h : H a = some (.ins (G.cl 6) dx [("word", (.str (f_word)))])) : Im.im G H (.ref a) (⟨f_word⟩ : IsMarked) := ⟨a, dx, rfl, z, h⟩
instance imOnDaysI {G : Gx} : Im G OnDays := ⟨fun H v x => ∃ a dx, v = .ref a ∧ G.fz (G.cl 7) = some 2 ∧ H a = some (.ins (G.cl 7) dx [("low", (.int (x.low))), ("high", (.int (x.high)))]),
  fun ⟨a, dx, e, z, h⟩ s => ⟨a, dx, e, z, s.1 a _ h (by show decide (G.fz (G.cl 7) = some 2) = true; rw [z]; rfl)⟩⟩
instance {G : Gx} : IsRef G OnDays := ⟨fun h => by obtain ⟨a, _, e, _⟩ := h; exact ⟨a, e⟩⟩
theorem im_OnDays {G : Gx} {H : Hp} {a : Addr} {x : OnDays} (h : Im.im G H (.ref a) x) : ∃ dx, H a = some (.ins (G.cl 7) dx [("low", (.int (x.low))), ("high", (.int (x.high)))]) := by
  obtain ⟨b, dx, e, _, h⟩ := h; cases e; exact ⟨dx, h⟩
theorem mk_OnDays {G : Gx} {H : Hp} {a dx : Addr} {f_low : Int} {f_high : Int} (z : G.fz (G.cl 7) = some 2) (h : H a = some (.ins (G.cl 7) dx [("low", (.int (f_low))), ("high", (.int (f_high)))])) : Im.im G H (.ref a) (⟨f_low, f_high⟩ : OnDays) := ⟨a, dx, rfl, z, h⟩
instance imIsAnswerI {G : Gx} : Im G IsAnswer := ⟨fun H v x => ∃ a dx, v = .ref a ∧ G.fz (G.cl 8) = some 0 ∧ H a = some (.ins (G.cl 8) dx []),
  fun ⟨a, dx, e, z, h⟩ s => ⟨a, dx, e, z, s.1 a _ h (by show decide (G.fz (G.cl 8) = some 0) = true; rw [z]; rfl)⟩⟩
instance {G : Gx} : IsRef G IsAnswer := ⟨fun h => by obtain ⟨a, _, e, _⟩ := h; exact ⟨a, e⟩⟩
def imCond {G : Gx} (H : Hp) : V → Cond → Prop
  | v, .Anything => ∃ a dx, v = .ref a ∧ G.fz (G.cl 1) = some 0 ∧ H a = some (.ins (G.cl 1) dx [])
  | v, .HasWord word => ∃ a dx, v = .ref a ∧ G.fz (G.cl 2) = some 1 ∧ H a = some (.ins (G.cl 2) dx [("word", (.str (word)))])
  | v, .InTitle word => ∃ a dx, v = .ref a ∧ G.fz (G.cl 3) = some 1 ∧ H a = some (.ins (G.cl 3) dx [("word", (.str (word)))])
  | v, .FromSender word => ∃ a dx, v = .ref a ∧ G.fz (G.cl 4) = some 1 ∧ H a = some (.ins (G.cl 4) dx [("word", (.str (word)))])
  | v, .InFolder word => ∃ a dx, v = .ref a ∧ G.fz (G.cl 5) = some 1 ∧ H a = some (.ins (G.cl 5) dx [("word", (.str (word)))])
  | v, .IsMarked word => ∃ a dx, v = .ref a ∧ G.fz (G.cl 6) = some 1 ∧ H a = some (.ins (G.cl 6) dx [("word", (.str (word)))])
  | v, .OnDays low high => ∃ a dx, v = .ref a ∧ G.fz (G.cl 7) = some 2 ∧ H a = some (.ins (G.cl 7) dx [("low", (.int (low))), ("high", (.int (high)))])
  | v, .IsAnswer => ∃ a dx, v = .ref a ∧ G.fz (G.cl 8) = some 0 ∧ H a = some (.ins (G.cl 8) dx [])
  | v, .NotSo inner => ∃ a dx u_inner, v = .ref a ∧ G.fz (G.cl 9) = some 1 ∧ H a = some (.ins (G.cl 9) dx [("inner", u_inner)]) ∧ imCond (G := G) H u_inner inner
  | v, .InThread inner => ∃ a dx u_inner, v = .ref a ∧ G.fz (G.cl 10) = some 1 ∧ H a = some (.ins (G.cl 10) dx [("inner", u_inner)]) ∧ imCond (G := G) H u_inner inner
  | v, .BothSo first second => ∃ a dx u_first u_second, v = .ref a ∧ G.fz (G.cl 11) = some 2 ∧ H a = some (.ins (G.cl 11) dx [("first", u_first), ("second", u_second)]) ∧ imCond (G := G) H u_first first ∧ imCond (G := G) H u_second second
  | v, .EitherSo first second => ∃ a dx u_first u_second, v = .ref a ∧ G.fz (G.cl 12) = some 2 ∧ H a = some (.ins (G.cl 12) dx [("first", u_first), ("second", u_second)]) ∧ imCond (G := G) H u_first first ∧ imCond (G := G) H u_second second
theorem imCond_st {G : Gx} {H H' : Hp} : ∀ {v : V} {x : Cond}, imCond (G := G) H v x → Stab G H H' → imCond (G := G) H' v x
  | _, .Anything, ⟨a, dx, e, z, h⟩, s => ⟨a, dx, e, z, s.1 a _ h (by show decide (G.fz (G.cl 1) = some 0) = true; rw [z]; rfl)⟩
  | _, .HasWord word, ⟨a, dx, e, z, h⟩, s => ⟨a, dx, e, z, s.1 a _ h (by show decide (G.fz (G.cl 2) = some 1) = true; rw [z]; rfl)⟩
  | _, .InTitle word, ⟨a, dx, e, z, h⟩, s => ⟨a, dx, e, z, s.1 a _ h (by show decide (G.fz (G.cl 3) = some 1) = true; rw [z]; rfl)⟩
  | _, .FromSender word, ⟨a, dx, e, z, h⟩, s => ⟨a, dx, e, z, s.1 a _ h (by show decide (G.fz (G.cl 4) = some 1) = true; rw [z]; rfl)⟩
  | _, .InFolder word, ⟨a, dx, e, z, h⟩, s => ⟨a, dx, e, z, s.1 a _ h (by show decide (G.fz (G.cl 5) = some 1) = true; rw [z]; rfl)⟩
  | _, .IsMarked word, ⟨a, dx, e, z, h⟩, s => ⟨a, dx, e, z, s.1 a _ h (by show decide (G.fz (G.cl 6) = some 1) = true; rw [z]; rfl)⟩
  | _, .OnDays low high, ⟨a, dx, e, z, h⟩, s => ⟨a, dx, e, z, s.1 a _ h (by show decide (G.fz (G.cl 7) = some 2) = true; rw [z]; rfl)⟩
  | _, .IsAnswer, ⟨a, dx, e, z, h⟩, s => ⟨a, dx, e, z, s.1 a _ h (by show decide (G.fz (G.cl 8) = some 0) = true; rw [z]; rfl)⟩
  | _, .NotSo inner, ⟨a, dx, u_inner, e, z, h, i0⟩, s => ⟨a, dx, u_inner, e, z, s.1 a _ h (by show decide (G.fz (G.cl 9) = some 1) = true; rw [z]; rfl), imCond_st i0 s⟩
  | _, .InThread inner, ⟨a, dx, u_inner, e, z, h, i0⟩, s => ⟨a, dx, u_inner, e, z, s.1 a _ h (by show decide (G.fz (G.cl 10) = some 1) = true; rw [z]; rfl), imCond_st i0 s⟩
  | _, .BothSo first second, ⟨a, dx, u_first, u_second, e, z, h, i0, i1⟩, s => ⟨a, dx, u_first, u_second, e, z, s.1 a _ h (by show decide (G.fz (G.cl 11) = some 2) = true; rw [z]; rfl), imCond_st i0 s, imCond_st i1 s⟩
  | _, .EitherSo first second, ⟨a, dx, u_first, u_second, e, z, h, i0, i1⟩, s => ⟨a, dx, u_first, u_second, e, z, s.1 a _ h (by show decide (G.fz (G.cl 12) = some 2) = true; rw [z]; rfl), imCond_st i0 s, imCond_st i1 s⟩
instance imCondI {G : Gx} : Im G Cond := ⟨imCond (G := G), imCond_st⟩
instance {G : Gx} : IsRef G Cond := ⟨fun {H v x} h => by cases x <;> (have h := (show imCond H v _ from h); unfold imCond at h) <;> (first | (obtain ⟨a, _, e, _⟩ := h; exact ⟨a, e⟩) | (obtain ⟨a, _, _, e, _⟩ := h; exact ⟨a, e⟩) | (obtain ⟨a, _, _, _, e, _⟩ := h; exact ⟨a, e⟩))⟩
instance imNotSoI {G : Gx} : Im G NotSo := ⟨fun H v x => ∃ a dx u_inner, v = .ref a ∧ G.fz (G.cl 9) = some 1 ∧ H a = some (.ins (G.cl 9) dx [("inner", u_inner)]) ∧ Im.im G H u_inner x.inner,
  fun ⟨a, dx, u_inner, e, z, h, i0⟩ s => ⟨a, dx, u_inner, e, z, s.1 a _ h (by show decide (G.fz (G.cl 9) = some 1) = true; rw [z]; rfl), Im.st i0 s⟩⟩
instance {G : Gx} : IsRef G NotSo := ⟨fun h => by obtain ⟨a, _, _, e, _⟩ := h; exact ⟨a, e⟩⟩
theorem im_NotSo {G : Gx} {H : Hp} {a : Addr} {x : NotSo} (h : Im.im G H (.ref a) x) : ∃ dx u_inner, H a = some (.ins (G.cl 9) dx [("inner", u_inner)]) ∧ Im.im G H u_inner x.inner := by
  obtain ⟨b, dx, u_inner, e, _, h⟩ := h; cases e; exact ⟨dx, u_inner, h⟩
theorem mk_NotSo {G : Gx} {H : Hp} {a dx : Addr} {f_inner : Cond} {u_inner : V} (z : G.fz (G.cl 9) = some 1) (h : H a = some (.ins (G.cl 9) dx [("inner", u_inner)])) (i_inner : Im.im G H u_inner f_inner) : Im.im G H (.ref a) (⟨f_inner⟩ : NotSo) := ⟨a, dx, u_inner, rfl, z, h, i_inner⟩
instance imInThreadI {G : Gx} : Im G InThread := ⟨fun H v x => ∃ a dx u_inner, v = .ref a ∧ G.fz (G.cl 10) = some 1 ∧ H a = some (.ins (G.cl 10) dx [("inner", u_inner)]) ∧ Im.im G H u_inner x.inner,
  fun ⟨a, dx, u_inner, e, z, h, i0⟩ s => ⟨a, dx, u_inner, e, z, s.1 a _ h (by show decide (G.fz (G.cl 10) = some 1) = true; rw [z]; rfl), Im.st i0 s⟩⟩
instance {G : Gx} : IsRef G InThread := ⟨fun h => by obtain ⟨a, _, _, e, _⟩ := h; exact ⟨a, e⟩⟩
theorem im_InThread {G : Gx} {H : Hp} {a : Addr} {x : InThread} (h : Im.im G H (.ref a) x) : ∃ dx u_inner, H a = some (.ins (G.cl 10) dx [("inner", u_inner)]) ∧ Im.im G H u_inner x.inner := by
  obtain ⟨b, dx, u_inner, e, _, h⟩ := h; cases e; exact ⟨dx, u_inner, h⟩
theorem mk_InThread {G : Gx} {H : Hp} {a dx : Addr} {f_inner : Cond} {u_inner : V} (z : G.fz (G.cl 10) = some 1) (h : H a = some (.ins (G.cl 10) dx [("inner", u_inner)])) (i_inner : Im.im G H u_inner f_inner) : Im.im G H (.ref a) (⟨f_inner⟩ : InThread) := ⟨a, dx, u_inner, rfl, z, h, i_inner⟩
instance imBothSoI {G : Gx} : Im G BothSo := ⟨fun H v x => ∃ a dx u_first u_second, v = .ref a ∧ G.fz (G.cl 11) = some 2 ∧ H a = some (.ins (G.cl 11) dx [("first", u_first), ("second", u_second)]) ∧ Im.im G H u_first x.first ∧ Im.im G H u_second x.second,
  fun ⟨a, dx, u_first, u_second, e, z, h, i0, i1⟩ s => ⟨a, dx, u_first, u_second, e, z, s.1 a _ h (by show decide (G.fz (G.cl 11) = some 2) = true; rw [z]; rfl), Im.st i0 s, Im.st i1 s⟩⟩
instance {G : Gx} : IsRef G BothSo := ⟨fun h => by obtain ⟨a, _, _, _, e, _⟩ := h; exact ⟨a, e⟩⟩
theorem im_BothSo {G : Gx} {H : Hp} {a : Addr} {x : BothSo} (h : Im.im G H (.ref a) x) : ∃ dx u_first u_second, H a = some (.ins (G.cl 11) dx [("first", u_first), ("second", u_second)]) ∧ Im.im G H u_first x.first ∧ Im.im G H u_second x.second := by
  obtain ⟨b, dx, u_first, u_second, e, _, h⟩ := h; cases e; exact ⟨dx, u_first, u_second, h⟩
theorem mk_BothSo {G : Gx} {H : Hp} {a dx : Addr} {f_first : Cond} {f_second : Cond} {u_first : V} {u_second : V} (z : G.fz (G.cl 11) = some 2) (h : H a = some (.ins (G.cl 11) dx [("first", u_first), ("second", u_second)])) (i_first : Im.im G H u_first f_first) (i_second : Im.im G H u_second f_second) : Im.im G H (.ref a) (⟨f_first, f_second⟩ : BothSo) := ⟨a, dx, u_first, u_second, rfl, z, h, i_first, i_second⟩
instance imEitherSoI {G : Gx} : Im G EitherSo := ⟨fun H v x => ∃ a dx u_first u_second, v = .ref a ∧ G.fz (G.cl 12) = some 2 ∧ H a = some (.ins (G.cl 12) dx [("first", u_first), ("second", u_second)]) ∧ Im.im G H u_first x.first ∧ Im.im G H u_second x.second,
  fun ⟨a, dx, u_first, u_second, e, z, h, i0, i1⟩ s => ⟨a, dx, u_first, u_second, e, z, s.1 a _ h (by show decide (G.fz (G.cl 12) = some 2) = true; rw [z]; rfl), Im.st i0 s, Im.st i1 s⟩⟩
instance {G : Gx} : IsRef G EitherSo := ⟨fun h => by obtain ⟨a, _, _, _, e, _⟩ := h; exact ⟨a, e⟩⟩
theorem im_EitherSo {G : Gx} {H : Hp} {a : Addr} {x : EitherSo} (h : Im.im G H (.ref a) x) : ∃ dx u_first u_second, H a = some (.ins (G.cl 12) dx [("first", u_first), ("second", u_second)]) ∧ Im.im G H u_first x.first ∧ Im.im G H u_second x.second := by
  obtain ⟨b, dx, u_first, u_second, e, _, h⟩ := h; cases e; exact ⟨dx, u_first, u_second, h⟩
theorem mk_EitherSo {G : Gx} {H : Hp} {a dx : Addr} {f_first : Cond} {f_second : Cond} {u_first : V} {u_second : V} (z : G.fz (G.cl 12) = some 2) (h : H a = some (.ins (G.cl 12) dx [("first", u_first), ("second", u_second)])) (i_first : Im.im G H u_first f_first) (i_second : Im.im G H u_second f_second) : Im.im G H (.ref a) (⟨f_first, f_second⟩ : EitherSo) := ⟨a, dx, u_first, u_second, rfl, z, h, i_first, i_second⟩
theorem to_Anything {G : Gx} {H : Hp} {v : V} {x : Anything} (h : Im.im G H v x) : Im.im G H v (Cond.Anything) := by
  show imCond H v _
  unfold imCond
  exact h
theorem of_Anything {G : Gx} {H : Hp} {v : V} (h : Im.im G H v (Cond.Anything)) : Im.im G H v (⟨⟩ : Anything) := by
  have h := (show imCond H v _ from h)
  unfold imCond at h
  exact h
theorem to_HasWord {G : Gx} {H : Hp} {v : V} {x : HasWord} (h : Im.im G H v x) : Im.im G H v (Cond.HasWord x.word) := by
  show imCond H v _
  unfold imCond
  exact h
theorem of_HasWord {G : Gx} {H : Hp} {v : V} {word : Str} (h : Im.im G H v (Cond.HasWord word)) : Im.im G H v (⟨word⟩ : HasWord) := by
  have h := (show imCond H v _ from h)
  unfold imCond at h
  exact h
theorem to_InTitle {G : Gx} {H : Hp} {v : V} {x : InTitle} (h : Im.im G H v x) : Im.im G H v (Cond.InTitle x.word) := by
  show imCond H v _
  unfold imCond
  exact h
theorem of_InTitle {G : Gx} {H : Hp} {v : V} {word : Str} (h : Im.im G H v (Cond.InTitle word)) : Im.im G H v (⟨word⟩ : InTitle) := by
  have h := (show imCond H v _ from h)
  unfold imCond at h
  exact h
theorem to_FromSender {G : Gx} {H : Hp} {v : V} {x : FromSender} (h : Im.im G H v x) : Im.im G H v (Cond.FromSender x.word) := by
  show imCond H v _
  unfold imCond
  exact h
theorem of_FromSender {G : Gx} {H : Hp} {v : V} {word : Str} (h : Im.im G H v (Cond.FromSender word)) : Im.im G H v (⟨word⟩ : FromSender) := by
  have h := (show imCond H v _ from h)
  unfold imCond at h
  exact h
theorem to_InFolder {G : Gx} {H : Hp} {v : V} {x : InFolder} (h : Im.im G H v x) : Im.im G H v (Cond.InFolder x.word) := by
  show imCond H v _
  unfold imCond
  exact h
theorem of_InFolder {G : Gx} {H : Hp} {v : V} {word : Str} (h : Im.im G H v (Cond.InFolder word)) : Im.im G H v (⟨word⟩ : InFolder) := by
  have h := (show imCond H v _ from h)
  unfold imCond at h
  exact h
theorem to_IsMarked {G : Gx} {H : Hp} {v : V} {x : IsMarked} (h : Im.im G H v x) : Im.im G H v (Cond.IsMarked x.word) := by
  show imCond H v _
  unfold imCond
  exact h
theorem of_IsMarked {G : Gx} {H : Hp} {v : V} {word : Str} (h : Im.im G H v (Cond.IsMarked word)) : Im.im G H v (⟨word⟩ : IsMarked) := by
  have h := (show imCond H v _ from h)
  unfold imCond at h
  exact h
theorem to_OnDays {G : Gx} {H : Hp} {v : V} {x : OnDays} (h : Im.im G H v x) : Im.im G H v (Cond.OnDays x.low x.high) := by
  show imCond H v _
  unfold imCond
  exact h
theorem of_OnDays {G : Gx} {H : Hp} {v : V} {low : Int} {high : Int} (h : Im.im G H v (Cond.OnDays low high)) : Im.im G H v (⟨low, high⟩ : OnDays) := by
  have h := (show imCond H v _ from h)
  unfold imCond at h
  exact h
theorem to_IsAnswer {G : Gx} {H : Hp} {v : V} {x : IsAnswer} (h : Im.im G H v x) : Im.im G H v (Cond.IsAnswer) := by
  show imCond H v _
  unfold imCond
  exact h
theorem of_IsAnswer {G : Gx} {H : Hp} {v : V} (h : Im.im G H v (Cond.IsAnswer)) : Im.im G H v (⟨⟩ : IsAnswer) := by
  have h := (show imCond H v _ from h)
  unfold imCond at h
  exact h
theorem to_NotSo {G : Gx} {H : Hp} {v : V} {x : NotSo} (h : Im.im G H v x) : Im.im G H v (Cond.NotSo x.inner) := by
  show imCond H v _
  unfold imCond
  exact h
theorem of_NotSo {G : Gx} {H : Hp} {v : V} {inner : Cond} (h : Im.im G H v (Cond.NotSo inner)) : Im.im G H v (⟨inner⟩ : NotSo) := by
  have h := (show imCond H v _ from h)
  unfold imCond at h
  exact h
theorem to_InThread {G : Gx} {H : Hp} {v : V} {x : InThread} (h : Im.im G H v x) : Im.im G H v (Cond.InThread x.inner) := by
  show imCond H v _
  unfold imCond
  exact h
theorem of_InThread {G : Gx} {H : Hp} {v : V} {inner : Cond} (h : Im.im G H v (Cond.InThread inner)) : Im.im G H v (⟨inner⟩ : InThread) := by
  have h := (show imCond H v _ from h)
  unfold imCond at h
  exact h
theorem to_BothSo {G : Gx} {H : Hp} {v : V} {x : BothSo} (h : Im.im G H v x) : Im.im G H v (Cond.BothSo x.first x.second) := by
  show imCond H v _
  unfold imCond
  exact h
theorem of_BothSo {G : Gx} {H : Hp} {v : V} {first : Cond} {second : Cond} (h : Im.im G H v (Cond.BothSo first second)) : Im.im G H v (⟨first, second⟩ : BothSo) := by
  have h := (show imCond H v _ from h)
  unfold imCond at h
  exact h
theorem to_EitherSo {G : Gx} {H : Hp} {v : V} {x : EitherSo} (h : Im.im G H v x) : Im.im G H v (Cond.EitherSo x.first x.second) := by
  show imCond H v _
  unfold imCond
  exact h
theorem of_EitherSo {G : Gx} {H : Hp} {v : V} {first : Cond} {second : Cond} (h : Im.im G H v (Cond.EitherSo first second)) : Im.im G H v (⟨first, second⟩ : EitherSo) := by
  have h := (show imCond H v _ from h)
  unfold imCond at h
  exact h
abbrev isC_Cond (i : Nat) : Bool := ([1, 2, 3, 4, 5, 6, 7, 8, 9, 10, 11, 12] : List Nat).contains i
theorem fam_Cond (c : Cond) : isC_Cond c.cls = true := by cases c <;> rfl
theorem cls_Cond {G : Gx} {H : Hp} {a : Addr} {c : Cond} (h : Im.im G H (.ref a) c) : ∃ dx fs, H a = some (.ins (G.cl c.cls) dx fs) ∧ ∀ m, m ∈ [("tree" : Str)] → fs.lookup m = none := by
  have h := (show imCond H (.ref a) c from h)
  cases c with
  | Anything =>
    unfold imCond at h
    obtain ⟨b, dx, e, _, h⟩ := h
    cases e
    exact ⟨dx, _, h, fun m hm => by simp only [List.mem_cons, List.not_mem_nil, or_false] at hm; rcases hm with rfl <;> rfl⟩
  | HasWord word =>
    unfold imCond at h
    obtain ⟨b, dx, e, _, h⟩ := h
    cases e
    exact ⟨dx, _, h, fun m hm => by simp only [List.mem_cons, List.not_mem_nil, or_false] at hm; rcases hm with rfl <;> rfl⟩
  | InTitle word =>
    unfold imCond at h
    obtain ⟨b, dx, e, _, h⟩ := h
    cases e
    exact ⟨dx, _, h, fun m hm => by simp only [List.mem_cons, List.not_mem_nil, or_false] at hm; rcases hm with rfl <;> rfl⟩
  | FromSender word =>
    unfold imCond at h
    obtain ⟨b, dx, e, _, h⟩ := h
    cases e
    exact ⟨dx, _, h, fun m hm => by simp only [List.mem_cons, List.not_mem_nil, or_false] at hm; rcases hm with rfl <;> rfl⟩
  | InFolder word =>
    unfold imCond at h
    obtain ⟨b, dx, e, _, h⟩ := h
    cases e
    exact ⟨dx, _, h, fun m hm => by simp only [List.mem_cons, List.not_mem_nil, or_false] at hm; rcases hm with rfl <;> rfl⟩
  | IsMarked word =>
    unfold imCond at h
    obtain ⟨b, dx, e, _, h⟩ := h
    cases e
    exact ⟨dx, _, h, fun m hm => by simp only [List.mem_cons, List.not_mem_nil, or_false] at hm; rcases hm with rfl <;> rfl⟩
  | OnDays low high =>
    unfold imCond at h
    obtain ⟨b, dx, e, _, h⟩ := h
    cases e
    exact ⟨dx, _, h, fun m hm => by simp only [List.mem_cons, List.not_mem_nil, or_false] at hm; rcases hm with rfl <;> rfl⟩
  | IsAnswer =>
    unfold imCond at h
    obtain ⟨b, dx, e, _, h⟩ := h
    cases e
    exact ⟨dx, _, h, fun m hm => by simp only [List.mem_cons, List.not_mem_nil, or_false] at hm; rcases hm with rfl <;> rfl⟩
  | NotSo inner =>
    unfold imCond at h
    obtain ⟨b, dx, u_inner, e, _, h, _⟩ := h
    cases e
    exact ⟨dx, _, h, fun m hm => by simp only [List.mem_cons, List.not_mem_nil, or_false] at hm; rcases hm with rfl <;> rfl⟩
  | InThread inner =>
    unfold imCond at h
    obtain ⟨b, dx, u_inner, e, _, h, _⟩ := h
    cases e
    exact ⟨dx, _, h, fun m hm => by simp only [List.mem_cons, List.not_mem_nil, or_false] at hm; rcases hm with rfl <;> rfl⟩
  | BothSo first second =>
    unfold imCond at h
    obtain ⟨b, dx, u_first, u_second, e, _, h, _⟩ := h
    cases e
    exact ⟨dx, _, h, fun m hm => by simp only [List.mem_cons, List.not_mem_nil, or_false] at hm; rcases hm with rfl <;> rfl⟩
  | EitherSo first second =>
    unfold imCond at h
    obtain ⟨b, dx, u_first, u_second, e, _, h, _⟩ := h
    cases e
    exact ⟨dx, _, h, fun m hm => by simp only [List.mem_cons, List.not_mem_nil, or_false] at hm; rcases hm with rfl <;> rfl⟩
def sp_Cond_tree (G : Gx) (m_Cond_tree : Cond → R Any) (i : Nat) : Sp := fun vs H Q E => ∃ (a_v_self : Addr) (v_self : Cond) (F : Asn G), vs = [(.ref a_v_self)] ∧ Im.im G H (.ref a_v_self) v_self ∧ v_self.cls = i ∧ Sep H ([F] : List (Asn G)) ∧ R.wp (m_Cond_tree v_self) (fun r => ∀ (p : V) H', Sep H' ([imA p (r : Any), F] : List (Asn G)) → Q p H') (fun _ => False)
def sp_one_at (G : Gx) (m_one_at : (List Str) → Int → Int → R (Cond × Int)) : Sp := fun vs H Q E => ∃ (a_v_tokens : Addr) (v_tokens : (List Str)) (v_at : Int) (v_room : Int) (F : Asn G), vs = [.ref a_v_tokens, (.int (v_at)), (.int (v_room))] ∧ Sep H ([lstA a_v_tokens (v_tokens : (List Str)), F] : List (Asn G)) ∧ R.wp (m_one_at v_tokens v_at v_room) (fun r => ∀ (p : Addr) H', Sep H' ([imA (.ref p) (r : (Cond × Int)), lstA a_v_tokens (v_tokens : (List Str)), F] : List (Asn G)) → Q (.ref p) H') (fun _ => False)
def top (i : Nat) : Stmt := PySem.Challenge.pw_mailroom_k14_conditions_read.main.body.getD i (.Pass ⟨0, 0, 0, 0⟩)
abbrev s_Anything_tree : Stmt := inClass (top 3) 1
abbrev s_OfWord___init__ : Stmt := inClass (top 4) 0
abbrev s_OfWord_sign : Stmt := inClass (top 4) 1
abbrev s_OfWord_tree : Stmt := inClass (top 4) 2
abbrev s_InTitle_sign : Stmt := inClass (top 6) 0
abbrev s_FromSender_sign : Stmt := inClass (top 7) 0
abbrev s_InFolder_sign : Stmt := inClass (top 8) 0
abbrev s_IsMarked_sign : Stmt := inClass (top 9) 0
abbrev s_OnDays___init__ : Stmt := inClass (top 10) 0
abbrev s_OnDays_tree : Stmt := inClass (top 10) 2
abbrev s_IsAnswer_tree : Stmt := inClass (top 11) 1
abbrev s_OfOne___init__ : Stmt := inClass (top 12) 0
abbrev s_OfOne_sign : Stmt := inClass (top 12) 1
abbrev s_OfOne_tree : Stmt := inClass (top 12) 2
abbrev s_InThread_sign : Stmt := inClass (top 14) 0
abbrev s_OfTwo___init__ : Stmt := inClass (top 15) 0
abbrev s_OfTwo_sign : Stmt := inClass (top 15) 1
abbrev s_OfTwo_tree : Stmt := inClass (top 15) 2
abbrev s_EitherSo_sign : Stmt := inClass (top 17) 0
abbrev s_of_word : Stmt := top 18
abbrev s_deep : Stmt := top 19
abbrev s_threads_deep : Stmt := top 20
abbrev s_is_sign : Stmt := top 28
abbrev s_is_word : Stmt := top 29
abbrev s_tokens_of : Stmt := top 36
abbrev s_token_at : Stmt := top 37
abbrev s_word_at : Stmt := top 38
abbrev s_number_at : Stmt := top 39
abbrev s_days_at : Stmt := top 40
abbrev s_both_at : Stmt := top 42
abbrev s_either_at : Stmt := top 43
abbrev s_law_cell_at : Stmt := top 47
abbrev s_law_mixed : Stmt := top 48
abbrev s_law_word_by : Stmt := top 49
abbrev s_law_leaf_by : Stmt := top 53
abbrev s_law_threads : Stmt := top 54
abbrev s_law_tree_by : Stmt := top 55
abbrev s_law_number : Stmt := top 56
abbrev s_law_day_tokens : Stmt := top 57
abbrev s_law_tokens : Stmt := top 58
abbrev s_law_joined : Stmt := top 59
abbrev s_one_at : Stmt := top 41
abbrev s_whole_at : Stmt := top 44
abbrev s_read_condition : Stmt := top 45
abbrev s_law : Stmt := top 60
structure Txt (G : Gx) (mg : Str → Option Value) where
  a_Anything_tree : Addr
  fd_Anything_tree : FuncData
  F_Anything_tree : Fun G.K "tree" "Anything.tree" s_Anything_tree a_Anything_tree fd_Anything_tree
  b_Anything_tree : Binds G.K fd_Anything_tree ["self"] []
  kp_Anything_tree : PySem.W.keepIn G.K (.ref a_Anything_tree) = true
  m_Anything_tree : Meth G.K (G.cl 1) "tree" a_Anything_tree
  a_OfWord___init__ : Addr
  fd_OfWord___init__ : FuncData
  F_OfWord___init__ : Fun G.K "__init__" "OfWord.__init__" s_OfWord___init__ a_OfWord___init__ fd_OfWord___init__
  b_OfWord___init__ : Binds G.K fd_OfWord___init__ ["self", "word"] []
  kp_OfWord___init__ : PySem.W.keepIn G.K (.ref a_OfWord___init__) = true
  k_HasWord : Mk G.K (G.cl 2) a_OfWord___init__
  k_InTitle : Mk G.K (G.cl 3) a_OfWord___init__
  k_FromSender : Mk G.K (G.cl 4) a_OfWord___init__
  k_InFolder : Mk G.K (G.cl 5) a_OfWord___init__
  k_IsMarked : Mk G.K (G.cl 6) a_OfWord___init__
  a_OfWord_sign : Addr
  fd_OfWord_sign : FuncData
  F_OfWord_sign : Fun G.K "sign" "OfWord.sign" s_OfWord_sign a_OfWord_sign fd_OfWord_sign
  b_OfWord_sign : Binds G.K fd_OfWord_sign ["self"] []
  kp_OfWord_sign : PySem.W.keepIn G.K (.ref a_OfWord_sign) = true
  m_HasWord_sign : Meth G.K (G.cl 2) "sign" a_OfWord_sign
  a_OfWord_tree : Addr
  fd_OfWord_tree : FuncData
  F_OfWord_tree : Fun G.K "tree" "OfWord.tree" s_OfWord_tree a_OfWord_tree fd_OfWord_tree
  b_OfWord_tree : Binds G.K fd_OfWord_tree ["self"] []
  kp_OfWord_tree : PySem.W.keepIn G.K (.ref a_OfWord_tree) = true
  m_HasWord_tree : Meth G.K (G.cl 2) "tree" a_OfWord_tree
  m_InTitle_tree : Meth G.K (G.cl 3) "tree" a_OfWord_tree
  m_FromSender_tree : Meth G.K (G.cl 4) "tree" a_OfWord_tree
  m_InFolder_tree : Meth G.K (G.cl 5) "tree" a_OfWord_tree
  m_IsMarked_tree : Meth G.K (G.cl 6) "tree" a_OfWord_tree
  a_InTitle_sign : Addr
  fd_InTitle_sign : FuncData
  F_InTitle_sign : Fun G.K "sign" "InTitle.sign" s_InTitle_sign a_InTitle_sign fd_InTitle_sign
  b_InTitle_sign : Binds G.K fd_InTitle_sign ["self"] []
  kp_InTitle_sign : PySem.W.keepIn G.K (.ref a_InTitle_sign) = true
  m_InTitle_sign : Meth G.K (G.cl 3) "sign" a_InTitle_sign
  a_FromSender_sign : Addr
  fd_FromSender_sign : FuncData
  F_FromSender_sign : Fun G.K "sign" "FromSender.sign" s_FromSender_sign a_FromSender_sign fd_FromSender_sign
  b_FromSender_sign : Binds G.K fd_FromSender_sign ["self"] []
  kp_FromSender_sign : PySem.W.keepIn G.K (.ref a_FromSender_sign) = true
  m_FromSender_sign : Meth G.K (G.cl 4) "sign" a_FromSender_sign
  a_InFolder_sign : Addr
  fd_InFolder_sign : FuncData
  F_InFolder_sign : Fun G.K "sign" "InFolder.sign" s_InFolder_sign a_InFolder_sign fd_InFolder_sign
  b_InFolder_sign : Binds G.K fd_InFolder_sign ["self"] []
  kp_InFolder_sign : PySem.W.keepIn G.K (.ref a_InFolder_sign) = true
  m_InFolder_sign : Meth G.K (G.cl 5) "sign" a_InFolder_sign
  a_IsMarked_sign : Addr
  fd_IsMarked_sign : FuncData
  F_IsMarked_sign : Fun G.K "sign" "IsMarked.sign" s_IsMarked_sign a_IsMarked_sign fd_IsMarked_sign
  b_IsMarked_sign : Binds G.K fd_IsMarked_sign ["self"] []
  kp_IsMarked_sign : PySem.W.keepIn G.K (.ref a_IsMarked_sign) = true
  m_IsMarked_sign : Meth G.K (G.cl 6) "sign" a_IsMarked_sign
  a_OnDays___init__ : Addr
  fd_OnDays___init__ : FuncData
  F_OnDays___init__ : Fun G.K "__init__" "OnDays.__init__" s_OnDays___init__ a_OnDays___init__ fd_OnDays___init__
  b_OnDays___init__ : Binds G.K fd_OnDays___init__ ["self", "low", "high"] []
  kp_OnDays___init__ : PySem.W.keepIn G.K (.ref a_OnDays___init__) = true
  k_OnDays : Mk G.K (G.cl 7) a_OnDays___init__
  a_OnDays_tree : Addr
  fd_OnDays_tree : FuncData
  F_OnDays_tree : Fun G.K "tree" "OnDays.tree" s_OnDays_tree a_OnDays_tree fd_OnDays_tree
  b_OnDays_tree : Binds G.K fd_OnDays_tree ["self"] []
  kp_OnDays_tree : PySem.W.keepIn G.K (.ref a_OnDays_tree) = true
  m_OnDays_tree : Meth G.K (G.cl 7) "tree" a_OnDays_tree
  a_IsAnswer_tree : Addr
  fd_IsAnswer_tree : FuncData
  F_IsAnswer_tree : Fun G.K "tree" "IsAnswer.tree" s_IsAnswer_tree a_IsAnswer_tree fd_IsAnswer_tree
  b_IsAnswer_tree : Binds G.K fd_IsAnswer_tree ["self"] []
  kp_IsAnswer_tree : PySem.W.keepIn G.K (.ref a_IsAnswer_tree) = true
  m_IsAnswer_tree : Meth G.K (G.cl 8) "tree" a_IsAnswer_tree
  a_OfOne___init__ : Addr
  fd_OfOne___init__ : FuncData
  F_OfOne___init__ : Fun G.K "__init__" "OfOne.__init__" s_OfOne___init__ a_OfOne___init__ fd_OfOne___init__
  b_OfOne___init__ : Binds G.K fd_OfOne___init__ ["self", "inner"] []
  kp_OfOne___init__ : PySem.W.keepIn G.K (.ref a_OfOne___init__) = true
  k_NotSo : Mk G.K (G.cl 9) a_OfOne___init__
  k_InThread : Mk G.K (G.cl 10) a_OfOne___init__
  a_OfOne_sign : Addr
  fd_OfOne_sign : FuncData
  F_OfOne_sign : Fun G.K "sign" "OfOne.sign" s_OfOne_sign a_OfOne_sign fd_OfOne_sign
  b_OfOne_sign : Binds G.K fd_OfOne_sign ["self"] []
  kp_OfOne_sign : PySem.W.keepIn G.K (.ref a_OfOne_sign) = true
  m_NotSo_sign : Meth G.K (G.cl 9) "sign" a_OfOne_sign
  a_OfOne_tree : Addr
  fd_OfOne_tree : FuncData
  F_OfOne_tree : Fun G.K "tree" "OfOne.tree" s_OfOne_tree a_OfOne_tree fd_OfOne_tree
  b_OfOne_tree : Binds G.K fd_OfOne_tree ["self"] []
  kp_OfOne_tree : PySem.W.keepIn G.K (.ref a_OfOne_tree) = true
  m_NotSo_tree : Meth G.K (G.cl 9) "tree" a_OfOne_tree
  m_InThread_tree : Meth G.K (G.cl 10) "tree" a_OfOne_tree
  a_InThread_sign : Addr
  fd_InThread_sign : FuncData
  F_InThread_sign : Fun G.K "sign" "InThread.sign" s_InThread_sign a_InThread_sign fd_InThread_sign
  b_InThread_sign : Binds G.K fd_InThread_sign ["self"] []
  kp_InThread_sign : PySem.W.keepIn G.K (.ref a_InThread_sign) = true
  m_InThread_sign : Meth G.K (G.cl 10) "sign" a_InThread_sign
  a_OfTwo___init__ : Addr
  fd_OfTwo___init__ : FuncData
  F_OfTwo___init__ : Fun G.K "__init__" "OfTwo.__init__" s_OfTwo___init__ a_OfTwo___init__ fd_OfTwo___init__
  b_OfTwo___init__ : Binds G.K fd_OfTwo___init__ ["self", "first", "second"] []
  kp_OfTwo___init__ : PySem.W.keepIn G.K (.ref a_OfTwo___init__) = true
  k_BothSo : Mk G.K (G.cl 11) a_OfTwo___init__
  k_EitherSo : Mk G.K (G.cl 12) a_OfTwo___init__
  a_OfTwo_sign : Addr
  fd_OfTwo_sign : FuncData
  F_OfTwo_sign : Fun G.K "sign" "OfTwo.sign" s_OfTwo_sign a_OfTwo_sign fd_OfTwo_sign
  b_OfTwo_sign : Binds G.K fd_OfTwo_sign ["self"] []
  kp_OfTwo_sign : PySem.W.keepIn G.K (.ref a_OfTwo_sign) = true
  m_BothSo_sign : Meth G.K (G.cl 11) "sign" a_OfTwo_sign
  a_OfTwo_tree : Addr
  fd_OfTwo_tree : FuncData
  F_OfTwo_tree : Fun G.K "tree" "OfTwo.tree" s_OfTwo_tree a_OfTwo_tree fd_OfTwo_tree
  b_OfTwo_tree : Binds G.K fd_OfTwo_tree ["self"] []
  kp_OfTwo_tree : PySem.W.keepIn G.K (.ref a_OfTwo_tree) = true
  m_BothSo_tree : Meth G.K (G.cl 11) "tree" a_OfTwo_tree
  m_EitherSo_tree : Meth G.K (G.cl 12) "tree" a_OfTwo_tree
  a_EitherSo_sign : Addr
  fd_EitherSo_sign : FuncData
  F_EitherSo_sign : Fun G.K "sign" "EitherSo.sign" s_EitherSo_sign a_EitherSo_sign fd_EitherSo_sign
  b_EitherSo_sign : Binds G.K fd_EitherSo_sign ["self"] []
  kp_EitherSo_sign : PySem.W.keepIn G.K (.ref a_EitherSo_sign) = true
  m_EitherSo_sign : Meth G.K (G.cl 12) "sign" a_EitherSo_sign
  a_of_word : Addr
  fd_of_word : FuncData
  F_of_word : Fun G.K "of_word" "of_word" s_of_word a_of_word fd_of_word
  b_of_word : Binds G.K fd_of_word ["sign", "word"] []
  kp_of_word : PySem.W.keepIn G.K (.ref a_of_word) = true
  g_of_word : mg "of_word" = some (.ref a_of_word)
  a_deep : Addr
  fd_deep : FuncData
  F_deep : Fun G.K "deep" "deep" s_deep a_deep fd_deep
  b_deep : Binds G.K fd_deep ["tree"] []
  kp_deep : PySem.W.keepIn G.K (.ref a_deep) = true
  g_deep : mg "deep" = some (.ref a_deep)
  a_threads_deep : Addr
  fd_threads_deep : FuncData
  F_threads_deep : Fun G.K "threads_deep" "threads_deep" s_threads_deep a_threads_deep fd_threads_deep
  b_threads_deep : Binds G.K fd_threads_deep ["tree"] []
  kp_threads_deep : PySem.W.keepIn G.K (.ref a_threads_deep) = true
  g_threads_deep : mg "threads_deep" = some (.ref a_threads_deep)
  a_is_sign : Addr
  fd_is_sign : FuncData
  F_is_sign : Fun G.K "is_sign" "is_sign" s_is_sign a_is_sign fd_is_sign
  b_is_sign : Binds G.K fd_is_sign ["sign"] []
  kp_is_sign : PySem.W.keepIn G.K (.ref a_is_sign) = true
  g_is_sign : mg "is_sign" = some (.ref a_is_sign)
  a_is_word : Addr
  fd_is_word : FuncData
  F_is_word : Fun G.K "is_word" "is_word" s_is_word a_is_word fd_is_word
  b_is_word : Binds G.K fd_is_word ["thing"] []
  kp_is_word : PySem.W.keepIn G.K (.ref a_is_word) = true
  g_is_word : mg "is_word" = some (.ref a_is_word)
  a_tokens_of : Addr
  fd_tokens_of : FuncData
  F_tokens_of : Fun G.K "tokens_of" "tokens_of" s_tokens_of a_tokens_of fd_tokens_of
  b_tokens_of : Binds G.K fd_tokens_of ["text"] []
  kp_tokens_of : PySem.W.keepIn G.K (.ref a_tokens_of) = true
  g_tokens_of : mg "tokens_of" = some (.ref a_tokens_of)
  a_token_at : Addr
  fd_token_at : FuncData
  F_token_at : Fun G.K "token_at" "token_at" s_token_at a_token_at fd_token_at
  b_token_at : Binds G.K fd_token_at ["tokens", "at"] []
  kp_token_at : PySem.W.keepIn G.K (.ref a_token_at) = true
  g_token_at : mg "token_at" = some (.ref a_token_at)
  a_word_at : Addr
  fd_word_at : FuncData
  F_word_at : Fun G.K "word_at" "word_at" s_word_at a_word_at fd_word_at
  b_word_at : Binds G.K fd_word_at ["tokens", "at"] []
  kp_word_at : PySem.W.keepIn G.K (.ref a_word_at) = true
  g_word_at : mg "word_at" = some (.ref a_word_at)
  a_number_at : Addr
  fd_number_at : FuncData
  F_number_at : Fun G.K "number_at" "number_at" s_number_at a_number_at fd_number_at
  b_number_at : Binds G.K fd_number_at ["tokens", "at"] []
  kp_number_at : PySem.W.keepIn G.K (.ref a_number_at) = true
  g_number_at : mg "number_at" = some (.ref a_number_at)
  a_days_at : Addr
  fd_days_at : FuncData
  F_days_at : Fun G.K "days_at" "days_at" s_days_at a_days_at fd_days_at
  b_days_at : Binds G.K fd_days_at ["tokens", "at"] []
  kp_days_at : PySem.W.keepIn G.K (.ref a_days_at) = true
  g_days_at : mg "days_at" = some (.ref a_days_at)
  a_both_at : Addr
  fd_both_at : FuncData
  F_both_at : Fun G.K "both_at" "both_at" s_both_at a_both_at fd_both_at
  b_both_at : Binds G.K fd_both_at ["tokens", "at", "room"] []
  kp_both_at : PySem.W.keepIn G.K (.ref a_both_at) = true
  g_both_at : mg "both_at" = some (.ref a_both_at)
  a_either_at : Addr
  fd_either_at : FuncData
  F_either_at : Fun G.K "either_at" "either_at" s_either_at a_either_at fd_either_at
  b_either_at : Binds G.K fd_either_at ["tokens", "at", "room"] []
  kp_either_at : PySem.W.keepIn G.K (.ref a_either_at) = true
  g_either_at : mg "either_at" = some (.ref a_either_at)
  a_law_cell_at : Addr
  fd_law_cell_at : FuncData
  F_law_cell_at : Fun G.K "_law_cell_at" "_law_cell_at" s_law_cell_at a_law_cell_at fd_law_cell_at
  b_law_cell_at : Binds G.K fd_law_cell_at ["_law_script", "_law_k"] []
  kp_law_cell_at : PySem.W.keepIn G.K (.ref a_law_cell_at) = true
  g_law_cell_at : mg "_law_cell_at" = some (.ref a_law_cell_at)
  a_law_mixed : Addr
  fd_law_mixed : FuncData
  F_law_mixed : Fun G.K "_law_mixed" "_law_mixed" s_law_mixed a_law_mixed fd_law_mixed
  b_law_mixed : Binds G.K fd_law_mixed ["_law_script", "_law_start", "_law_many"] []
  kp_law_mixed : PySem.W.keepIn G.K (.ref a_law_mixed) = true
  g_law_mixed : mg "_law_mixed" = some (.ref a_law_mixed)
  a_law_word_by : Addr
  fd_law_word_by : FuncData
  F_law_word_by : Fun G.K "_law_word_by" "_law_word_by" s_law_word_by a_law_word_by fd_law_word_by
  b_law_word_by : Binds G.K fd_law_word_by ["_law_shape", "_law_k"] []
  kp_law_word_by : PySem.W.keepIn G.K (.ref a_law_word_by) = true
  g_law_word_by : mg "_law_word_by" = some (.ref a_law_word_by)
  a_law_leaf_by : Addr
  fd_law_leaf_by : FuncData
  F_law_leaf_by : Fun G.K "_law_leaf_by" "_law_leaf_by" s_law_leaf_by a_law_leaf_by fd_law_leaf_by
  b_law_leaf_by : Binds G.K fd_law_leaf_by ["_law_shape", "_law_cell"] []
  kp_law_leaf_by : PySem.W.keepIn G.K (.ref a_law_leaf_by) = true
  g_law_leaf_by : mg "_law_leaf_by" = some (.ref a_law_leaf_by)
  a_law_threads : Addr
  fd_law_threads : FuncData
  F_law_threads : Fun G.K "_law_threads" "_law_threads" s_law_threads a_law_threads fd_law_threads
  b_law_threads : Binds G.K fd_law_threads ["_law_tree"] []
  kp_law_threads : PySem.W.keepIn G.K (.ref a_law_threads) = true
  g_law_threads : mg "_law_threads" = some (.ref a_law_threads)
  a_law_tree_by : Addr
  fd_law_tree_by : FuncData
  F_law_tree_by : Fun G.K "_law_tree_by" "_law_tree_by" s_law_tree_by a_law_tree_by fd_law_tree_by
  b_law_tree_by : Binds G.K fd_law_tree_by ["_law_shape", "_law_cells"] []
  kp_law_tree_by : PySem.W.keepIn G.K (.ref a_law_tree_by) = true
  g_law_tree_by : mg "_law_tree_by" = some (.ref a_law_tree_by)
  a_law_number : Addr
  fd_law_number : FuncData
  F_law_number : Fun G.K "_law_number" "_law_number" s_law_number a_law_number fd_law_number
  b_law_number : Binds G.K fd_law_number ["_law_number_here", "_law_cell"] []
  kp_law_number : PySem.W.keepIn G.K (.ref a_law_number) = true
  g_law_number : mg "_law_number" = some (.ref a_law_number)
  a_law_day_tokens : Addr
  fd_law_day_tokens : FuncData
  F_law_day_tokens : Fun G.K "_law_day_tokens" "_law_day_tokens" s_law_day_tokens a_law_day_tokens fd_law_day_tokens
  b_law_day_tokens : Binds G.K fd_law_day_tokens ["_law_tree", "_law_cell"] []
  kp_law_day_tokens : PySem.W.keepIn G.K (.ref a_law_day_tokens) = true
  g_law_day_tokens : mg "_law_day_tokens" = some (.ref a_law_day_tokens)
  a_law_tokens : Addr
  fd_law_tokens : FuncData
  F_law_tokens : Fun G.K "_law_tokens" "_law_tokens" s_law_tokens a_law_tokens fd_law_tokens
  b_law_tokens : Binds G.K fd_law_tokens ["_law_tree", "_law_close", "_law_cells", "_law_at"] []
  kp_law_tokens : PySem.W.keepIn G.K (.ref a_law_tokens) = true
  g_law_tokens : mg "_law_tokens" = some (.ref a_law_tokens)
  a_law_joined : Addr
  fd_law_joined : FuncData
  F_law_joined : Fun G.K "_law_joined" "_law_joined" s_law_joined a_law_joined fd_law_joined
  b_law_joined : Binds G.K fd_law_joined ["_law_tokens_here", "_law_cells"] []
  kp_law_joined : PySem.W.keepIn G.K (.ref a_law_joined) = true
  g_law_joined : mg "_law_joined" = some (.ref a_law_joined)
  a_one_at : Addr
  fd_one_at : FuncData
  F_one_at : Fun G.K "one_at" "one_at" s_one_at a_one_at fd_one_at
  b_one_at : Binds G.K fd_one_at ["tokens", "at", "room"] []
  kp_one_at : PySem.W.keepIn G.K (.ref a_one_at) = true
  g_one_at : mg "one_at" = some (.ref a_one_at)
  a_whole_at : Addr
  fd_whole_at : FuncData
  F_whole_at : Fun G.K "whole_at" "whole_at" s_whole_at a_whole_at fd_whole_at
  b_whole_at : Binds G.K fd_whole_at ["tokens", "at"] []
  kp_whole_at : PySem.W.keepIn G.K (.ref a_whole_at) = true
  g_whole_at : mg "whole_at" = some (.ref a_whole_at)
  a_read_condition : Addr
  fd_read_condition : FuncData
  F_read_condition : Fun G.K "read_condition" "read_condition" s_read_condition a_read_condition fd_read_condition
  b_read_condition : Binds G.K fd_read_condition ["text"] []
  kp_read_condition : PySem.W.keepIn G.K (.ref a_read_condition) = true
  g_read_condition : mg "read_condition" = some (.ref a_read_condition)
  a_law : Addr
  fd_law : FuncData
  F_law : Fun G.K "law" "law" s_law a_law fd_law
  b_law : Binds G.K fd_law ["_law_script"] []
  kp_law : PySem.W.keepIn G.K (.ref a_law) = true
  g_law : mg "law" = some (.ref a_law)
  ko_Anything : MkO G.K (G.cl 1)
  ko_IsAnswer : MkO G.K (G.cl 8)
  g_Condition : mg "Condition" = some (.ref (G.cl 0))
  g_Anything : mg "Anything" = some (.ref (G.cl 1))
  cl_Anything : Cls G.K (G.cl 1)
  fz_Anything : G.fz (G.cl 1) = some 0
  g_HasWord : mg "HasWord" = some (.ref (G.cl 2))
  cl_HasWord : Cls G.K (G.cl 2)
  n_HasWord_word : NoAttr G.K (G.cl 2) "word"
  fz_HasWord : G.fz (G.cl 2) = some 1
  g_InTitle : mg "InTitle" = some (.ref (G.cl 3))
  cl_InTitle : Cls G.K (G.cl 3)
  n_InTitle_word : NoAttr G.K (G.cl 3) "word"
  fz_InTitle : G.fz (G.cl 3) = some 1
  g_FromSender : mg "FromSender" = some (.ref (G.cl 4))
  cl_FromSender : Cls G.K (G.cl 4)
  n_FromSender_word : NoAttr G.K (G.cl 4) "word"
  fz_FromSender : G.fz (G.cl 4) = some 1
  g_InFolder : mg "InFolder" = some (.ref (G.cl 5))
  cl_InFolder : Cls G.K (G.cl 5)
  n_InFolder_word : NoAttr G.K (G.cl 5) "word"
  fz_InFolder : G.fz (G.cl 5) = some 1
  g_IsMarked : mg "IsMarked" = some (.ref (G.cl 6))
  cl_IsMarked : Cls G.K (G.cl 6)
  n_IsMarked_word : NoAttr G.K (G.cl 6) "word"
  fz_IsMarked : G.fz (G.cl 6) = some 1
  g_OnDays : mg "OnDays" = some (.ref (G.cl 7))
  cl_OnDays : Cls G.K (G.cl 7)
  n_OnDays_low : NoAttr G.K (G.cl 7) "low"
  n_OnDays_high : NoAttr G.K (G.cl 7) "high"
  fz_OnDays : G.fz (G.cl 7) = some 2
  g_IsAnswer : mg "IsAnswer" = some (.ref (G.cl 8))
  cl_IsAnswer : Cls G.K (G.cl 8)
  fz_IsAnswer : G.fz (G.cl 8) = some 0
  g_NotSo : mg "NotSo" = some (.ref (G.cl 9))
  cl_NotSo : Cls G.K (G.cl 9)
  n_NotSo_inner : NoAttr G.K (G.cl 9) "inner"
  fz_NotSo : G.fz (G.cl 9) = some 1
  g_InThread : mg "InThread" = some (.ref (G.cl 10))
  cl_InThread : Cls G.K (G.cl 10)
  n_InThread_inner : NoAttr G.K (G.cl 10) "inner"
  fz_InThread : G.fz (G.cl 10) = some 1
  g_BothSo : mg "BothSo" = some (.ref (G.cl 11))
  cl_BothSo : Cls G.K (G.cl 11)
  n_BothSo_first : NoAttr G.K (G.cl 11) "first"
  n_BothSo_second : NoAttr G.K (G.cl 11) "second"
  fz_BothSo : G.fz (G.cl 11) = some 2
  g_EitherSo : mg "EitherSo" = some (.ref (G.cl 12))
  cl_EitherSo : Cls G.K (G.cl 12)
  n_EitherSo_first : NoAttr G.K (G.cl 12) "first"
  n_EitherSo_second : NoAttr G.K (G.cl 12) "second"
  fz_EitherSo : G.fz (G.cl 12) = some 2
  g_MailError : mg "MailError" = some (.ref (G.cl 13))
  g_NoRule : mg "NoRule" = some (.ref (G.cl 14))
  tc_Cond_Condition : ∀ {i : Nat}, isC_Cond i = true → InsC G.K (G.cl i) (G.cl 0)
  z_all : mg "all" = none
  z_int : mg "int" = none
  z_isinstance : mg "isinstance" = none
  z_len : mg "len" = none
  z_list : mg "list" = none
  z_max : mg "max" = none
  z_range : mg "range" = none
  z_str : mg "str" = none
  z_tuple : mg "tuple" = none
  t_FIGURES_reading : Tok
  c_FIGURES_reading : mg "FIGURES_reading" = some (.str ("0123456789" : Str) t_FIGURES_reading)
  t_FIGURES_words : Tok
  c_FIGURES_words : mg "FIGURES_words" = some (.str ("0123456789" : Str) t_FIGURES_words)
  t_LAST_DAY : Tok
  c_LAST_DAY : mg "LAST_DAY" = some (.int 9999 t_LAST_DAY)
  t_MOST_DEEP : Tok
  c_MOST_DEEP : mg "MOST_DEEP" = some (.int 30 t_MOST_DEEP)
  t_MOST_OPEN : Tok
  c_MOST_OPEN : mg "MOST_OPEN" = some (.int 40 t_MOST_OPEN)
  t_MOST_SIGNS : Tok
  c_MOST_SIGNS : mg "MOST_SIGNS" = some (.int 20 t_MOST_SIGNS)
  t_MOST_THREADS : Tok
  c_MOST_THREADS : mg "MOST_THREADS" = some (.int 2 t_MOST_THREADS)
  t_SMALL : Tok
  c_SMALL : mg "SMALL" = some (.str ("abcdefghijklmnopqrstuvwxyz" : Str) t_SMALL)
section
variable {P : Program} {w : World} {G : Gx} {mg : Str → Option Value} {base : Heap}
def sp_Anything_tree (G : Gx) : Sp := fun vs H Q E => ∃ (a_v_self : Addr) (v_self : Anything) (F : Asn G), vs = [(.ref a_v_self)] ∧ Im.im G H (.ref a_v_self) v_self ∧ Sep H ([F] : List (Asn G)) ∧ R.wp (m_Anything_tree v_self) (fun r => ∀ (p : V) H', Sep H' ([imA p (r : Any), F] : List (Asn G)) → Q p H') (fun _ => False)
abbrev N_Anything_tree : List Str := ["self"]
theorem sc_Anything_tree : FnScope N_Anything_tree ["self"] (defScope s_Anything_tree) := ⟨rfl, rfl, rfl, by decide +kernel, rfl, by decide +kernel, by decide +kernel⟩
theorem ok_Anything_tree (T : Txt G mg) : FnOk P w G.K mg base CX0 1 T.a_Anything_tree T.fd_Anything_tree ["self"] (sp_Anything_tree G) := by
  have nd := sc_Anything_tree.nd
  refine Fun.ok T.F_Anything_tree sc_Anything_tree (fun vs H Q E h => ?_) (fun cdv A outer s H vs Q E hr h => ?_)
  · obtain ⟨a_v_self, v_self, F, rfl, _⟩ := h; rfl
  · obtain ⟨a_v_self, v_self, F, rfl, him_v_self, hS, hm⟩ := h
    have hS := hS.addIm him_v_self
    refine ⟨_, (pss_one (ps_ret (pe_tup (pa_cons pe_str pa_nil)))), ?_⟩
    unfold m_Anything_tree at hm
    refine c_ret ?_
    refine c_tup ?_
    refine ea_to (ea_cons ev_c ea_nil) ?_
    refine k_tupA (vs := [(.str (("any" : Str)))]) (xs := [(Any.str ("any" : Str))]) hS ⟨(any_str.mpr rfl), True.intro⟩ (by show 1 ≤ sizeLine; decide) fun p1 H hS => ?_
    exact hm _ _ (hS.sel [0, 2] (by decide) rfl)
def sp_OfWord___init___HasWord (G : Gx) : Sp := fun vs H Q E => ∃ (a_v_self d_v_self : Addr) (v_word : Str) (F : Asn G), vs = [.ref a_v_self, (.str (v_word))] ∧ Sep H ([cell a_v_self (.ins (G.cl 2) d_v_self []), F] : List (Asn G)) ∧ R.wp (m_OfWord___init___HasWord v_word) (fun r => ∀ H', Sep H' ([imA (.ref a_v_self) (r : HasWord), F] : List (Asn G)) → Q .non H') (fun _ => False)
abbrev N_OfWord___init___HasWord : List Str := ["self", "word"]
theorem sc_OfWord___init___HasWord : FnScope N_OfWord___init___HasWord ["self", "word"] (defScope s_OfWord___init__) := ⟨rfl, rfl, rfl, by decide +kernel, rfl, by decide +kernel, by decide +kernel⟩
theorem ok_OfWord___init___HasWord (T : Txt G mg) : FnOk P w G.K mg base CX0 1 T.a_OfWord___init__ T.fd_OfWord___init__ ["self", "word"] (sp_OfWord___init___HasWord G) := by
  have nd := sc_OfWord___init___HasWord.nd
  refine Fun.ok T.F_OfWord___init__ sc_OfWord___init___HasWord (fun vs H Q E h => ?_) (fun cdv A outer s H vs Q E hr h => ?_)
  · obtain ⟨a_v_self, d_v_self, v_word, F, rfl, _⟩ := h; rfl
  · obtain ⟨a_v_self, d_v_self, v_word, F, rfl, hS, hm⟩ := h
    refine ⟨_, (pss_one (ps_fld (pv 0) (pv 1) rfl)), ?_⟩
    unfold m_OfWord___init___HasWord at hm
    refine c_sfld ?_
    refine ev_to (ev_var rfl) ?_
    refine ev_to (ev_var rfl) ?_
    refine k_sfldP (fs' := [("word", (.str (v_word)))]) hS (i := 0) rfl T.cl_HasWord T.n_HasWord_word rfl (by show 0 < 1000; decide) (by show decide (G.fz (G.cl 2) = some 1) = true; rw [T.fz_HasWord]; rfl) rfl fun H hO hT hS => ?_
    have hS : Sep H ([F] : List (Asn G)) := hS
    have hS := hS.addIm (v := (.ref a_v_self)) (x := (⟨v_word⟩ : HasWord)) (mk_HasWord T.fz_HasWord hO)
    exact hm _ (hS.sel [0, 1] (by decide) rfl)
def sp_OfWord___init___InTitle (G : Gx) : Sp := fun vs H Q E => ∃ (a_v_self d_v_self : Addr) (v_word : Str) (F : Asn G), vs = [.ref a_v_self, (.str (v_word))] ∧ Sep H ([cell a_v_self (.ins (G.cl 3) d_v_self []), F] : List (Asn G)) ∧ R.wp (m_OfWord___init___InTitle v_word) (fun r => ∀ H', Sep H' ([imA (.ref a_v_self) (r : InTitle), F] : List (Asn G)) → Q .non H') (fun _ => False)
abbrev N_OfWord___init___InTitle : List Str := ["self", "word"]
theorem sc_OfWord___init___InTitle : FnScope N_OfWord___init___InTitle ["self", "word"] (defScope s_OfWord___init__) := ⟨rfl, rfl, rfl, by decide +kernel, rfl, by decide +kernel, by decide +kernel⟩
theorem ok_OfWord___init___InTitle (T : Txt G mg) : FnOk P w G.K mg base CX0 1 T.a_OfWord___init__ T.fd_OfWord___init__ ["self", "word"] (sp_OfWord___init___InTitle G) := by
  have nd := sc_OfWord___init___InTitle.nd
  refine Fun.ok T.F_OfWord___init__ sc_OfWord___init___InTitle (fun vs H Q E h => ?_) (fun cdv A outer s H vs Q E hr h => ?_)
  · obtain ⟨a_v_self, d_v_self, v_word, F, rfl, _⟩ := h; rfl
  · obtain ⟨a_v_self, d_v_self, v_word, F, rfl, hS, hm⟩ := h
    refine ⟨_, (pss_one (ps_fld (pv 0) (pv 1) rfl)), ?_⟩
    unfold m_OfWord___init___InTitle at hm
    refine c_sfld ?_
    refine ev_to (ev_var rfl) ?_
    refine ev_to (ev_var rfl) ?_
    refine k_sfldP (fs' := [("word", (.str (v_word)))]) hS (i := 0) rfl T.cl_InTitle T.n_InTitle_word rfl (by show 0 < 1000; decide) (by show decide (G.fz (G.cl 3) = some 1) = true; rw [T.fz_InTitle]; rfl) rfl fun H hO hT hS => ?_
    have hS : Sep H ([F] : List (Asn G)) := hS
    have hS := hS.addIm (v := (.ref a_v_self)) (x := (⟨v_word⟩ : InTitle)) (mk_InTitle T.fz_InTitle hO)
    exact hm _ (hS.sel [0, 1] (by decide) rfl)
def sp_OfWord___init___FromSender (G : Gx) : Sp := fun vs H Q E => ∃ (a_v_self d_v_self : Addr) (v_word : Str) (F : Asn G), vs = [.ref a_v_self, (.str (v_word))] ∧ Sep H ([cell a_v_self (.ins (G.cl 4) d_v_self []), F] : List (Asn G)) ∧ R.wp (m_OfWord___init___FromSender v_word) (fun r => ∀ H', Sep H' ([imA (.ref a_v_self) (r : FromSender), F] : List (Asn G)) → Q .non H') (fun _ => False)
abbrev N_OfWord___init___FromSender : List Str := ["self", "word"]
theorem sc_OfWord___init___FromSender : FnScope N_OfWord___init___FromSender ["self", "word"] (defScope s_OfWord___init__) := ⟨rfl, rfl, rfl, by decide +kernel, rfl, by decide +kernel, by decide +kernel⟩
theorem ok_OfWord___init___FromSender (T : Txt G mg) : FnOk P w G.K mg base CX0 1 T.a_OfWord___init__ T.fd_OfWord___init__ ["self", "word"] (sp_OfWord___init___FromSender G) := by
  have nd := sc_OfWord___init___FromSender.nd
  refine Fun.ok T.F_OfWord___init__ sc_OfWord___init___FromSender (fun vs H Q E h => ?_) (fun cdv A outer s H vs Q E hr h => ?_)
  · obtain ⟨a_v_self, d_v_self, v_word, F, rfl, _⟩ := h; rfl
  · obtain ⟨a_v_self, d_v_self, v_word, F, rfl, hS, hm⟩ := h
    refine ⟨_, (pss_one (ps_fld (pv 0) (pv 1) rfl)), ?_⟩
    unfold m_OfWord___init___FromSender at hm
    refine c_sfld ?_
    refine ev_to (ev_var rfl) ?_
    refine ev_to (ev_var rfl) ?_
    refine k_sfldP (fs' := [("word", (.str (v_word)))]) hS (i := 0) rfl T.cl_FromSender T.n_FromSender_word rfl (by show 0 < 1000; decide) (by show decide (G.fz (G.cl 4) = some 1) = true; rw [T.fz_FromSender]; rfl) rfl fun H hO hT hS => ?_
    have hS : Sep H ([F] : List (Asn G)) := hS
    have hS := hS.addIm (v := (.ref a_v_self)) (x := (⟨v_word⟩ : FromSender)) (mk_FromSender T.fz_FromSender hO)
    exact hm _ (hS.sel [0, 1] (by decide) rfl)
def sp_OfWord___init___InFolder (G : Gx) : Sp := fun vs H Q E => ∃ (a_v_self d_v_self : Addr) (v_word : Str) (F : Asn G), vs = [.ref a_v_self, (.str (v_word))] ∧ Sep H ([cell a_v_self (.ins (G.cl 5) d_v_self []), F] : List (Asn G)) ∧ R.wp (m_OfWord___init___InFolder v_word) (fun r => ∀ H', Sep H' ([imA (.ref a_v_self) (r : InFolder), F] : List (Asn G)) → Q .non H') (fun _ => False)
abbrev N_OfWord___init___InFolder : List Str := ["self", "word"]
theorem sc_OfWord___init___InFolder : FnScope N_OfWord___init___InFolder ["self", "word"] (defScope s_OfWord___init__) := ⟨rfl, rfl, rfl, by decide +kernel, rfl, by decide +kernel, by decide +kernel⟩
theorem ok_OfWord___init___InFolder (T : Txt G mg) : FnOk P w G.K mg base CX0 1 T.a_OfWord___init__ T.fd_OfWord___init__ ["self", "word"] (sp_OfWord___init___InFolder G) := by
  have nd := sc_OfWord___init___InFolder.nd
  refine Fun.ok T.F_OfWord___init__ sc_OfWord___init___InFolder (fun vs H Q E h => ?_) (fun cdv A outer s H vs Q E hr h => ?_)
  · obtain ⟨a_v_self, d_v_self, v_word, F, rfl, _⟩ := h; rfl
  · obtain ⟨a_v_self, d_v_self, v_word, F, rfl, hS, hm⟩ := h
    refine ⟨_, (pss_one (ps_fld (pv 0) (pv 1) rfl)), ?_⟩
    unfold m_OfWord___init___InFolder at hm
    refine c_sfld ?_
    refine ev_to (ev_var rfl) ?_
    refine ev_to (ev_var rfl) ?_
    refine k_sfldP (fs' := [("word", (.str (v_word)))]) hS (i := 0) rfl T.cl_InFolder T.n_InFolder_word rfl (by show 0 < 1000; decide) (by show decide (G.fz (G.cl 5) = some 1) = true; rw [T.fz_InFolder]; rfl) rfl fun H hO hT hS => ?_
    have hS : Sep H ([F] : List (Asn G)) := hS
    have hS := hS.addIm (v := (.ref a_v_self)) (x := (⟨v_word⟩ : InFolder)) (mk_InFolder T.fz_InFolder hO)
    exact hm _ (hS.sel [0, 1] (by decide) rfl)
def sp_OfWord___init___IsMarked (G : Gx) : Sp := fun vs H Q E => ∃ (a_v_self d_v_self : Addr) (v_word : Str) (F : Asn G), vs = [.ref a_v_self, (.str (v_word))] ∧ Sep H ([cell a_v_self (.ins (G.cl 6) d_v_self []), F] : List (Asn G)) ∧ R.wp (m_OfWord___init___IsMarked v_word) (fun r => ∀ H', Sep H' ([imA (.ref a_v_self) (r : IsMarked), F] : List (Asn G)) → Q .non H') (fun _ => False)
abbrev N_OfWord___init___IsMarked : List Str := ["self", "word"]
theorem sc_OfWord___init___IsMarked : FnScope N_OfWord___init___IsMarked ["self", "word"] (defScope s_OfWord___init__) := ⟨rfl, rfl, rfl, by decide +kernel, rfl, by decide +kernel, by decide +kernel⟩
theorem ok_OfWord___init___IsMarked (T : Txt G mg) : FnOk P w G.K mg base CX0 1 T.a_OfWord___init__ T.fd_OfWord___init__ ["self", "word"] (sp_OfWord___init___IsMarked G) := by
  have nd := sc_OfWord___init___IsMarked.nd
  refine Fun.ok T.F_OfWord___init__ sc_OfWord___init___IsMarked (fun vs H Q E h => ?_) (fun cdv A outer s H vs Q E hr h => ?_)
  · obtain ⟨a_v_self, d_v_self, v_word, F, rfl, _⟩ := h; rfl
  · obtain ⟨a_v_self, d_v_self, v_word, F, rfl, hS, hm⟩ := h
    refine ⟨_, (pss_one (ps_fld (pv 0) (pv 1) rfl)), ?_⟩
    unfold m_OfWord___init___IsMarked at hm
    refine c_sfld ?_
    refine ev_to (ev_var rfl) ?_
    refine ev_to (ev_var rfl) ?_
    refine k_sfldP (fs' := [("word", (.str (v_word)))]) hS (i := 0) rfl T.cl_IsMarked T.n_IsMarked_word rfl (by show 0 < 1000; decide) (by show decide (G.fz (G.cl 6) = some 1) = true; rw [T.fz_IsMarked]; rfl) rfl fun H hO hT hS => ?_
    have hS : Sep H ([F] : List (Asn G)) := hS
    have hS := hS.addIm (v := (.ref a_v_self)) (x := (⟨v_word⟩ : IsMarked)) (mk_IsMarked T.fz_IsMarked hO)
    exact hm _ (hS.sel [0, 1] (by decide) rfl)
def sp_OfWord_sign_HasWord (G : Gx) : Sp := fun vs H Q E => ∃ (a_v_self : Addr) (v_self : HasWord) (F : Asn G), vs = [(.ref a_v_self)] ∧ Im.im G H (.ref a_v_self) v_self ∧ Sep H ([F] : List (Asn G)) ∧ R.wp (m_OfWord_sign_HasWord v_self) (fun r => ∀ H', Sep H' ([F] : List (Asn G)) → Q (.str (r)) H') (fun _ => False)
abbrev N_OfWord_sign_HasWord : List Str := ["self"]
theorem sc_OfWord_sign_HasWord : FnScope N_OfWord_sign_HasWord ["self"] (defScope s_OfWord_sign) := ⟨rfl, rfl, rfl, by decide +kernel, rfl, by decide +kernel, by decide +kernel⟩
theorem ok_OfWord_sign_HasWord (T : Txt G mg) : FnOk P w G.K mg base CX0 1 T.a_OfWord_sign T.fd_OfWord_sign ["self"] (sp_OfWord_sign_HasWord G) := by
  have nd := sc_OfWord_sign_HasWord.nd
  refine Fun.ok T.F_OfWord_sign sc_OfWord_sign_HasWord (fun vs H Q E h => ?_) (fun cdv A outer s H vs Q E hr h => ?_)
  · obtain ⟨a_v_self, v_self, F, rfl, _⟩ := h; rfl
  · obtain ⟨a_v_self, v_self, F, rfl, him_v_self, hS, hm⟩ := h
    have hS := hS.addIm him_v_self
    refine ⟨_, (pss_one (ps_ret pe_str)), ?_⟩
    unfold m_OfWord_sign_HasWord at hm
    refine c_ret ?_
    refine ev_to ev_c ?_
    exact hm _ (hS.sel [1] (by decide) rfl)
def sp_OfWord_tree_HasWord (G : Gx) : Sp := fun vs H Q E => ∃ (a_v_self : Addr) (v_self : HasWord) (F : Asn G), vs = [(.ref a_v_self)] ∧ Im.im G H (.ref a_v_self) v_self ∧ Sep H ([F] : List (Asn G)) ∧ R.wp (m_OfWord_tree_HasWord v_self) (fun r => ∀ (p : V) H', Sep H' ([imA p (r : Any), F] : List (Asn G)) → Q p H') (fun _ => False)
abbrev N_OfWord_tree_HasWord : List Str := ["self"]
theorem sc_OfWord_tree_HasWord : FnScope N_OfWord_tree_HasWord ["self"] (defScope s_OfWord_tree) := ⟨rfl, rfl, rfl, by decide +kernel, rfl, by decide +kernel, by decide +kernel⟩
theorem ok_OfWord_tree_HasWord (T : Txt G mg) : FnOk P w G.K mg base CX0 2 T.a_OfWord_tree T.fd_OfWord_tree ["self"] (sp_OfWord_tree_HasWord G) := by
  have nd := sc_OfWord_tree_HasWord.nd
  refine Fun.ok T.F_OfWord_tree sc_OfWord_tree_HasWord (fun vs H Q E h => ?_) (fun cdv A outer s H vs Q E hr h => ?_)
  · obtain ⟨a_v_self, v_self, F, rfl, _⟩ := h; rfl
  · obtain ⟨a_v_self, v_self, F, rfl, him_v_self, hS, hm⟩ := h
    have hS := hS.addIm him_v_self
    refine ⟨_, (pss_one (ps_ret (pe_tup (pa_cons (pe_meth0 (pv 0) T.cl_HasWord T.m_HasWord_sign (ok_OfWord_sign_HasWord T) (hr.mono (by decide)) T.b_OfWord_sign .nil pass0) (pa_cons (pe_fld (pv 0) rfl) pa_nil))))), ?_⟩
    unfold m_OfWord_tree_HasWord at hm
    refine c_ret ?_
    refine c_tup ?_
    refine c_cons ?_
    refine c_meth ?_
    refine ev_to (ev_var rfl) ?_
    obtain ⟨d1, hO2⟩ := im_HasWord (hS.im (i := 0) rfl)
    refine ⟨_, _, _, rfl, hO2, rfl, ?_⟩
    refine ea_to ea_nil ?_
    refine ⟨a_v_self, (v_self : HasWord), star [imA (.ref a_v_self) (v_self : HasWord), F], rfl, (hS.im (i := 0) rfl), Sep.unstar (M := []) (hS.sel [0, 1] (by decide) rfl : Sep H (([] ++ [imA (.ref a_v_self) (v_self : HasWord), F] : List (Asn G)))), R.wp_mono (R.wp_bind hm) (fun r3 hm H hS => ?_) (fun _ z => z)⟩
    have hS : Sep H ([imA (.ref a_v_self) (v_self : HasWord), F] : List (Asn G)) := Sep.star (M := []) hS
    refine c_cons ?_
    obtain ⟨d4, hO5⟩ := im_HasWord (hS.im (i := 0) rfl)
    refine ev_to (ev_fld (ev_var rfl) hO5 T.cl_HasWord T.n_HasWord_word rfl) ?_
    refine c_nil ?_
    refine k_tupA (vs := [(.str (r3)), (.str (v_self.word))]) (xs := [(Any.str r3), (Any.str v_self.word)]) hS ⟨(any_str.mpr rfl), ⟨(any_str.mpr rfl), True.intro⟩⟩ (by show 2 ≤ sizeLine; decide) fun p6 H hS => ?_
    exact hm _ _ (hS.sel [0, 2] (by decide) rfl)
def sp_InTitle_sign (G : Gx) : Sp := fun vs H Q E => ∃ (a_v_self : Addr) (v_self : InTitle) (F : Asn G), vs = [(.ref a_v_self)] ∧ Im.im G H (.ref a_v_self) v_self ∧ Sep H ([F] : List (Asn G)) ∧ R.wp (m_InTitle_sign v_self) (fun r => ∀ H', Sep H' ([F] : List (Asn G)) → Q (.str (r)) H') (fun _ => False)
abbrev N_InTitle_sign : List Str := ["self"]
theorem sc_InTitle_sign : FnScope N_InTitle_sign ["self"] (defScope s_InTitle_sign) := ⟨rfl, rfl, rfl, by decide +kernel, rfl, by decide +kernel, by decide +kernel⟩
theorem ok_InTitle_sign (T : Txt G mg) : FnOk P w G.K mg base CX0 1 T.a_InTitle_sign T.fd_InTitle_sign ["self"] (sp_InTitle_sign G) := by
  have nd := sc_InTitle_sign.nd
  refine Fun.ok T.F_InTitle_sign sc_InTitle_sign (fun vs H Q E h => ?_) (fun cdv A outer s H vs Q E hr h => ?_)
  · obtain ⟨a_v_self, v_self, F, rfl, _⟩ := h; rfl
  · obtain ⟨a_v_self, v_self, F, rfl, him_v_self, hS, hm⟩ := h
    have hS := hS.addIm him_v_self
    refine ⟨_, (pss_one (ps_ret pe_str)), ?_⟩
    unfold m_InTitle_sign at hm
    refine c_ret ?_
    refine ev_to ev_c ?_
    exact hm _ (hS.sel [1] (by decide) rfl)
def sp_FromSender_sign (G : Gx) : Sp := fun vs H Q E => ∃ (a_v_self : Addr) (v_self : FromSender) (F : Asn G), vs = [(.ref a_v_self)] ∧ Im.im G H (.ref a_v_self) v_self ∧ Sep H ([F] : List (Asn G)) ∧ R.wp (m_FromSender_sign v_self) (fun r => ∀ H', Sep H' ([F] : List (Asn G)) → Q (.str (r)) H') (fun _ => False)
abbrev N_FromSender_sign : List Str := ["self"]
theorem sc_FromSender_sign : FnScope N_FromSender_sign ["self"] (defScope s_FromSender_sign) := ⟨rfl, rfl, rfl, by decide +kernel, rfl, by decide +kernel, by decide +kernel⟩
theorem ok_FromSender_sign (T : Txt G mg) : FnOk P w G.K mg base CX0 1 T.a_FromSender_sign T.fd_FromSender_sign ["self"] (sp_FromSender_sign G) := by
  have nd := sc_FromSender_sign.nd
  refine Fun.ok T.F_FromSender_sign sc_FromSender_sign (fun vs H Q E h => ?_) (fun cdv A outer s H vs Q E hr h => ?_)
  · obtain ⟨a_v_self, v_self, F, rfl, _⟩ := h; rfl
  · obtain ⟨a_v_self, v_self, F, rfl, him_v_self, hS, hm⟩ := h
    have hS := hS.addIm him_v_self
    refine ⟨_, (pss_one (ps_ret pe_str)), ?_⟩
    unfold m_FromSender_sign at hm
    refine c_ret ?_
    refine ev_to ev_c ?_
    exact hm _ (hS.sel [1] (by decide) rfl)
def sp_InFolder_sign (G : Gx) : Sp := fun vs H Q E => ∃ (a_v_self : Addr) (v_self : InFolder) (F : Asn G), vs = [(.ref a_v_self)] ∧ Im.im G H (.ref a_v_self) v_self ∧ Sep H ([F] : List (Asn G)) ∧ R.wp (m_InFolder_sign v_self) (fun r => ∀ H', Sep H' ([F] : List (Asn G)) → Q (.str (r)) H') (fun _ => False)
abbrev N_InFolder_sign : List Str := ["self"]
theorem sc_InFolder_sign : FnScope N_InFolder_sign ["self"] (defScope s_InFolder_sign) := ⟨rfl, rfl, rfl, by decide +kernel, rfl, by decide +kernel, by decide +kernel⟩
theorem ok_InFolder_sign (T : Txt G mg) : FnOk P w G.K mg base CX0 1 T.a_InFolder_sign T.fd_InFolder_sign ["self"] (sp_InFolder_sign G) := by
  have nd := sc_InFolder_sign.nd
  refine Fun.ok T.F_InFolder_sign sc_InFolder_sign (fun vs H Q E h => ?_) (fun cdv A outer s H vs Q E hr h => ?_)
  · obtain ⟨a_v_self, v_self, F, rfl, _⟩ := h; rfl
  · obtain ⟨a_v_self, v_self, F, rfl, him_v_self, hS, hm⟩ := h
    have hS := hS.addIm him_v_self
    refine ⟨_, (pss_one (ps_ret pe_str)), ?_⟩
    unfold m_InFolder_sign at hm
    refine c_ret ?_
    refine ev_to ev_c ?_
    exact hm _ (hS.sel [1] (by decide) rfl)
def sp_IsMarked_sign (G : Gx) : Sp := fun vs H Q E => ∃ (a_v_self : Addr) (v_self : IsMarked) (F : Asn G), vs = [(.ref a_v_self)] ∧ Im.im G H (.ref a_v_self) v_self ∧ Sep H ([F] : List (Asn G)) ∧ R.wp (m_IsMarked_sign v_self) (fun r => ∀ H', Sep H' ([F] : List (Asn G)) → Q (.str (r)) H') (fun _ => False)
abbrev N_IsMarked_sign : List Str := ["self"]
theorem sc_IsMarked_sign : FnScope N_IsMarked_sign ["self"] (defScope s_IsMarked_sign) := ⟨rfl, rfl, rfl, by decide +kernel, rfl, by decide +kernel, by decide +kernel⟩
theorem ok_IsMarked_sign (T : Txt G mg) : FnOk P w G.K mg base CX0 1 T.a_IsMarked_sign T.fd_IsMarked_sign ["self"] (sp_IsMarked_sign G) := by
  have nd := sc_IsMarked_sign.nd
  refine Fun.ok T.F_IsMarked_sign sc_IsMarked_sign (fun vs H Q E h => ?_) (fun cdv A outer s H vs Q E hr h => ?_)
  · obtain ⟨a_v_self, v_self, F, rfl, _⟩ := h; rfl
  · obtain ⟨a_v_self, v_self, F, rfl, him_v_self, hS, hm⟩ := h
    have hS := hS.addIm him_v_self
    refine ⟨_, (pss_one (ps_ret pe_str)), ?_⟩
    unfold m_IsMarked_sign at hm
    refine c_ret ?_
    refine ev_to ev_c ?_
    exact hm _ (hS.sel [1] (by decide) rfl)
def sp_OnDays___init__ (G : Gx) : Sp := fun vs H Q E => ∃ (a_v_self d_v_self : Addr) (v_low : Int) (v_high : Int) (F : Asn G), vs = [.ref a_v_self, (.int (v_low)), (.int (v_high))] ∧ Sep H ([cell a_v_self (.ins (G.cl 7) d_v_self []), F] : List (Asn G)) ∧ R.wp (m_OnDays___init__ v_low v_high) (fun r => ∀ H', Sep H' ([imA (.ref a_v_self) (r : OnDays), F] : List (Asn G)) → Q .non H') (fun _ => False)
abbrev N_OnDays___init__ : List Str := ["self", "low", "high"]
theorem sc_OnDays___init__ : FnScope N_OnDays___init__ ["self", "low", "high"] (defScope s_OnDays___init__) := ⟨rfl, rfl, rfl, by decide +kernel, rfl, by decide +kernel, by decide +kernel⟩
theorem ok_OnDays___init__ (T : Txt G mg) : FnOk P w G.K mg base CX0 1 T.a_OnDays___init__ T.fd_OnDays___init__ ["self", "low", "high"] (sp_OnDays___init__ G) := by
  have nd := sc_OnDays___init__.nd
  refine Fun.ok T.F_OnDays___init__ sc_OnDays___init__ (fun vs H Q E h => ?_) (fun cdv A outer s H vs Q E hr h => ?_)
  · obtain ⟨a_v_self, d_v_self, v_low, v_high, F, rfl, _⟩ := h; rfl
  · obtain ⟨a_v_self, d_v_self, v_low, v_high, F, rfl, hS, hm⟩ := h
    refine ⟨_, (pss_cons (ps_fld (pv 0) (pv 1) rfl)
      (pss_one (ps_fld (pv 0) (pv 2) rfl))), ?_⟩
    unfold m_OnDays___init__ at hm
    refine f_seq ?_
    refine c_sfld ?_
    refine ev_to (ev_var rfl) ?_
    refine ev_to (ev_var rfl) ?_
    refine k_sfld (fs' := [("low", (.int (v_low)))]) hS (i := 0) rfl T.cl_OnDays T.n_OnDays_low rfl (by show 0 < 1000; decide) (by show decide (G.fz (G.cl 7) = some 1) = false; rw [T.fz_OnDays]; rfl) rfl fun H hS => ?_
    have hS : Sep H ([cell a_v_self (.ins (G.cl 7) d_v_self [("low", (.int (v_low)))]), F] : List (Asn G)) := hS
    refine sq_nx ?_
    refine c_sfld ?_
    refine ev_to (ev_var rfl) ?_
    refine ev_to (ev_var rfl) ?_
    refine k_sfldP (fs' := [("low", (.int (v_low))), ("high", (.int (v_high)))]) hS (i := 0) rfl T.cl_OnDays T.n_OnDays_high rfl (by show 1 < 1000; decide) (by show decide (G.fz (G.cl 7) = some 2) = true; rw [T.fz_OnDays]; rfl) rfl fun H hO hT hS => ?_
    have hS : Sep H ([F] : List (Asn G)) := hS
    have hS := hS.addIm (v := (.ref a_v_self)) (x := (⟨v_low, v_high⟩ : OnDays)) (mk_OnDays T.fz_OnDays hO)
    exact hm _ (hS.sel [0, 1] (by decide) rfl)
def sp_OnDays_tree (G : Gx) : Sp := fun vs H Q E => ∃ (a_v_self : Addr) (v_self : OnDays) (F : Asn G), vs = [(.ref a_v_self)] ∧ Im.im G H (.ref a_v_self) v_self ∧ Sep H ([F] : List (Asn G)) ∧ R.wp (m_OnDays_tree v_self) (fun r => ∀ (p : V) H', Sep H' ([imA p (r : Any), F] : List (Asn G)) → Q p H') (fun _ => False)
abbrev N_OnDays_tree : List Str := ["self"]
theorem sc_OnDays_tree : FnScope N_OnDays_tree ["self"] (defScope s_OnDays_tree) := ⟨rfl, rfl, rfl, by decide +kernel, rfl, by decide +kernel, by decide +kernel⟩
theorem ok_OnDays_tree (T : Txt G mg) : FnOk P w G.K mg base CX0 1 T.a_OnDays_tree T.fd_OnDays_tree ["self"] (sp_OnDays_tree G) := by
  have nd := sc_OnDays_tree.nd
  refine Fun.ok T.F_OnDays_tree sc_OnDays_tree (fun vs H Q E h => ?_) (fun cdv A outer s H vs Q E hr h => ?_)
  · obtain ⟨a_v_self, v_self, F, rfl, _⟩ := h; rfl
  · obtain ⟨a_v_self, v_self, F, rfl, him_v_self, hS, hm⟩ := h
    have hS := hS.addIm him_v_self
    refine ⟨_, (pss_one (ps_ret (pe_tup (pa_cons pe_str (pa_cons (pe_fld (pv 0) rfl) (pa_cons (pe_fld (pv 0) rfl) pa_nil)))))), ?_⟩
    unfold m_OnDays_tree at hm
    refine c_ret ?_
    refine c_tup ?_
    obtain ⟨d1, hO2⟩ := im_OnDays (hS.im (i := 0) rfl)
    obtain ⟨d3, hO4⟩ := im_OnDays (hS.im (i := 0) rfl)
    refine ea_to (ea_cons ev_c (ea_cons (ev_fld (ev_var rfl) hO2 T.cl_OnDays T.n_OnDays_low rfl) (ea_cons (ev_fld (ev_var rfl) hO4 T.cl_OnDays T.n_OnDays_high rfl) ea_nil))) ?_
    refine k_tupA (vs := [(.str (("day" : Str))), (.int (v_self.low)), (.int (v_self.high))]) (xs := [(Any.str ("day" : Str)), (Any.int v_self.low), (Any.int v_self.high)]) hS ⟨(any_str.mpr rfl), ⟨(any_int.mpr rfl), ⟨(any_int.mpr rfl), True.intro⟩⟩⟩ (by show 3 ≤ sizeLine; decide) fun p5 H hS => ?_
    exact hm _ _ (hS.sel [0, 2] (by decide) rfl)
def sp_IsAnswer_tree (G : Gx) : Sp := fun vs H Q E => ∃ (a_v_self : Addr) (v_self : IsAnswer) (F : Asn G), vs = [(.ref a_v_self)] ∧ Im.im G H (.ref a_v_self) v_self ∧ Sep H ([F] : List (Asn G)) ∧ R.wp (m_IsAnswer_tree v_self) (fun r => ∀ (p : V) H', Sep H' ([imA p (r : Any), F] : List (Asn G)) → Q p H') (fun _ => False)
abbrev N_IsAnswer_tree : List Str := ["self"]
theorem sc_IsAnswer_tree : FnScope N_IsAnswer_tree ["self"] (defScope s_IsAnswer_tree) := ⟨rfl, rfl, rfl, by decide +kernel, rfl, by decide +kernel, by decide +kernel⟩
theorem ok_IsAnswer_tree (T : Txt G mg) : FnOk P w G.K mg base CX0 1 T.a_IsAnswer_tree T.fd_IsAnswer_tree ["self"] (sp_IsAnswer_tree G) := by
  have nd := sc_IsAnswer_tree.nd
  refine Fun.ok T.F_IsAnswer_tree sc_IsAnswer_tree (fun vs H Q E h => ?_) (fun cdv A outer s H vs Q E hr h => ?_)
  · obtain ⟨a_v_self, v_self, F, rfl, _⟩ := h; rfl
  · obtain ⟨a_v_self, v_self, F, rfl, him_v_self, hS, hm⟩ := h
    have hS := hS.addIm him_v_self
    refine ⟨_, (pss_one (ps_ret (pe_tup (pa_cons pe_str pa_nil)))), ?_⟩
    unfold m_IsAnswer_tree at hm
    refine c_ret ?_
    refine c_tup ?_
    refine ea_to (ea_cons ev_c ea_nil) ?_
    refine k_tupA (vs := [(.str (("answers" : Str)))]) (xs := [(Any.str ("answers" : Str))]) hS ⟨(any_str.mpr rfl), True.intro⟩ (by show 1 ≤ sizeLine; decide) fun p1 H hS => ?_
    exact hm _ _ (hS.sel [0, 2] (by decide) rfl)
def sp_OfOne___init___NotSo (G : Gx) : Sp := fun vs H Q E => ∃ (a_v_self d_v_self : Addr) (a_v_inner : Addr) (v_inner : Cond) (F : Asn G), vs = [.ref a_v_self, (.ref a_v_inner)] ∧ Im.im G H (.ref a_v_inner) v_inner ∧ Sep H ([cell a_v_self (.ins (G.cl 9) d_v_self []), F] : List (Asn G)) ∧ R.wp (m_OfOne___init___NotSo v_inner) (fun r => ∀ H', Sep H' ([imA (.ref a_v_self) (r : NotSo), F] : List (Asn G)) → Q .non H') (fun _ => False)
abbrev N_OfOne___init___NotSo : List Str := ["self", "inner"]
theorem sc_OfOne___init___NotSo : FnScope N_OfOne___init___NotSo ["self", "inner"] (defScope s_OfOne___init__) := ⟨rfl, rfl, rfl, by decide +kernel, rfl, by decide +kernel, by decide +kernel⟩
theorem ok_OfOne___init___NotSo (T : Txt G mg) : FnOk P w G.K mg base CX0 1 T.a_OfOne___init__ T.fd_OfOne___init__ ["self", "inner"] (sp_OfOne___init___NotSo G) := by
  have nd := sc_OfOne___init___NotSo.nd
  refine Fun.ok T.F_OfOne___init__ sc_OfOne___init___NotSo (fun vs H Q E h => ?_) (fun cdv A outer s H vs Q E hr h => ?_)
  · obtain ⟨a_v_self, d_v_self, a_v_inner, v_inner, F, rfl, _⟩ := h; rfl
  · obtain ⟨a_v_self, d_v_self, a_v_inner, v_inner, F, rfl, him_v_inner, hS, hm⟩ := h
    have hS := hS.addIm him_v_inner
    refine ⟨_, (pss_one (ps_fld (pv 0) (pv 1) rfl)), ?_⟩
    unfold m_OfOne___init___NotSo at hm
    refine c_sfld ?_
    refine ev_to (ev_var rfl) ?_
    refine ev_to (ev_var rfl) ?_
    refine k_sfldP (fs' := [("inner", (.ref a_v_inner))]) hS (i := 1) rfl T.cl_NotSo T.n_NotSo_inner rfl (by show 0 < 1000; decide) (by show decide (G.fz (G.cl 9) = some 1) = true; rw [T.fz_NotSo]; rfl) rfl fun H hO hT hS => ?_
    have hS : Sep H ([imA (.ref a_v_inner) (v_inner : Cond), F] : List (Asn G)) := hS
    have hS := hS.addIm (v := (.ref a_v_self)) (x := (⟨v_inner⟩ : NotSo)) (mk_NotSo T.fz_NotSo hO (hS.im (i := 0) rfl))
    exact hm _ (hS.sel [0, 2] (by decide) rfl)
def sp_OfOne___init___InThread (G : Gx) : Sp := fun vs H Q E => ∃ (a_v_self d_v_self : Addr) (a_v_inner : Addr) (v_inner : Cond) (F : Asn G), vs = [.ref a_v_self, (.ref a_v_inner)] ∧ Im.im G H (.ref a_v_inner) v_inner ∧ Sep H ([cell a_v_self (.ins (G.cl 10) d_v_self []), F] : List (Asn G)) ∧ R.wp (m_OfOne___init___InThread v_inner) (fun r => ∀ H', Sep H' ([imA (.ref a_v_self) (r : InThread), F] : List (Asn G)) → Q .non H') (fun _ => False)
abbrev N_OfOne___init___InThread : List Str := ["self", "inner"]
theorem sc_OfOne___init___InThread : FnScope N_OfOne___init___InThread ["self", "inner"] (defScope s_OfOne___init__) := ⟨rfl, rfl, rfl, by decide +kernel, rfl, by decide +kernel, by decide +kernel⟩
theorem ok_OfOne___init___InThread (T : Txt G mg) : FnOk P w G.K mg base CX0 1 T.a_OfOne___init__ T.fd_OfOne___init__ ["self", "inner"] (sp_OfOne___init___InThread G) := by
  have nd := sc_OfOne___init___InThread.nd
  refine Fun.ok T.F_OfOne___init__ sc_OfOne___init___InThread (fun vs H Q E h => ?_) (fun cdv A outer s H vs Q E hr h => ?_)
  · obtain ⟨a_v_self, d_v_self, a_v_inner, v_inner, F, rfl, _⟩ := h; rfl
  · obtain ⟨a_v_self, d_v_self, a_v_inner, v_inner, F, rfl, him_v_inner, hS, hm⟩ := h
    have hS := hS.addIm him_v_inner
    refine ⟨_, (pss_one (ps_fld (pv 0) (pv 1) rfl)), ?_⟩
    unfold m_OfOne___init___InThread at hm
    refine c_sfld ?_
    refine ev_to (ev_var rfl) ?_
    refine ev_to (ev_var rfl) ?_
    refine k_sfldP (fs' := [("inner", (.ref a_v_inner))]) hS (i := 1) rfl T.cl_InThread T.n_InThread_inner rfl (by show 0 < 1000; decide) (by show decide (G.fz (G.cl 10) = some 1) = true; rw [T.fz_InThread]; rfl) rfl fun H hO hT hS => ?_
    have hS : Sep H ([imA (.ref a_v_inner) (v_inner : Cond), F] : List (Asn G)) := hS
    have hS := hS.addIm (v := (.ref a_v_self)) (x := (⟨v_inner⟩ : InThread)) (mk_InThread T.fz_InThread hO (hS.im (i := 0) rfl))
    exact hm _ (hS.sel [0, 2] (by decide) rfl)
def sp_OfOne_sign_NotSo (G : Gx) : Sp := fun vs H Q E => ∃ (a_v_self : Addr) (v_self : NotSo) (F : Asn G), vs = [(.ref a_v_self)] ∧ Im.im G H (.ref a_v_self) v_self ∧ Sep H ([F] : List (Asn G)) ∧ R.wp (m_OfOne_sign_NotSo v_self) (fun r => ∀ H', Sep H' ([F] : List (Asn G)) → Q (.str (r)) H') (fun _ => False)
abbrev N_OfOne_sign_NotSo : List Str := ["self"]
theorem sc_OfOne_sign_NotSo : FnScope N_OfOne_sign_NotSo ["self"] (defScope s_OfOne_sign) := ⟨rfl, rfl, rfl, by decide +kernel, rfl, by decide +kernel, by decide +kernel⟩
theorem ok_OfOne_sign_NotSo (T : Txt G mg) : FnOk P w G.K mg base CX0 1 T.a_OfOne_sign T.fd_OfOne_sign ["self"] (sp_OfOne_sign_NotSo G) := by
  have nd := sc_OfOne_sign_NotSo.nd
  refine Fun.ok T.F_OfOne_sign sc_OfOne_sign_NotSo (fun vs H Q E h => ?_) (fun cdv A outer s H vs Q E hr h => ?_)
  · obtain ⟨a_v_self, v_self, F, rfl, _⟩ := h; rfl
  · obtain ⟨a_v_self, v_self, F, rfl, him_v_self, hS, hm⟩ := h
    have hS := hS.addIm him_v_self
    refine ⟨_, (pss_one (ps_ret pe_str)), ?_⟩
    unfold m_OfOne_sign_NotSo at hm
    refine c_ret ?_
    refine ev_to ev_c ?_
    exact hm _ (hS.sel [1] (by decide) rfl)
def sp_OfOne_tree_NotSo (G : Gx) (m_Cond_tree : Cond → R Any) : Sp := fun vs H Q E => ∃ (a_v_self : Addr) (v_self : NotSo) (F : Asn G), vs = [(.ref a_v_self)] ∧ Im.im G H (.ref a_v_self) v_self ∧ Sep H ([F] : List (Asn G)) ∧ R.wp (m_OfOne_tree_NotSo m_Cond_tree v_self) (fun r => ∀ (p : V) H', Sep H' ([imA p (r : Any), F] : List (Asn G)) → Q p H') (fun _ => False)
abbrev N_OfOne_tree_NotSo : List Str := ["self"]
theorem sc_OfOne_tree_NotSo : FnScope N_OfOne_tree_NotSo ["self"] (defScope s_OfOne_tree) := ⟨rfl, rfl, rfl, by decide +kernel, rfl, by decide +kernel, by decide +kernel⟩
theorem ok_OfOne_tree_NotSo (T : Txt G mg) {lv : Nat} (hl : 1 ≤ lv) {m_Cond_tree : Cond → R Any} (R_Cond_tree : Dsp P w G.K mg base CX0 lv isC_Cond G.cl "tree" ["self"] (sp_Cond_tree G m_Cond_tree)) : FnOk P w G.K mg base CX0 (lv + 1) T.a_OfOne_tree T.fd_OfOne_tree ["self"] (sp_OfOne_tree_NotSo G m_Cond_tree) := by
  have nd := sc_OfOne_tree_NotSo.nd
  refine Fun.ok T.F_OfOne_tree sc_OfOne_tree_NotSo (fun vs H Q E h => ?_) (fun cdv A outer s H vs Q E hr h => ?_)
  · obtain ⟨a_v_self, v_self, F, rfl, _⟩ := h; rfl
  · obtain ⟨a_v_self, v_self, F, rfl, him_v_self, hS, hm⟩ := h
    have hS := hS.addIm him_v_self
    refine ⟨_, (pss_one (ps_ret (pe_tup (pa_cons (pe_meth0 (pv 0) T.cl_NotSo T.m_NotSo_sign (ok_OfOne_sign_NotSo T) (hr.mono (by omega)) T.b_OfOne_sign .nil pass0) (pa_cons (pe_methF0 (pe_fld (pv 0) rfl) R_Cond_tree (hr.mono (by omega)) pass0) pa_nil))))), ?_⟩
    unfold m_OfOne_tree_NotSo at hm
    refine c_ret ?_
    refine c_tup ?_
    refine c_cons ?_
    refine c_meth ?_
    refine ev_to (ev_var rfl) ?_
    obtain ⟨d1, _, hO2, _⟩ := im_NotSo (hS.im (i := 0) rfl)
    refine ⟨_, _, _, rfl, hO2, rfl, ?_⟩
    refine ea_to ea_nil ?_
    refine ⟨a_v_self, (v_self : NotSo), star [imA (.ref a_v_self) (v_self : NotSo), F], rfl, (hS.im (i := 0) rfl), Sep.unstar (M := []) (hS.sel [0, 1] (by decide) rfl : Sep H (([] ++ [imA (.ref a_v_self) (v_self : NotSo), F] : List (Asn G)))), R.wp_mono (R.wp_bind hm) (fun r3 hm H hS => ?_) (fun _ z => z)⟩
    have hS : Sep H ([imA (.ref a_v_self) (v_self : NotSo), F] : List (Asn G)) := Sep.star (M := []) hS
    refine c_cons ?_
    refine c_methF ?_
    obtain ⟨d4, u6, hO5, h7⟩ := im_NotSo (hS.im (i := 0) rfl)
    obtain ⟨a8, rfl⟩ := isref h7
    refine ev_to (ev_fld (ev_var rfl) hO5 T.cl_NotSo T.n_NotSo_inner rfl) ?_
    have hS := hS.addIm (v := (.ref a8)) (x := (v_self.inner : Cond)) h7
    obtain ⟨dx10, fs11, hO12, hl13⟩ := cls_Cond (hS.im (i := 0) rfl)
    refine ⟨_, _, _, _, rfl, fam_Cond _, hO12, hl13 "tree" (by decide), ?_⟩
    refine ea_to ea_nil ?_
    refine ⟨a8, (v_self.inner : Cond), star [imA (.ref a8) (v_self.inner : Cond), imA (.ref a_v_self) (v_self : NotSo), F], rfl, (hS.im (i := 0) rfl), rfl, Sep.unstar (M := []) (hS.sel [0, 1, 2] (by decide) rfl : Sep H (([] ++ [imA (.ref a8) (v_self.inner : Cond), imA (.ref a_v_self) (v_self : NotSo), F] : List (Asn G)))), R.wp_mono (R.wp_bind hm) (fun r14 hm p15 H hS => ?_) (fun _ z => z)⟩
    have hS : Sep H ([imA p15 (r14 : Any), imA (.ref a8) (v_self.inner : Cond), imA (.ref a_v_self) (v_self : NotSo), F] : List (Asn G)) := Sep.star (M := [imA p15 (r14 : Any)]) hS
    refine c_nil ?_
    refine k_tupA (vs := [(.str (r3)), p15]) (xs := [(Any.str r3), r14]) hS ⟨(any_str.mpr rfl), ⟨(hS.im (i := 0) rfl), True.intro⟩⟩ (by show 2 ≤ sizeLine; decide) fun p17 H hS => ?_
    exact hm _ _ (hS.sel [0, 4] (by decide) rfl)
def sp_InThread_sign (G : Gx) : Sp := fun vs H Q E => ∃ (a_v_self : Addr) (v_self : InThread) (F : Asn G), vs = [(.ref a_v_self)] ∧ Im.im G H (.ref a_v_self) v_self ∧ Sep H ([F] : List (Asn G)) ∧ R.wp (m_InThread_sign v_self) (fun r => ∀ H', Sep H' ([F] : List (Asn G)) → Q (.str (r)) H') (fun _ => False)
abbrev N_InThread_sign : List Str := ["self"]
theorem sc_InThread_sign : FnScope N_InThread_sign ["self"] (defScope s_InThread_sign) := ⟨rfl, rfl, rfl, by decide +kernel, rfl, by decide +kernel, by decide +kernel⟩
theorem ok_InThread_sign (T : Txt G mg) : FnOk P w G.K mg base CX0 1 T.a_InThread_sign T.fd_InThread_sign ["self"] (sp_InThread_sign G) := by
  have nd := sc_InThread_sign.nd
  refine Fun.ok T.F_InThread_sign sc_InThread_sign (fun vs H Q E h => ?_) (fun cdv A outer s H vs Q E hr h => ?_)
  · obtain ⟨a_v_self, v_self, F, rfl, _⟩ := h; rfl
  · obtain ⟨a_v_self, v_self, F, rfl, him_v_self, hS, hm⟩ := h
    have hS := hS.addIm him_v_self
    refine ⟨_, (pss_one (ps_ret pe_str)), ?_⟩
    unfold m_InThread_sign at hm
    refine c_ret ?_
    refine ev_to ev_c ?_
    exact hm _ (hS.sel [1] (by decide) rfl)
def sp_OfTwo___init___BothSo (G : Gx) : Sp := fun vs H Q E => ∃ (a_v_self d_v_self : Addr) (a_v_first : Addr) (v_first : Cond) (a_v_second : Addr) (v_second : Cond) (F : Asn G), vs = [.ref a_v_self, (.ref a_v_first), (.ref a_v_second)] ∧ Im.im G H (.ref a_v_first) v_first ∧ Im.im G H (.ref a_v_second) v_second ∧ Sep H ([cell a_v_self (.ins (G.cl 11) d_v_self []), F] : List (Asn G)) ∧ R.wp (m_OfTwo___init___BothSo v_first v_second) (fun r => ∀ H', Sep H' ([imA (.ref a_v_self) (r : BothSo), F] : List (Asn G)) → Q .non H') (fun _ => False)
abbrev N_OfTwo___init___BothSo : List Str := ["self", "first", "second"]
theorem sc_OfTwo___init___BothSo : FnScope N_OfTwo___init___BothSo ["self", "first", "second"] (defScope s_OfTwo___init__) := ⟨rfl, rfl, rfl, by decide +kernel, rfl, by decide +kernel, by decide +kernel⟩
theorem ok_OfTwo___init___BothSo (T : Txt G mg) : FnOk P w G.K mg base CX0 1 T.a_OfTwo___init__ T.fd_OfTwo___init__ ["self", "first", "second"] (sp_OfTwo___init___BothSo G) := by
  have nd := sc_OfTwo___init___BothSo.nd
  refine Fun.ok T.F_OfTwo___init__ sc_OfTwo___init___BothSo (fun vs H Q E h => ?_) (fun cdv A outer s H vs Q E hr h => ?_)
  · obtain ⟨a_v_self, d_v_self, a_v_first, v_first, a_v_second, v_second, F, rfl, _⟩ := h; rfl
  · obtain ⟨a_v_self, d_v_self, a_v_first, v_first, a_v_second, v_second, F, rfl, him_v_first, him_v_second, hS, hm⟩ := h
    have hS := hS.addIm him_v_first
    have hS := hS.addIm him_v_second
    refine ⟨_, (pss_cons (ps_fld (pv 0) (pv 1) rfl)
      (pss_one (ps_fld (pv 0) (pv 2) rfl))), ?_⟩
    unfold m_OfTwo___init___BothSo at hm
    refine f_seq ?_
    refine c_sfld ?_
    refine ev_to (ev_var rfl) ?_
    refine ev_to (ev_var rfl) ?_
    refine k_sfld (fs' := [("first", (.ref a_v_first))]) hS (i := 2) rfl T.cl_BothSo T.n_BothSo_first rfl (by show 0 < 1000; decide) (by show decide (G.fz (G.cl 11) = some 1) = false; rw [T.fz_BothSo]; rfl) rfl fun H hS => ?_
    have hS : Sep H ([imA (.ref a_v_second) (v_second : Cond), imA (.ref a_v_first) (v_first : Cond), cell a_v_self (.ins (G.cl 11) d_v_self [("first", (.ref a_v_first))]), F] : List (Asn G)) := hS
    refine sq_nx ?_
    refine c_sfld ?_
    refine ev_to (ev_var rfl) ?_
    refine ev_to (ev_var rfl) ?_
    refine k_sfldP (fs' := [("first", (.ref a_v_first)), ("second", (.ref a_v_second))]) hS (i := 2) rfl T.cl_BothSo T.n_BothSo_second rfl (by show 1 < 1000; decide) (by show decide (G.fz (G.cl 11) = some 2) = true; rw [T.fz_BothSo]; rfl) rfl fun H hO hT hS => ?_
    have hS : Sep H ([imA (.ref a_v_second) (v_second : Cond), imA (.ref a_v_first) (v_first : Cond), F] : List (Asn G)) := hS
    have hS := hS.addIm (v := (.ref a_v_self)) (x := (⟨v_first, v_second⟩ : BothSo)) (mk_BothSo T.fz_BothSo hO (hS.im (i := 1) rfl) (hS.im (i := 0) rfl))
    exact hm _ (hS.sel [0, 3] (by decide) rfl)
def sp_OfTwo___init___EitherSo (G : Gx) : Sp := fun vs H Q E => ∃ (a_v_self d_v_self : Addr) (a_v_first : Addr) (v_first : Cond) (a_v_second : Addr) (v_second : Cond) (F : Asn G), vs = [.ref a_v_self, (.ref a_v_first), (.ref a_v_second)] ∧ Im.im G H (.ref a_v_first) v_first ∧ Im.im G H (.ref a_v_second) v_second ∧ Sep H ([cell a_v_self (.ins (G.cl 12) d_v_self []), F] : List (Asn G)) ∧ R.wp (m_OfTwo___init___EitherSo v_first v_second) (fun r => ∀ H', Sep H' ([imA (.ref a_v_self) (r : EitherSo), F] : List (Asn G)) → Q .non H') (fun _ => False)
abbrev N_OfTwo___init___EitherSo : List Str := ["self", "first", "second"]
theorem sc_OfTwo___init___EitherSo : FnScope N_OfTwo___init___EitherSo ["self", "first", "second"] (defScope s_OfTwo___init__) := ⟨rfl, rfl, rfl, by decide +kernel, rfl, by decide +kernel, by decide +kernel⟩
theorem ok_OfTwo___init___EitherSo (T : Txt G mg) : FnOk P w G.K mg base CX0 1 T.a_OfTwo___init__ T.fd_OfTwo___init__ ["self", "first", "second"] (sp_OfTwo___init___EitherSo G) := by
  have nd := sc_OfTwo___init___EitherSo.nd
  refine Fun.ok T.F_OfTwo___init__ sc_OfTwo___init___EitherSo (fun vs H Q E h => ?_) (fun cdv A outer s H vs Q E hr h => ?_)
  · obtain ⟨a_v_self, d_v_self, a_v_first, v_first, a_v_second, v_second, F, rfl, _⟩ := h; rfl
  · obtain ⟨a_v_self, d_v_self, a_v_first, v_first, a_v_second, v_second, F, rfl, him_v_first, him_v_second, hS, hm⟩ := h
    have hS := hS.addIm him_v_first
    have hS := hS.addIm him_v_second
    refine ⟨_, (pss_cons (ps_fld (pv 0) (pv 1) rfl)
      (pss_one (ps_fld (pv 0) (pv 2) rfl))), ?_⟩
    unfold m_OfTwo___init___EitherSo at hm
    refine f_seq ?_
    refine c_sfld ?_
    refine ev_to (ev_var rfl) ?_
    refine ev_to (ev_var rfl) ?_
    refine k_sfld (fs' := [("first", (.ref a_v_first))]) hS (i := 2) rfl T.cl_EitherSo T.n_EitherSo_first rfl (by show 0 < 1000; decide) (by show decide (G.fz (G.cl 12) = some 1) = false; rw [T.fz_EitherSo]; rfl) rfl fun H hS => ?_
    have hS : Sep H ([imA (.ref a_v_second) (v_second : Cond), imA (.ref a_v_first) (v_first : Cond), cell a_v_self (.ins (G.cl 12) d_v_self [("first", (.ref a_v_first))]), F] : List (Asn G)) := hS
    refine sq_nx ?_
    refine c_sfld ?_
    refine ev_to (ev_var rfl) ?_
    refine ev_to (ev_var rfl) ?_
    refine k_sfldP (fs' := [("first", (.ref a_v_first)), ("second", (.ref a_v_second))]) hS (i := 2) rfl T.cl_EitherSo T.n_EitherSo_second rfl (by show 1 < 1000; decide) (by show decide (G.fz (G.cl 12) = some 2) = true; rw [T.fz_EitherSo]; rfl) rfl fun H hO hT hS => ?_
    have hS : Sep H ([imA (.ref a_v_second) (v_second : Cond), imA (.ref a_v_first) (v_first : Cond), F] : List (Asn G)) := hS
    have hS := hS.addIm (v := (.ref a_v_self)) (x := (⟨v_first, v_second⟩ : EitherSo)) (mk_EitherSo T.fz_EitherSo hO (hS.im (i := 1) rfl) (hS.im (i := 0) rfl))
    exact hm _ (hS.sel [0, 3] (by decide) rfl)
def sp_OfTwo_sign_BothSo (G : Gx) : Sp := fun vs H Q E => ∃ (a_v_self : Addr) (v_self : BothSo) (F : Asn G), vs = [(.ref a_v_self)] ∧ Im.im G H (.ref a_v_self) v_self ∧ Sep H ([F] : List (Asn G)) ∧ R.wp (m_OfTwo_sign_BothSo v_self) (fun r => ∀ (p : Addr) H', Sep H' ([imA (.ref p) (r : (Str × Str)), F] : List (Asn G)) → Q (.ref p) H') (fun _ => False)
abbrev N_OfTwo_sign_BothSo : List Str := ["self"]
theorem sc_OfTwo_sign_BothSo : FnScope N_OfTwo_sign_BothSo ["self"] (defScope s_OfTwo_sign) := ⟨rfl, rfl, rfl, by decide +kernel, rfl, by decide +kernel, by decide +kernel⟩
theorem ok_OfTwo_sign_BothSo (T : Txt G mg) : FnOk P w G.K mg base CX0 1 T.a_OfTwo_sign T.fd_OfTwo_sign ["self"] (sp_OfTwo_sign_BothSo G) := by
  have nd := sc_OfTwo_sign_BothSo.nd
  refine Fun.ok T.F_OfTwo_sign sc_OfTwo_sign_BothSo (fun vs H Q E h => ?_) (fun cdv A outer s H vs Q E hr h => ?_)
  · obtain ⟨a_v_self, v_self, F, rfl, _⟩ := h; rfl
  · obtain ⟨a_v_self, v_self, F, rfl, him_v_self, hS, hm⟩ := h
    have hS := hS.addIm him_v_self
    refine ⟨_, (pss_one (ps_ret (pe_tup (pa_cons pe_str (pa_cons pe_str pa_nil))))), ?_⟩
    unfold m_OfTwo_sign_BothSo at hm
    refine c_ret ?_
    refine c_tup ?_
    refine ea_to (ea_cons ev_c (ea_cons ev_c ea_nil)) ?_
    refine k_tupP (x := ((("and" : Str), ("both" : Str)) : (Str × Str))) hS (fun H' p h s => mk2 rfl rfl h s) (by show 2 ≤ sizeLine; decide) fun p1 H hS => ?_
    exact hm _ _ (hS.sel [0, 2] (by decide) rfl)
def sp_OfTwo_tree_BothSo (G : Gx) (m_Cond_tree : Cond → R Any) : Sp := fun vs H Q E => ∃ (a_v_self : Addr) (v_self : BothSo) (F : Asn G), vs = [(.ref a_v_self)] ∧ Im.im G H (.ref a_v_self) v_self ∧ Sep H ([F] : List (Asn G)) ∧ R.wp (m_OfTwo_tree_BothSo m_Cond_tree v_self) (fun r => ∀ (p : V) H', Sep H' ([imA p (r : Any), F] : List (Asn G)) → Q p H') (fun _ => False)
abbrev N_OfTwo_tree_BothSo : List Str := ["self"]
theorem sc_OfTwo_tree_BothSo : FnScope N_OfTwo_tree_BothSo ["self"] (defScope s_OfTwo_tree) := ⟨rfl, rfl, rfl, by decide +kernel, rfl, by decide +kernel, by decide +kernel⟩
theorem ok_OfTwo_tree_BothSo (T : Txt G mg) {lv : Nat} (hl : 1 ≤ lv) {m_Cond_tree : Cond → R Any} (R_Cond_tree : Dsp P w G.K mg base CX0 lv isC_Cond G.cl "tree" ["self"] (sp_Cond_tree G m_Cond_tree)) : FnOk P w G.K mg base CX0 (lv + 1) T.a_OfTwo_tree T.fd_OfTwo_tree ["self"] (sp_OfTwo_tree_BothSo G m_Cond_tree) := by
  have nd := sc_OfTwo_tree_BothSo.nd
  refine Fun.ok T.F_OfTwo_tree sc_OfTwo_tree_BothSo (fun vs H Q E h => ?_) (fun cdv A outer s H vs Q E hr h => ?_)
  · obtain ⟨a_v_self, v_self, F, rfl, _⟩ := h; rfl
  · obtain ⟨a_v_self, v_self, F, rfl, him_v_self, hS, hm⟩ := h
    have hS := hS.addIm him_v_self
    refine ⟨_, (pss_one (ps_ret (pe_tup (pa_cons (pe_ix (ix_tupK G.K) (pe_meth0 (pv 0) T.cl_BothSo T.m_BothSo_sign (ok_OfTwo_sign_BothSo T) (hr.mono (by omega)) T.b_OfTwo_sign .nil pass0) pe_int (fun _ _ => rfl)) (pa_cons (pe_methF0 (pe_fld (pv 0) rfl) R_Cond_tree (hr.mono (by omega)) pass0) (pa_cons (pe_methF0 (pe_fld (pv 0) rfl) R_Cond_tree (hr.mono (by omega)) pass0) pa_nil)))))), ?_⟩
    unfold m_OfTwo_tree_BothSo at hm
    refine c_ret ?_
    refine c_tup ?_
    refine c_cons ?_
    refine c_op ?_
    refine c_meth ?_
    refine ev_to (ev_var rfl) ?_
    obtain ⟨d1, _, _, hO2, _, _⟩ := im_BothSo (hS.im (i := 0) rfl)
    refine ⟨_, _, _, rfl, hO2, rfl, ?_⟩
    refine ea_to ea_nil ?_
    refine ⟨a_v_self, (v_self : BothSo), star [imA (.ref a_v_self) (v_self : BothSo), F], rfl, (hS.im (i := 0) rfl), Sep.unstar (M := []) (hS.sel [0, 1] (by decide) rfl : Sep H (([] ++ [imA (.ref a_v_self) (v_self : BothSo), F] : List (Asn G)))), R.wp_mono (R.wp_bind hm) (fun r3 hm p4 H hS => ?_) (fun _ z => z)⟩
    have hS : Sep H ([imA (.ref p4) (r3 : (Str × Str)), imA (.ref a_v_self) (v_self : BothSo), F] : List (Asn G)) := Sep.star (M := [imA (.ref p4) (r3 : (Str × Str))]) hS
    refine ev_to ev_c ?_
    obtain ⟨u6, u7, hT10, h8, h9⟩ := im2 (hS.im (i := 0) rfl)
    obtain rfl : u6 = (.str (r3.1)) := h8
    obtain rfl : u7 = (.str (r3.2)) := h9
    refine r_ixT hT10 rfl ?_
    refine c_cons ?_
    refine c_methF ?_
    obtain ⟨d11, u13, u14, hO12, h15, h16⟩ := im_BothSo (hS.im (i := 1) rfl)
    obtain ⟨a17, rfl⟩ := isref h15
    refine ev_to (ev_fld (ev_var rfl) hO12 T.cl_BothSo T.n_BothSo_first rfl) ?_
    have hS := hS.addIm (v := (.ref a17)) (x := (v_self.first : Cond)) h15
    obtain ⟨dx19, fs20, hO21, hl22⟩ := cls_Cond (hS.im (i := 0) rfl)
    refine ⟨_, _, _, _, rfl, fam_Cond _, hO21, hl22 "tree" (by decide), ?_⟩
    refine ea_to ea_nil ?_
    refine ⟨a17, (v_self.first : Cond), star [imA (.ref a17) (v_self.first : Cond), imA (.ref p4) (r3 : (Str × Str)), imA (.ref a_v_self) (v_self : BothSo), F], rfl, (hS.im (i := 0) rfl), rfl, Sep.unstar (M := []) (hS.sel [0, 1, 2, 3] (by decide) rfl : Sep H (([] ++ [imA (.ref a17) (v_self.first : Cond), imA (.ref p4) (r3 : (Str × Str)), imA (.ref a_v_self) (v_self : BothSo), F] : List (Asn G)))), R.wp_mono (R.wp_bind hm) (fun r23 hm p24 H hS => ?_) (fun _ z => z)⟩
    have hS : Sep H ([imA p24 (r23 : Any), imA (.ref a17) (v_self.first : Cond), imA (.ref p4) (r3 : (Str × Str)), imA (.ref a_v_self) (v_self : BothSo), F] : List (Asn G)) := Sep.star (M := [imA p24 (r23 : Any)]) hS
    refine c_cons ?_
    refine c_methF ?_
    obtain ⟨d26, u28, u29, hO27, h30, h31⟩ := im_BothSo (hS.im (i := 3) rfl)
    obtain ⟨a32, rfl⟩ := isref h31
    refine ev_to (ev_fld (ev_var rfl) hO27 T.cl_BothSo T.n_BothSo_second rfl) ?_
    have hS := hS.addIm (v := (.ref a32)) (x := (v_self.second : Cond)) h31
    obtain ⟨dx34, fs35, hO36, hl37⟩ := cls_Cond (hS.im (i := 0) rfl)
    refine ⟨_, _, _, _, rfl, fam_Cond _, hO36, hl37 "tree" (by decide), ?_⟩
    refine ea_to ea_nil ?_
    refine ⟨a32, (v_self.second : Cond), star [imA (.ref a32) (v_self.second : Cond), imA p24 (r23 : Any), imA (.ref a17) (v_self.first : Cond), imA (.ref p4) (r3 : (Str × Str)), imA (.ref a_v_self) (v_self : BothSo), F], rfl, (hS.im (i := 0) rfl), rfl, Sep.unstar (M := []) (hS.sel [0, 1, 2, 3, 4, 5] (by decide) rfl : Sep H (([] ++ [imA (.ref a32) (v_self.second : Cond), imA p24 (r23 : Any), imA (.ref a17) (v_self.first : Cond), imA (.ref p4) (r3 : (Str × Str)), imA (.ref a_v_self) (v_self : BothSo), F] : List (Asn G)))), R.wp_mono (R.wp_bind hm) (fun r38 hm p39 H hS => ?_) (fun _ z => z)⟩
    have hS : Sep H ([imA p39 (r38 : Any), imA (.ref a32) (v_self.second : Cond), imA p24 (r23 : Any), imA (.ref a17) (v_self.first : Cond), imA (.ref p4) (r3 : (Str × Str)), imA (.ref a_v_self) (v_self : BothSo), F] : List (Asn G)) := Sep.star (M := [imA p39 (r38 : Any)]) hS
    refine c_nil ?_
    refine k_tupA (vs := [(.str (r3.2)), p24, p39]) (xs := [(Any.str r3.2), r23, r38]) hS ⟨(any_str.mpr rfl), ⟨(hS.im (i := 2) rfl), ⟨(hS.im (i := 0) rfl), True.intro⟩⟩⟩ (by show 3 ≤ sizeLine; decide) fun p41 H hS => ?_
    exact hm _ _ (hS.sel [0, 7] (by decide) rfl)
def sp_EitherSo_sign (G : Gx) : Sp := fun vs H Q E => ∃ (a_v_self : Addr) (v_self : EitherSo) (F : Asn G), vs = [(.ref a_v_self)] ∧ Im.im G H (.ref a_v_self) v_self ∧ Sep H ([F] : List (Asn G)) ∧ R.wp (m_EitherSo_sign v_self) (fun r => ∀ (p : Addr) H', Sep H' ([imA (.ref p) (r : (Str × Str)), F] : List (Asn G)) → Q (.ref p) H') (fun _ => False)
abbrev N_EitherSo_sign : List Str := ["self"]
theorem sc_EitherSo_sign : FnScope N_EitherSo_sign ["self"] (defScope s_EitherSo_sign) := ⟨rfl, rfl, rfl, by decide +kernel, rfl, by decide +kernel, by decide +kernel⟩
theorem ok_EitherSo_sign (T : Txt G mg) : FnOk P w G.K mg base CX0 1 T.a_EitherSo_sign T.fd_EitherSo_sign ["self"] (sp_EitherSo_sign G) := by
  have nd := sc_EitherSo_sign.nd
  refine Fun.ok T.F_EitherSo_sign sc_EitherSo_sign (fun vs H Q E h => ?_) (fun cdv A outer s H vs Q E hr h => ?_)
  · obtain ⟨a_v_self, v_self, F, rfl, _⟩ := h; rfl
  · obtain ⟨a_v_self, v_self, F, rfl, him_v_self, hS, hm⟩ := h
    have hS := hS.addIm him_v_self
    refine ⟨_, (pss_one (ps_ret (pe_tup (pa_cons pe_str (pa_cons pe_str pa_nil))))), ?_⟩
    unfold m_EitherSo_sign at hm
    refine c_ret ?_
    refine c_tup ?_
    refine ea_to (ea_cons ev_c (ea_cons ev_c ea_nil)) ?_
    refine k_tupP (x := ((("or" : Str), ("either" : Str)) : (Str × Str))) hS (fun H' p h s => mk2 rfl rfl h s) (by show 2 ≤ sizeLine; decide) fun p1 H hS => ?_
    exact hm _ _ (hS.sel [0, 2] (by decide) rfl)
def sp_of_word (G : Gx) : Sp := fun vs H Q E => ∃ (v_sign : Str) (v_word : Str) (F : Asn G), vs = [(.str (v_sign)), (.str (v_word))] ∧ Sep H ([F] : List (Asn G)) ∧ R.wp (m_of_word v_sign v_word) (fun r => ∀ (p : Addr) H', Sep H' ([imA (.ref p) (r : Cond), F] : List (Asn G)) → Q (.ref p) H') (fun _ => False)
abbrev N_of_word : List Str := ["sign", "word"]
theorem sc_of_word : FnScope N_of_word ["sign", "word"] (defScope s_of_word) := ⟨rfl, rfl, rfl, by decide +kernel, rfl, by decide +kernel, by decide +kernel⟩
theorem ok_of_word (T : Txt G mg) : FnOk P w G.K mg base CX0 3 T.a_of_word T.fd_of_word ["sign", "word"] (sp_of_word G) := by
  have nd := sc_of_word.nd
  refine Fun.ok T.F_of_word sc_of_word (fun vs H Q E h => ?_) (fun cdv A outer s H vs Q E hr h => ?_)
  · obtain ⟨v_sign, v_word, F, rfl, _⟩ := h; rfl
  · obtain ⟨v_sign, v_word, F, rfl, hS, hm⟩ := h
    refine ⟨_, (pss_cons (ps_if (pt_cmpR op_eq (pv 0) pe_str (nomark _)) (pss_one (ps_ret (pe_make T.k_HasWord (ok_OfWord___init___HasWord T) (hr.mono (by decide)) rfl T.g_HasWord T.b_OfWord___init__ .nil pass0 (pa_cons (pv 1) pa_nil)))) pss_nil)
      (pss_cons (ps_if (pt_cmpR op_eq (pv 0) pe_str (nomark _)) (pss_one (ps_ret (pe_make T.k_InTitle (ok_OfWord___init___InTitle T) (hr.mono (by decide)) rfl T.g_InTitle T.b_OfWord___init__ .nil pass0 (pa_cons (pv 1) pa_nil)))) pss_nil)
      (pss_cons (ps_if (pt_cmpR op_eq (pv 0) pe_str (nomark _)) (pss_one (ps_ret (pe_make T.k_FromSender (ok_OfWord___init___FromSender T) (hr.mono (by decide)) rfl T.g_FromSender T.b_OfWord___init__ .nil pass0 (pa_cons (pv 1) pa_nil)))) pss_nil)
      (pss_cons (ps_if (pt_cmpR op_eq (pv 0) pe_str (nomark _)) (pss_one (ps_ret (pe_make T.k_InFolder (ok_OfWord___init___InFolder T) (hr.mono (by decide)) rfl T.g_InFolder T.b_OfWord___init__ .nil pass0 (pa_cons (pv 1) pa_nil)))) pss_nil)
      (pss_cons (ps_if (pt_cmpR op_eq (pv 0) pe_str (nomark _)) (pss_one (ps_ret (pe_make T.k_IsMarked (ok_OfWord___init___IsMarked T) (hr.mono (by decide)) rfl T.g_IsMarked T.b_OfWord___init__ .nil pass0 (pa_cons (pv 1) pa_nil)))) pss_nil)
      (pss_one (ps_ret pe_non))))))), ?_⟩
    unfold m_of_word at hm
    refine f_seq ?_
    refine f_if ?_
    refine et_to (et_test (ev_eqS (ev_var rfl) ev_c)) ?_
    refine ifK_2 (fun hb1 => ?_) (fun hb1 => ?_)
    · have hm := R.wp_ifY hm hb1
      refine c_ret ?_
      refine c_make ?_
      refine ea_to (ea_cons (ev_var rfl) ea_nil) ?_
      intro p2 d3 np nd ne
      have hS := hS.newI (C := G.cl 2) np nd ne (by rw [T.fz_HasWord]; decide)
      refine ⟨p2, d3, v_word, star [F], rfl, Sep.unstar (M := [cell p2 (.ins (G.cl 2) d3 [])]) (hS.sel [0, 1] (by decide) rfl : Sep _ (([cell p2 (.ins (G.cl 2) d3 [])] ++ [F] : List (Asn G)))), R.wp_mono (R.wp_bind hm) (fun r4 hm H hS => ⟨rfl, ?_⟩) (fun _ z => z)⟩
      have hS : Sep H ([imA (.ref p2) (r4 : HasWord), F] : List (Asn G)) := Sep.star (M := [imA (.ref p2) (r4 : HasWord)]) hS
      have hS := hS.addIm (v := (.ref p2)) (x := ((Cond.HasWord r4.word) : Cond)) (to_HasWord (hS.im (i := 0) rfl))
      exact hm _ _ (hS.sel [0, 2] (by decide) rfl)
    · have hm := R.wp_ifN hm (by first | (rw [hb1]; decide) | simpa using hb1)
      refine st_nx ?_
      refine sq_nx ?_
      refine f_seq ?_
      refine f_if ?_
      refine et_to (et_test (ev_eqS (ev_var rfl) ev_c)) ?_
      refine ifK_2 (fun hb7 => ?_) (fun hb7 => ?_)
      · have hm := R.wp_ifY hm hb7
        refine c_ret ?_
        refine c_make ?_
        refine ea_to (ea_cons (ev_var rfl) ea_nil) ?_
        intro p8 d9 np nd ne
        have hS := hS.newI (C := G.cl 3) np nd ne (by rw [T.fz_InTitle]; decide)
        refine ⟨p8, d9, v_word, star [F], rfl, Sep.unstar (M := [cell p8 (.ins (G.cl 3) d9 [])]) (hS.sel [0, 1] (by decide) rfl : Sep _ (([cell p8 (.ins (G.cl 3) d9 [])] ++ [F] : List (Asn G)))), R.wp_mono (R.wp_bind hm) (fun r10 hm H hS => ⟨rfl, ?_⟩) (fun _ z => z)⟩
        have hS : Sep H ([imA (.ref p8) (r10 : InTitle), F] : List (Asn G)) := Sep.star (M := [imA (.ref p8) (r10 : InTitle)]) hS
        have hS := hS.addIm (v := (.ref p8)) (x := ((Cond.InTitle r10.word) : Cond)) (to_InTitle (hS.im (i := 0) rfl))
        exact hm _ _ (hS.sel [0, 2] (by decide) rfl)
      · have hm := R.wp_ifN hm (by first | (rw [hb7]; decide) | simpa using hb7)
        refine st_nx ?_
        refine sq_nx ?_
        refine f_seq ?_
        refine f_if ?_
        refine et_to (et_test (ev_eqS (ev_var rfl) ev_c)) ?_
        refine ifK_2 (fun hb13 => ?_) (fun hb13 => ?_)
        · have hm := R.wp_ifY hm hb13
          refine c_ret ?_
          refine c_make ?_
          refine ea_to (ea_cons (ev_var rfl) ea_nil) ?_
          intro p14 d15 np nd ne
          have hS := hS.newI (C := G.cl 4) np nd ne (by rw [T.fz_FromSender]; decide)
          refine ⟨p14, d15, v_word, star [F], rfl, Sep.unstar (M := [cell p14 (.ins (G.cl 4) d15 [])]) (hS.sel [0, 1] (by decide) rfl : Sep _ (([cell p14 (.ins (G.cl 4) d15 [])] ++ [F] : List (Asn G)))), R.wp_mono (R.wp_bind hm) (fun r16 hm H hS => ⟨rfl, ?_⟩) (fun _ z => z)⟩
          have hS : Sep H ([imA (.ref p14) (r16 : FromSender), F] : List (Asn G)) := Sep.star (M := [imA (.ref p14) (r16 : FromSender)]) hS
          have hS := hS.addIm (v := (.ref p14)) (x := ((Cond.FromSender r16.word) : Cond)) (to_FromSender (hS.im (i := 0) rfl))
          exact hm _ _ (hS.sel [0, 2] (by decide) rfl)
        · have hm := R.wp_ifN hm (by first | (rw [hb13]; decide) | simpa using hb13)
          refine st_nx ?_
          refine sq_nx ?_
          refine f_seq ?_
          refine f_if ?_
          refine et_to (et_test (ev_eqS (ev_var rfl) ev_c)) ?_
          refine ifK_2 (fun hb19 => ?_) (fun hb19 => ?_)
          · have hm := R.wp_ifY hm hb19
            refine c_ret ?_
            refine c_make ?_
            refine ea_to (ea_cons (ev_var rfl) ea_nil) ?_
            intro p20 d21 np nd ne
            have hS := hS.newI (C := G.cl 5) np nd ne (by rw [T.fz_InFolder]; decide)
            refine ⟨p20, d21, v_word, star [F], rfl, Sep.unstar (M := [cell p20 (.ins (G.cl 5) d21 [])]) (hS.sel [0, 1] (by decide) rfl : Sep _ (([cell p20 (.ins (G.cl 5) d21 [])] ++ [F] : List (Asn G)))), R.wp_mono (R.wp_bind hm) (fun r22 hm H hS => ⟨rfl, ?_⟩) (fun _ z => z)⟩
            have hS : Sep H ([imA (.ref p20) (r22 : InFolder), F] : List (Asn G)) := Sep.star (M := [imA (.ref p20) (r22 : InFolder)]) hS
            have hS := hS.addIm (v := (.ref p20)) (x := ((Cond.InFolder r22.word) : Cond)) (to_InFolder (hS.im (i := 0) rfl))
            exact hm _ _ (hS.sel [0, 2] (by decide) rfl)
          · have hm := R.wp_ifN hm (by first | (rw [hb19]; decide) | simpa using hb19)
            refine st_nx ?_
            refine sq_nx ?_
            refine f_seq ?_
            refine f_if ?_
            refine et_to (et_test (ev_eqS (ev_var rfl) ev_c)) ?_
            refine ifK_2 (fun hb25 => ?_) (fun hb25 => ?_)
            · have hm := R.wp_ifY hm hb25
              refine c_ret ?_
              refine c_make ?_
              refine ea_to (ea_cons (ev_var rfl) ea_nil) ?_
              intro p26 d27 np nd ne
              have hS := hS.newI (C := G.cl 6) np nd ne (by rw [T.fz_IsMarked]; decide)
              refine ⟨p26, d27, v_word, star [F], rfl, Sep.unstar (M := [cell p26 (.ins (G.cl 6) d27 [])]) (hS.sel [0, 1] (by decide) rfl : Sep _ (([cell p26 (.ins (G.cl 6) d27 [])] ++ [F] : List (Asn G)))), R.wp_mono (R.wp_bind hm) (fun r28 hm H hS => ⟨rfl, ?_⟩) (fun _ z => z)⟩
              have hS : Sep H ([imA (.ref p26) (r28 : IsMarked), F] : List (Asn G)) := Sep.star (M := [imA (.ref p26) (r28 : IsMarked)]) hS
              have hS := hS.addIm (v := (.ref p26)) (x := ((Cond.IsMarked r28.word) : Cond)) (to_IsMarked (hS.im (i := 0) rfl))
              exact hm _ _ (hS.sel [0, 2] (by decide) rfl)
            · have hm := R.wp_ifN hm (by first | (rw [hb25]; decide) | simpa using hb25)
              refine st_nx ?_
              refine sq_nx ?_
              exact hm.elim
def sp_deep (G : Gx) (m_deep : Any → R Int) : Sp := fun vs H Q E => ∃ (a_v_tree : V) (v_tree : Any) (F : Asn G), vs = [a_v_tree] ∧ Im.im G H a_v_tree v_tree ∧ Sep H ([F] : List (Asn G)) ∧ R.wp (m_deep v_tree) (fun r => ∀ H', Sep H' ([F] : List (Asn G)) → Q (.int (r)) H') (fun _ => False)
abbrev N_deep : List Str := ["tree", "part"]
theorem sc_deep : FnScope N_deep ["tree"] (defScope s_deep) := ⟨rfl, rfl, rfl, by decide +kernel, rfl, by decide +kernel, by decide +kernel⟩
theorem ok_deep_b (T : Txt G mg) {lv : Nat} (hl : 0 ≤ lv) {m_deep : Any → R Int} (R_deep : FnOk P w G.K mg base CX0 lv T.a_deep T.fd_deep ["tree"] (sp_deep G m_deep)) : FnOk P w G.K mg base CX0 (lv + 1) T.a_deep T.fd_deep ["tree"] (sp_deep G (m_deep_b m_deep)) := by
  have nd := sc_deep.nd
  refine Fun.ok T.F_deep sc_deep (fun vs H Q E h => ?_) (fun cdv A outer s H vs Q E hr h => ?_)
  · obtain ⟨a_v_tree, v_tree, F, rfl, _⟩ := h; rfl
  · obtain ⟨a_v_tree, v_tree, F, rfl, him_v_tree, hS, hm⟩ := h
    have hS := hS.addIm him_v_tree
    refine ⟨_, (pss_one (ps_ret (pe_op op_add pe_int (pe_callBK (cr_maxDefK G.K rfl hr.units) (by rfl) T.z_max (by decide +kernel) (pa_cons (pe_fz (pe_lc (own := [("part", 1)]) (g := gName 1) rfl nd (pi_tupK G.K (pv 0)) (blkOk_by (own := [("part", 1)]) (N := N_deep) (sc := defScope s_deep) (by decide +kernel)) (fun _ _ _ _ _ => pg_name (i := 1) nd rfl (Or.inl rfl)) (fun _ _ _ _ _ => pts_one (pt_val (pe_callB (isiK G.K) (by rfl) T.z_isinstance (by decide +kernel) (pa_cons (pv 1) (pa_cons (pe_bltn (v := .ty "tuple") (by rfl) T.z_tuple (by decide +kernel) rfl) pa_nil))))) (fun _ _ _ _ _ => (pe_call R_deep (hr.mono (by omega)) rfl T.g_deep T.kp_deep T.b_deep .nil pass0 (pa_cons (pv 1) pa_nil))))) pa_nil) (pk_cons pe_int pk_nil))))), ?_⟩
    unfold m_deep_b at hm
    refine c_ret ?_
    refine c_op ?_
    refine ev_to ev_c ?_
    refine c_ck ?_
    refine c_cons ?_
    refine c_fz ?_
    refine c_lc ?_
    refine c_it ?_
    refine ev_to (ev_var rfl) ?_
    obtain ⟨xs1, h2, hm⟩ := Ml.wp_asTup hm
    refine k_itE (xs := xs1) (hS.im (i := 0) rfl) h2 fun a3 he4 => ?_
    subst he4
    obtain ⟨h5, hm⟩ := R.wp_need hm
    refine lc_sep (β := Int) (fun (_ : Unit) => ([imA (.ref a3) (v_tree : Any), F] : List (Asn G))) (s := ()) (im := (Im.im G)) hS (fun _ _ _ => wk_tupA fun _ _ h => imE h2 (h.im (i := 1) rfl)) h5 hm (fun p6 _ ys9 x7 v8 H q Nx hS hx hm kS kN => ?_) (fun p6 t H hm hS => ?_)
    ·
      have hS := hS.addIm (v := v8) (x := (x7 : Any)) hx
      refine c_gLc (σ' := [some (.ref a3), some v8]) rfl rfl ?_
      refine et_to (et_B (ev_isAny (ev_var rfl) ev_c (hS.im (i := 0) rfl) (by decide))) ?_
      refine lc_if (fun hb11 => ?_) (fun hb11 => ?_)
      · have hm := R.wp_ifY hm hb11
        refine c_call ?_
        refine ea_to (ea_cons (ev_var rfl) ea_nil) ?_
        refine ⟨v8, (x7 : Any), star [imA v8 (x7 : Any), lstA p6 (ys9 : List Int), imA (.ref a3) (v_tree : Any), F], rfl, (hS.im (i := 0) rfl), Sep.unstar (M := []) (hS.sel [0, 1, 2, 3] (by decide) rfl : Sep H (([] ++ [imA v8 (x7 : Any), lstA p6 (ys9 : List Int), imA (.ref a3) (v_tree : Any), F] : List (Asn G)))), R.wp_mono (R.wp_bind hm) (fun r12 hm H hS => ?_) (fun _ z => z)⟩
        have hS : Sep H ([imA v8 (x7 : Any), lstA p6 (ys9 : List Int), imA (.ref a3) (v_tree : Any), F] : List (Asn G)) := Sep.star (M := []) hS
        exact kS () _ _ _ hm rfl (hS.sel [1, 2, 3] (by decide) rfl)
      · have hm := R.wp_ifN hm (by first | (rw [hb11]; decide) | simpa using hb11)
        exact kN () _ hm (hS.sel [1, 2, 3] (by decide) rfl)
    · revert hm hS; generalize t = t13; intro hm hS
      refine fz_no ?_
      refine c_nil ?_
      refine k_maxDef (hS.sqF (i := 0) rfl) ev_c ?_
      refine r_I0 _ ?_
      exact hm _ (hS.sel [2] (by decide) rfl)
theorem ok_deep (T : Txt G mg) : ∀ n : Nat, FnOk P w G.K mg base CX0 (1 + n) T.a_deep T.fd_deep ["tree"] (sp_deep G (m_deep n))
  | 0 => fnOk_no fun vs H Q E h => by obtain ⟨a_v_tree, v_tree, F, _, him_v_tree, _, hm⟩ := h; exact hm
  | n + 1 => ok_deep_b T (Nat.le_add_right_of_le (by decide)) (ok_deep T n)
def sp_threads_deep (G : Gx) (m_threads_deep : Any → R Int) : Sp := fun vs H Q E => ∃ (a_v_tree : V) (v_tree : Any) (F : Asn G), vs = [a_v_tree] ∧ Im.im G H a_v_tree v_tree ∧ Sep H ([F] : List (Asn G)) ∧ R.wp (m_threads_deep v_tree) (fun r => ∀ H', Sep H' ([F] : List (Asn G)) → Q (.int (r)) H') (fun _ => False)
abbrev N_threads_deep : List Str := ["tree", "part", "inner"]
theorem sc_threads_deep : FnScope N_threads_deep ["tree"] (defScope s_threads_deep) := ⟨rfl, rfl, rfl, by decide +kernel, rfl, by decide +kernel, by decide +kernel⟩
theorem ok_threads_deep_b (T : Txt G mg) {lv : Nat} (hl : 0 ≤ lv) {m_threads_deep : Any → R Int} (R_threads_deep : FnOk P w G.K mg base CX0 lv T.a_threads_deep T.fd_threads_deep ["tree"] (sp_threads_deep G m_threads_deep)) : FnOk P w G.K mg base CX0 (lv + 1) T.a_threads_deep T.fd_threads_deep ["tree"] (sp_threads_deep G (m_threads_deep_b m_threads_deep)) := by
  have nd := sc_threads_deep.nd
  refine Fun.ok T.F_threads_deep sc_threads_deep (fun vs H Q E h => ?_) (fun cdv A outer s H vs Q E hr h => ?_)
  · obtain ⟨a_v_tree, v_tree, F, rfl, _⟩ := h; rfl
  · obtain ⟨a_v_tree, v_tree, F, rfl, him_v_tree, hS, hm⟩ := h
    have hS := hS.addIm him_v_tree
    refine ⟨_, (pss_cons (ps_set (i := 2) nd rfl (Or.inl rfl) (pe_callBK (cr_maxDefK G.K rfl hr.units) (by rfl) T.z_max (by decide +kernel) (pa_cons (pe_fz (pe_lc (own := [("part", 1)]) (g := gName 1) rfl nd (pi_tupK G.K (pv 0)) (blkOk_by (own := [("part", 1)]) (N := N_threads_deep) (sc := defScope s_threads_deep) (by decide +kernel)) (fun _ _ _ _ _ => pg_name (i := 1) nd rfl (Or.inl rfl)) (fun _ _ _ _ _ => pts_one (pt_val (pe_callB (isiK G.K) (by rfl) T.z_isinstance (by decide +kernel) (pa_cons (pv 1) (pa_cons (pe_bltn (v := .ty "tuple") (by rfl) T.z_tuple (by decide +kernel) rfl) pa_nil))))) (fun _ _ _ _ _ => (pe_call R_threads_deep (hr.mono (by omega)) rfl T.g_threads_deep T.kp_threads_deep T.b_threads_deep .nil pass0 (pa_cons (pv 1) pa_nil))))) pa_nil) (pk_cons pe_int pk_nil)))
      (pss_one (ps_ret (pe_op op_add (pv 2) (pe_callTy call_int1 (by rfl) T.z_int (by decide +kernel) (pa_cons (pe_cmpR (eqDK G.K hr.units) (pe_ix (ix_tupK G.K) (pv 0) pe_int (fun _ _ => rfl)) pe_str (nomark _)) pa_nil)))))), ?_⟩
    unfold m_threads_deep_b at hm
    refine f_seq ?_
    refine c_asg ?_
    refine c_ck ?_
    refine c_cons ?_
    refine c_fz ?_
    refine c_lc ?_
    refine c_it ?_
    refine ev_to (ev_var rfl) ?_
    obtain ⟨xs1, h2, hm⟩ := Ml.wp_asTup hm
    refine k_itE (xs := xs1) (hS.im (i := 0) rfl) h2 fun a3 he4 => ?_
    subst he4
    obtain ⟨h5, hm⟩ := R.wp_need hm
    refine lc_sep (β := Int) (fun (_ : Unit) => ([imA (.ref a3) (v_tree : Any), F] : List (Asn G))) (s := ()) (im := (Im.im G)) hS (fun _ _ _ => wk_tupA fun _ _ h => imE h2 (h.im (i := 1) rfl)) h5 hm (fun p6 _ ys9 x7 v8 H q Nx hS hx hm kS kN => ?_) (fun p6 t H hm hS => ?_)
    ·
      have hS := hS.addIm (v := v8) (x := (x7 : Any)) hx
      refine c_gLc (σ' := [some (.ref a3), some v8, none]) rfl rfl ?_
      refine et_to (et_B (ev_isAny (ev_var rfl) ev_c (hS.im (i := 0) rfl) (by decide))) ?_
      refine lc_if (fun hb11 => ?_) (fun hb11 => ?_)
      · have hm := R.wp_ifY hm hb11
        refine c_call ?_
        refine ea_to (ea_cons (ev_var rfl) ea_nil) ?_
        refine ⟨v8, (x7 : Any), star [imA v8 (x7 : Any), lstA p6 (ys9 : List Int), imA (.ref a3) (v_tree : Any), F], rfl, (hS.im (i := 0) rfl), Sep.unstar (M := []) (hS.sel [0, 1, 2, 3] (by decide) rfl : Sep H (([] ++ [imA v8 (x7 : Any), lstA p6 (ys9 : List Int), imA (.ref a3) (v_tree : Any), F] : List (Asn G)))), R.wp_mono (R.wp_bind hm) (fun r12 hm H hS => ?_) (fun _ z => z)⟩
        have hS : Sep H ([imA v8 (x7 : Any), lstA p6 (ys9 : List Int), imA (.ref a3) (v_tree : Any), F] : List (Asn G)) := Sep.star (M := []) hS
        exact kS () _ _ _ hm rfl (hS.sel [1, 2, 3] (by decide) rfl)
      · have hm := R.wp_ifN hm (by first | (rw [hb11]; decide) | simpa using hb11)
        exact kN () _ hm (hS.sel [1, 2, 3] (by decide) rfl)
    · revert hm hS; generalize t = t13; intro hm hS
      refine fz_no ?_
      refine c_nil ?_
      refine k_maxDef (hS.sqF (i := 0) rfl) ev_c ?_
      obtain ⟨y14, hy14, hm⟩ := wp_let hm
      refine n_is (w := (.int (y14))) (by rw [hy14]) ?_
      refine c_set (σ' := [some (.ref a3), none, some (.int (y14))]) rfl ?_
      refine sq_nx ?_
      refine c_ret ?_
      obtain ⟨xs15, h16, hm⟩ := Ml.wp_asTup hm
      obtain ⟨x17, hx17, hm⟩ := wp_idx hm
      obtain ⟨a18, vs19, he20, hg21, hM22⟩ := any_tupE (hS.im (i := 1) rfl) h16
      obtain ⟨u23, hu24, hi25⟩ := atI_im hM22 hx17
      obtain ⟨b26, hb26, hm⟩ := wp_eqA hm
      refine ev_to (ev_add (ev_var rfl) (ev_cb (ea_cons (ev_eqA (ev_ixT (ev_is (ev_var rfl) he20) ev_c hg21 hu24) ev_c hi25 (any_str.mpr rfl) hb26) ea_nil) fun _ q => .inr ⟨_, rfl, q⟩)) ?_
      exact hm _ (hS.sel [2] (by decide) rfl)
theorem ok_threads_deep (T : Txt G mg) : ∀ n : Nat, FnOk P w G.K mg base CX0 (1 + n) T.a_threads_deep T.fd_threads_deep ["tree"] (sp_threads_deep G (m_threads_deep n))
  | 0 => fnOk_no fun vs H Q E h => by obtain ⟨a_v_tree, v_tree, F, _, him_v_tree, _, hm⟩ := h; exact hm
  | n + 1 => ok_threads_deep_b T (Nat.le_add_right_of_le (by decide)) (ok_threads_deep T n)
def sp_is_sign (G : Gx) : Sp := fun vs H Q E => ∃ (v_sign : Nat) (F : Asn G), vs = [(.str (sg (v_sign)))] ∧ Sep H ([F] : List (Asn G)) ∧ R.wp (m_is_sign v_sign) (fun r => ∀ H', Sep H' ([F] : List (Asn G)) → Q (.bl (r)) H') (fun _ => False)
abbrev N_is_sign : List Str := ["sign"]
theorem sc_is_sign : FnScope N_is_sign ["sign"] (defScope s_is_sign) := ⟨rfl, rfl, rfl, by decide +kernel, rfl, by decide +kernel, by decide +kernel⟩
theorem ok_is_sign (T : Txt G mg) : FnOk P w G.K mg base CX0 1 T.a_is_sign T.fd_is_sign ["sign"] (sp_is_sign G) := by
  have nd := sc_is_sign.nd
  refine Fun.ok T.F_is_sign sc_is_sign (fun vs H Q E h => ?_) (fun cdv A outer s H vs Q E hr h => ?_)
  · obtain ⟨v_sign, F, rfl, _⟩ := h; rfl
  · obtain ⟨v_sign, F, rfl, hS, hm⟩ := h
    refine ⟨_, (pss_one (ps_ret (pe_or (pe_cmpR op_inSg (pv 0) (pe_glob (v := .str ("abcdefghijklmnopqrstuvwxyz" : Str)) rfl T.c_SMALL ⟨_, rfl⟩) (by rfl)) (pe_one (pe_cmpR op_inSg (pv 0) (pe_glob (v := .str ("0123456789" : Str)) rfl T.c_FIGURES_words ⟨_, rfl⟩) (by rfl)))))), ?_⟩
    unfold m_is_sign at hm
    refine c_ret ?_
    refine ev_to (ev_orV (ev_inSg (c := v_sign) (ev_var rfl) ev_c) fun _ => (ev_inSg (c := v_sign) (ev_var rfl) ev_c)) ?_
    exact hm _ (hS.sel [0] (by decide) rfl)
def sp_is_word (G : Gx) : Sp := fun vs H Q E => ∃ (a_v_thing : V) (v_thing : Any) (F : Asn G), vs = [a_v_thing] ∧ Im.im G H a_v_thing v_thing ∧ Sep H ([F] : List (Asn G)) ∧ R.wp (m_is_word v_thing) (fun r => ∀ H', Sep H' ([F] : List (Asn G)) → Q (.bl (r)) H') (fun _ => False)
abbrev N_is_word : List Str := ["thing", "sign"]
theorem sc_is_word : FnScope N_is_word ["thing"] (defScope s_is_word) := ⟨rfl, rfl, rfl, by decide +kernel, rfl, by decide +kernel, by decide +kernel⟩
theorem ok_is_word (T : Txt G mg) : FnOk P w G.K mg base CX0 2 T.a_is_word T.fd_is_word ["thing"] (sp_is_word G) := by
  have nd := sc_is_word.nd
  refine Fun.ok T.F_is_word sc_is_word (fun vs H Q E h => ?_) (fun cdv A outer s H vs Q E hr h => ?_)
  · obtain ⟨a_v_thing, v_thing, F, rfl, _⟩ := h; rfl
  · obtain ⟨a_v_thing, v_thing, F, rfl, him_v_thing, hS, hm⟩ := h
    have hS := hS.addIm him_v_thing
    refine ⟨_, (pss_cons (ps_if (PW.pt (pw_or (pt_not (pt_val (pe_callB (isiK G.K) (by rfl) T.z_isinstance (by decide +kernel) (pa_cons (pv 0) (pa_cons (pe_bltn (v := .ty "str") (by rfl) T.z_str (by decide +kernel) rfl) pa_nil))))) (pw_or1 (pt_not (pt_chain op_le op_le pe_int (pe_callB (lenAnyK G.K) (by rfl) T.z_len PySem.boot_len (pa_cons (pv 0) pa_nil)) (pe_glob (v := .int 20) rfl T.c_MOST_SIGNS ⟨_, rfl⟩)))))) (pss_one (ps_ret pe_bl)) pss_nil)
      (pss_one (ps_ret (pe_callB (allK G.K rfl) (by rfl) T.z_all (by decide +kernel) (pa_cons (pe_fz (pe_lc (own := [("sign", 1)]) (g := gName 1) rfl nd (pi_str (pv 0)) (blkOk_by (own := [("sign", 1)]) (N := N_is_word) (sc := defScope s_is_word) (by decide +kernel)) (fun _ _ _ _ _ => pg_name (i := 1) nd rfl (Or.inl rfl)) (fun _ _ _ _ _ => pts_nil) (fun _ _ _ _ _ => (pe_call (ok_is_sign T) (hr.mono (by decide)) rfl T.g_is_sign T.kp_is_sign T.b_is_sign .nil pass0 (pa_cons (pv 1) pa_nil))))) pa_nil))))), ?_⟩
    unfold m_is_word at hm
    refine f_seq ?_
    refine f_if ?_
    refine f_or ?_
    refine et_to (et_not (et_B (ev_isAny (ev_var rfl) ev_c (hS.im (i := 0) rfl) (by decide)))) ?_
    refine orK_J hm hS (fun hb q hm nx => ?_) (fun b1 H hm hS => ?_)
    ·
      obtain ⟨n2, hn2, hm⟩ := wp_lenA hm
      refine et_to (et_not (et_test (ev_chainB (a := decide (1 ≤ n2)) (b := decide (n2 ≤ 20)) ev_c (ev_lenA (ev_var rfl) (hS.im (i := 0) rfl) hn2) (fun _ => ev_c) (fun Q q => r_I0 Q q) (fun _ Q q => r_I0 Q q)))) ?_
      exact nx _ _ hm (hS.sel [0, 1] (by decide) rfl)
    ·
      refine ifK_2 (fun hb3 => ?_) (fun hb3 => ?_)
      · have hm := R.wp_ifY hm hb3
        refine c_ret ?_
        refine ev_to ev_c ?_
        exact hm _ (hS.sel [1] (by decide) rfl)
      · have hm := R.wp_ifN hm (by first | (rw [hb3]; decide) | simpa using hb3)
        refine st_nx ?_
        refine sq_nx ?_
        refine c_ret ?_
        refine c_cb ?_
        refine c_cons ?_
        refine c_fz ?_
        refine c_lc ?_
        refine c_is ?_
        obtain ⟨s4, hs5, hm⟩ := Ml.wp_asStr hm
        have hv6 := v_str (hS.im (i := 0) rfl) hs5
        subst hv6
        refine ev_to (ev_var rfl) ?_
        refine k_is ?_
        obtain ⟨h7, hm⟩ := R.wp_need hm
        refine lc_sep (β := Bool) (fun (_ : Unit) => ([imA (.str (s4)) (v_thing : Any), F] : List (Asn G))) (s := ()) (im := (fun _ v (c : Nat) => v = .str (sg c))) hS (fun _ _ _ => wk_str) h7 hm (fun p8 _ ys11 x9 v10 H q Nx hS hx hm kS kN => ?_) (fun p8 t H hm hS => ?_)
        ·
          cases hx
          refine c_gLc (σ' := [some (.str (s4)), some (.str (sg (x9)))]) rfl rfl ?_
          refine c_yes ?_
          refine c_call ?_
          refine ea_to (ea_cons (ev_var rfl) ea_nil) ?_
          refine ⟨x9, star [lstA p8 (ys11 : List Bool), imA (.str (s4)) (v_thing : Any), F], rfl, Sep.unstar (M := []) (hS.sel [0, 1, 2] (by decide) rfl : Sep H (([] ++ [lstA p8 (ys11 : List Bool), imA (.str (s4)) (v_thing : Any), F] : List (Asn G)))), R.wp_mono (R.wp_bind hm) (fun r12 hm H hS => ?_) (fun _ z => z)⟩
          have hS : Sep H ([lstA p8 (ys11 : List Bool), imA (.str (s4)) (v_thing : Any), F] : List (Asn G)) := Sep.star (M := []) hS
          exact kS () _ _ _ hm rfl (hS.sel [0, 1, 2] (by decide) rfl)
        · revert hm hS; generalize t = t13; intro hm hS
          refine fz_no ?_
          refine c_nil ?_
          refine ⟨_, _, rfl, (hS.sqF (i := 0) rfl), ?_⟩
          exact hm _ (hS.sel [2] (by decide) rfl)
def sp_tokens_of (G : Gx) : Sp := fun vs H Q E => ∃ (v_text : Str) (F : Asn G), vs = [(.str (v_text))] ∧ Sep H ([F] : List (Asn G)) ∧ R.wp (m_tokens_of v_text) (fun r => ∀ p H', Sep H' ([lstA p (r : (List Str)), F] : List (Asn G)) → Q (.ref p) H') (fun _ => False)
abbrev N_tokens_of : List Str := ["text", "found", "run", "sign"]
theorem sc_tokens_of : FnScope N_tokens_of ["text"] (defScope s_tokens_of) := ⟨rfl, rfl, rfl, by decide +kernel, rfl, by decide +kernel, by decide +kernel⟩
theorem ok_tokens_of (T : Txt G mg) : FnOk P w G.K mg base CX0 1 T.a_tokens_of T.fd_tokens_of ["text"] (sp_tokens_of G) := by
  have nd := sc_tokens_of.nd
  refine Fun.ok T.F_tokens_of sc_tokens_of (fun vs H Q E h => ?_) (fun cdv A outer s H vs Q E hr h => ?_)
  · obtain ⟨v_text, F, rfl, _⟩ := h; rfl
  · obtain ⟨v_text, F, rfl, hS, hm⟩ := h
    refine ⟨_, (pss_cons (ps_set (i := 1) nd rfl (Or.inl rfl) (pe_fz (pe_lst pa_nil)))
      (pss_cons (ps_set (i := 2) nd rfl (Or.inl rfl) pe_str)
      (pss_cons (ps_for PassesOwn.never rfl (pi_str (pv 0)) (pg_name (i := 3) nd rfl (Or.inl rfl)) (pss_one (ps_if (pt_cmpR op_inSg (pv 3) pe_str (by rfl)) (pss_cons (ps_if (pt_cmpR op_ne (pv 2) pe_str (nomark _)) (pss_one (ps_expr (pe_bmK G.K PySem.F.plainAttrs_list PySem.F.slot_list_append PySem.F.type_list_append mt_append (pe_fz (pv 1)) (pa_cons (pv 2) pa_nil)))) pss_nil)
      (pss_cons (ps_if (pt_cmpR op_ne (pv 3) pe_str (nomark _)) (pss_one (ps_expr (pe_bmK G.K PySem.F.plainAttrs_list PySem.F.slot_list_append PySem.F.type_list_append mt_append (pe_fz (pv 1)) (pa_cons (pv 3) pa_nil)))) pss_nil)
      (pss_one (ps_set (i := 2) nd rfl (Or.inl rfl) pe_str)))) (pss_one (ps_aug (i := 2) nd rfl (Or.inl rfl) (pv 3) ip_catS)))))
      (pss_cons (ps_if (pt_cmpR op_ne (pv 2) pe_str (nomark _)) (pss_one (ps_expr (pe_bmK G.K PySem.F.plainAttrs_list PySem.F.slot_list_append PySem.F.type_list_append mt_append (pe_fz (pv 1)) (pa_cons (pv 2) pa_nil)))) pss_nil)
      (pss_one (ps_ret (pe_fz (pv 1)))))))), ?_⟩
    unfold m_tokens_of at hm
    refine f_seq ?_
    refine c_asg ?_
    refine c_fz ?_
    refine c_lst ?_
    refine ea_to ea_nil ?_
    refine k_lst (α := Str) (vs := []) (xs := ([] : (List Str))) hS True.intro (by show 0 ≤ sizeLine; decide) fun p1 H hS => ?_
    refine fz_no ?_
    refine c_set (σ' := [some (.str (v_text)), some (.ref p1), none, none]) rfl ?_
    refine sq_nx ?_
    refine f_seq ?_
    refine c_asg ?_
    refine ev_to ev_c ?_
    refine c_set (σ' := [some (.str (v_text)), some (.ref p1), some (.str (("" : Str))), none]) rfl ?_
    refine sq_nx ?_
    refine f_seq ?_
    refine c_for ?_
    refine c_is ?_
    refine ev_to (ev_var rfl) ?_
    refine k_is ?_
    refine k_for (τ := (List Str) × Str) (fun (s2 : (List Str) × Str) (σ : L2.St) (H : Hp) => ∃ (w5 : Option V), σ = [some (.str (v_text)), some (.ref p1), some (.str (s2.2)), w5] ∧ Sep H ([lstA p1 (s2.1 : (List Str)), F] : List (Asn G))) (im := (fun _ v (c : Nat) => v = .str (sg c))) (s := (([] : (List Str)), ("" : Str))) (fun _ => wk_str) ⟨_, rfl, hS.sel [0, 1] (by decide) rfl⟩ hm (fun s2 x3 v4 σ H q N hI hx hm nx => ?_) (fun s2 σ H hm hI => ?_)
    ·
      obtain ⟨w5, rfl, hS⟩ := hI
      cases hx
      refine c_gN (σ' := [some (.str (v_text)), some (.ref p1), some (.str (s2.2)), some (.str (sg (x3)))]) rfl ?_
      refine f_if ?_
      refine et_to (et_test (ev_inSg (c := x3) (ev_var rfl) ev_c)) ?_
      refine ifK_J (τ := (List Str) × Str) (fun (s6 : (List Str) × Str) (σ : L2.St) (H : Hp) => σ = [some (.str (v_text)), some (.ref p1), some (.str (s6.2)), some (.str (sg (x3)))] ∧ Sep H ([lstA p1 (s6.1 : (List Str)), F] : List (Asn G))) hm (fun hb q hm nx => ?_) (fun hb q hm nx => ?_) (fun s6 σ H hm hI => ?_)
      ·
        refine f_seq ?_
        refine f_if ?_
        refine et_to (et_test (ev_neS (ev_var rfl) ev_c)) ?_
        refine ifK_J (τ := (List Str)) (fun (s7 : (List Str)) (σ : L2.St) (H : Hp) => σ = [some (.str (v_text)), some (.ref p1), some (.str (s2.2)), some (.str (sg (x3)))] ∧ Sep H ([lstA p1 (s7 : (List Str)), F] : List (Asn G))) hm (fun hb q hm nx => ?_) (fun hb q hm nx => ?_) (fun s7 σ H hm hI => ?_)
        ·
          refine c_drop ?_
          refine c_bm ?_
          refine ev_to (ev_fz (ev_var rfl)) ⟨tyL hS (i := 0) rfl, ?_⟩
          refine ea_to (ea_cons (ev_var rfl) ea_nil) ?_
          obtain ⟨h8, hm⟩ := R.wp_need hm
          refine k_append (x := s2.2) hS (i := 0) rfl rfl h8 rfl fun H hS => ?_
          exact nx _ _ _ hm ⟨rfl, hS.sel [0, 1] (by decide) rfl⟩
        ·
          refine st_nx ?_
          exact nx _ _ _ hm ⟨rfl, hS.sel [0, 1] (by decide) rfl⟩
        · obtain ⟨rfl, hS⟩ := hI
          refine sq_nx ?_
          refine f_seq ?_
          refine f_if ?_
          refine et_to (et_test (ev_neS (ev_var rfl) ev_c)) ?_
          refine ifK_J (τ := (List Str)) (fun (s9 : (List Str)) (σ : L2.St) (H : Hp) => σ = [some (.str (v_text)), some (.ref p1), some (.str (s2.2)), some (.str (sg (x3)))] ∧ Sep H ([lstA p1 (s9 : (List Str)), F] : List (Asn G))) hm (fun hb q hm nx => ?_) (fun hb q hm nx => ?_) (fun s9 σ H hm hI => ?_)
          ·
            refine c_drop ?_
            refine c_bm ?_
            refine ev_to (ev_fz (ev_var rfl)) ⟨tyL hS (i := 0) rfl, ?_⟩
            refine ea_to (ea_cons (ev_var rfl) ea_nil) ?_
            obtain ⟨h10, hm⟩ := R.wp_need hm
            refine k_append (x := sg (x3)) hS (i := 0) rfl rfl h10 rfl fun H hS => ?_
            exact nx _ _ _ hm ⟨rfl, hS.sel [0, 1] (by decide) rfl⟩
          ·
            refine st_nx ?_
            exact nx _ _ _ hm ⟨rfl, hS.sel [0, 1] (by decide) rfl⟩
          · obtain ⟨rfl, hS⟩ := hI
            refine sq_nx ?_
            refine c_asg ?_
            refine ev_to ev_c ?_
            refine c_set (σ' := [some (.str (v_text)), some (.ref p1), some (.str (("" : Str))), some (.str (sg (x3)))]) rfl ?_
            exact nx _ _ _ hm ⟨rfl, hS.sel [0, 1] (by decide) rfl⟩
      ·
        refine c_aug rfl ?_
        refine ev_to (ev_var rfl) ?_
        obtain ⟨h11, hm⟩ := R.wp_need hm
        refine ⟨_, _, rfl, rfl, h11, ?_⟩
        obtain ⟨y12, hy12, hm⟩ := wp_let hm
        refine n_is (w := (.str (y12))) (by rw [hy12]) ?_
        refine c_set (σ' := [some (.str (v_text)), some (.ref p1), some (.str (y12)), some (.str (sg (x3)))]) rfl ?_
        exact nx _ _ _ hm ⟨rfl, hS.sel [0, 1] (by decide) rfl⟩
      · obtain ⟨rfl, hS⟩ := hI
        exact nx _ _ _ hm ⟨_, rfl, hS.sel [0, 1] (by decide) rfl⟩
    · obtain ⟨w5, rfl, hS⟩ := hI
      refine sq_nx ?_
      refine f_seq ?_
      refine f_if ?_
      refine et_to (et_test (ev_neS (ev_var rfl) ev_c)) ?_
      refine ifK_J (τ := (List Str)) (fun (s13 : (List Str)) (σ : L2.St) (H : Hp) => σ = [some (.str (v_text)), some (.ref p1), some (.str (s2.2)), w5] ∧ Sep H ([lstA p1 (s13 : (List Str)), F] : List (Asn G))) hm (fun hb q hm nx => ?_) (fun hb q hm nx => ?_) (fun s13 σ H hm hI => ?_)
      ·
        refine c_drop ?_
        refine c_bm ?_
        refine ev_to (ev_fz (ev_var rfl)) ⟨tyL hS (i := 0) rfl, ?_⟩
        refine ea_to (ea_cons (ev_var rfl) ea_nil) ?_
        obtain ⟨h14, hm⟩ := R.wp_need hm
        refine k_append (x := s2.2) hS (i := 0) rfl rfl h14 rfl fun H hS => ?_
        exact nx _ _ _ hm ⟨rfl, hS.sel [0, 1] (by decide) rfl⟩
      ·
        refine st_nx ?_
        exact nx _ _ _ hm ⟨rfl, hS.sel [0, 1] (by decide) rfl⟩
      · obtain ⟨rfl, hS⟩ := hI
        refine sq_nx ?_
        refine c_ret ?_
        refine ev_to (ev_fz (ev_var rfl)) ?_
        exact hm _ _ (hS.sel [0, 1] (by decide) rfl)
def sp_token_at (G : Gx) : Sp := fun vs H Q E => ∃ (a_v_tokens : Addr) (v_tokens : (List Str)) (v_at : Int) (F : Asn G), vs = [.ref a_v_tokens, (.int (v_at))] ∧ Sep H ([lstA a_v_tokens (v_tokens : (List Str)), F] : List (Asn G)) ∧ R.wp (m_token_at v_tokens v_at) (fun r => ∀ H', Sep H' ([lstA a_v_tokens (v_tokens : (List Str)), F] : List (Asn G)) → Q (.str (r)) H') (fun _ => False)
abbrev N_token_at : List Str := ["tokens", "at"]
theorem sc_token_at : FnScope N_token_at ["tokens", "at"] (defScope s_token_at) := ⟨rfl, rfl, rfl, by decide +kernel, rfl, by decide +kernel, by decide +kernel⟩
theorem ok_token_at (T : Txt G mg) : FnOk P w G.K mg base CX0 1 T.a_token_at T.fd_token_at ["tokens", "at"] (sp_token_at G) := by
  have nd := sc_token_at.nd
  refine Fun.ok T.F_token_at sc_token_at (fun vs H Q E h => ?_) (fun cdv A outer s H vs Q E hr h => ?_)
  · obtain ⟨a_v_tokens, v_tokens, v_at, F, rfl, _⟩ := h; rfl
  · obtain ⟨a_v_tokens, v_tokens, v_at, F, rfl, hS, hm⟩ := h
    refine ⟨_, (pss_cons (ps_if (pt_cmpR op_lt (pv 1) (pe_callB (lenSqK G.K) (by rfl) T.z_len PySem.boot_len (pa_cons (pe_fz (pv 0)) pa_nil)) (nomark _)) (pss_one (ps_ret (pe_ix (ix_listK G.K) (pe_fz (pv 0)) (pv 1) (fun _ _ => rfl)))) pss_nil)
      (pss_one (ps_ret pe_str))), ?_⟩
    unfold m_token_at at hm
    refine f_seq ?_
    refine f_if ?_
    refine et_to (et_test (ev_i0 (ev_var rfl) (ev_lenLm (ev_fz (ev_var rfl)) (hS.sqF (i := 0) rfl)))) ?_
    refine ifK_2 (fun hb1 => ?_) (fun hb1 => ?_)
    · have hm := R.wp_ifY hm hb1
      refine c_ret ?_
      obtain ⟨x2, hx2, hm⟩ := wp_idx hm
      refine ev_to (ev_ixSq (ev_fz (ev_var rfl)) (ev_var rfl) (hS.sqF (i := 0) rfl) (atI_map hx2)) ?_
      exact hm _ (hS.sel [0, 1] (by decide) rfl)
    · have hm := R.wp_ifN hm (by first | (rw [hb1]; decide) | simpa using hb1)
      refine st_nx ?_
      refine sq_nx ?_
      refine c_ret ?_
      refine ev_to ev_c ?_
      exact hm _ (hS.sel [0, 1] (by decide) rfl)
def sp_word_at (G : Gx) : Sp := fun vs H Q E => ∃ (a_v_tokens : Addr) (v_tokens : (List Str)) (v_at : Int) (F : Asn G), vs = [.ref a_v_tokens, (.int (v_at))] ∧ Sep H ([lstA a_v_tokens (v_tokens : (List Str)), F] : List (Asn G)) ∧ R.wp (m_word_at v_tokens v_at) (fun r => ∀ H', Sep H' ([lstA a_v_tokens (v_tokens : (List Str)), F] : List (Asn G)) → Q (.str (r)) H') (fun _ => False)
abbrev N_word_at : List Str := ["tokens", "at", "word"]
theorem sc_word_at : FnScope N_word_at ["tokens", "at"] (defScope s_word_at) := ⟨rfl, rfl, rfl, by decide +kernel, rfl, by decide +kernel, by decide +kernel⟩
theorem ok_word_at (T : Txt G mg) : FnOk P w G.K mg base CX0 3 T.a_word_at T.fd_word_at ["tokens", "at"] (sp_word_at G) := by
  have nd := sc_word_at.nd
  refine Fun.ok T.F_word_at sc_word_at (fun vs H Q E h => ?_) (fun cdv A outer s H vs Q E hr h => ?_)
  · obtain ⟨a_v_tokens, v_tokens, v_at, F, rfl, _⟩ := h; rfl
  · obtain ⟨a_v_tokens, v_tokens, v_at, F, rfl, hS, hm⟩ := h
    refine ⟨_, (pss_cons (ps_set (i := 2) nd rfl (Or.inl rfl) (pe_call (ok_token_at T) (hr.mono (by decide)) rfl T.g_token_at T.kp_token_at T.b_token_at .nil pass0 (pa_cons (pe_fz (pv 0)) (pa_cons (pv 1) pa_nil))))
      (pss_cons (ps_if (pt_not (pt_val (pe_call (ok_is_word T) (hr.mono (by decide)) rfl T.g_is_word T.kp_is_word T.b_is_word .nil pass0 (pa_cons (pv 2) pa_nil)))) (pss_one ps_no) pss_nil)
      (pss_one (ps_ret (pv 2))))), ?_⟩
    unfold m_word_at at hm
    refine f_seq ?_
    refine c_asg ?_
    refine c_call ?_
    refine ea_to (ea_cons (ev_fz (ev_var rfl)) (ea_cons (ev_var rfl) ea_nil)) ?_
    refine ⟨a_v_tokens, (v_tokens : (List Str)), v_at, star [F], rfl, Sep.unstar (M := [lstA a_v_tokens (v_tokens : (List Str))]) (hS.sel [0, 1] (by decide) rfl : Sep H (([lstA a_v_tokens (v_tokens : (List Str))] ++ [F] : List (Asn G)))), R.wp_mono (R.wp_bind hm) (fun r1 hm H hS => ?_) (fun _ z => z)⟩
    have hS : Sep H ([lstA a_v_tokens (v_tokens : (List Str)), F] : List (Asn G)) := Sep.star (M := [lstA a_v_tokens (v_tokens : (List Str))]) hS
    refine c_set (σ' := [some (.ref a_v_tokens), some (.int (v_at)), some (.str (r1))]) rfl ?_
    refine sq_nx ?_
    refine f_seq ?_
    refine f_if ?_
    refine f_not ?_
    refine f_B ?_
    refine c_call ?_
    refine ea_to (ea_cons (ev_var rfl) ea_nil) ?_
    refine ⟨(.str (r1)), ((Any.str r1) : Any), star [lstA a_v_tokens (v_tokens : (List Str)), F], rfl, (any_str.mpr rfl), Sep.unstar (M := []) (hS.sel [0, 1] (by decide) rfl : Sep H (([] ++ [lstA a_v_tokens (v_tokens : (List Str)), F] : List (Asn G)))), R.wp_mono (R.wp_bind hm) (fun r2 hm H hS => ?_) (fun _ z => z)⟩
    have hS : Sep H ([lstA a_v_tokens (v_tokens : (List Str)), F] : List (Asn G)) := Sep.star (M := []) hS
    refine f_bl ?_
    refine f_nK ?_
    refine ifK_2 (fun hb3 => ?_) (fun hb3 => ?_)
    · have hm := R.wp_ifY hm hb3
      exact (show False from hm).elim
    · have hm := R.wp_ifN hm (by first | (rw [hb3]; decide) | simpa using hb3)
      refine st_nx ?_
      refine sq_nx ?_
      refine c_ret ?_
      refine ev_to (ev_var rfl) ?_
      exact hm _ (hS.sel [0, 1] (by decide) rfl)
def sp_number_at (G : Gx) : Sp := fun vs H Q E => ∃ (a_v_tokens : Addr) (v_tokens : (List Str)) (v_at : Int) (F : Asn G), vs = [.ref a_v_tokens, (.int (v_at))] ∧ Sep H ([lstA a_v_tokens (v_tokens : (List Str)), F] : List (Asn G)) ∧ R.wp (m_number_at v_tokens v_at) (fun r => ∀ H', Sep H' ([lstA a_v_tokens (v_tokens : (List Str)), F] : List (Asn G)) → Q (.int (r)) H') (fun _ => False)
abbrev N_number_at : List Str := ["tokens", "at", "text", "sign"]
theorem sc_number_at : FnScope N_number_at ["tokens", "at"] (defScope s_number_at) := ⟨rfl, rfl, rfl, by decide +kernel, rfl, by decide +kernel, by decide +kernel⟩
theorem ok_number_at (T : Txt G mg) : FnOk P w G.K mg base CX0 2 T.a_number_at T.fd_number_at ["tokens", "at"] (sp_number_at G) := by
  have nd := sc_number_at.nd
  refine Fun.ok T.F_number_at sc_number_at (fun vs H Q E h => ?_) (fun cdv A outer s H vs Q E hr h => ?_)
  · obtain ⟨a_v_tokens, v_tokens, v_at, F, rfl, _⟩ := h; rfl
  · obtain ⟨a_v_tokens, v_tokens, v_at, F, rfl, hS, hm⟩ := h
    refine ⟨_, (pss_cons (ps_set (i := 2) nd rfl (Or.inl rfl) (pe_call (ok_token_at T) (hr.mono (by decide)) rfl T.g_token_at T.kp_token_at T.b_token_at .nil pass0 (pa_cons (pe_fz (pv 0)) (pa_cons (pv 1) pa_nil))))
      (pss_cons (ps_if (PW.pt (pw_or (pt_not (pt_chain op_le op_le pe_int (pe_callB call_lenS (by rfl) T.z_len PySem.boot_len (pa_cons (pv 2) pa_nil)) pe_int)) (pw_or1 (pt_not (pt_val (pe_callB (allK G.K rfl) (by rfl) T.z_all (by decide +kernel) (pa_cons (pe_fz (pe_lc (own := [("sign", 3)]) (g := gName 3) rfl nd (pi_str (pv 2)) (blkOk_by (own := [("sign", 3)]) (N := N_number_at) (sc := defScope s_number_at) (by decide +kernel)) (fun _ _ _ _ _ => pg_name (i := 3) nd rfl (Or.inl rfl)) (fun _ _ _ _ _ => pts_nil) (fun _ _ _ _ _ => (pe_cmpR op_inSg (pv 3) (pe_glob (v := .str ("0123456789" : Str)) rfl T.c_FIGURES_reading ⟨_, rfl⟩) (by rfl))))) pa_nil))))))) (pss_one ps_no) pss_nil)
      (pss_one (ps_ret (pe_callTy call_int_str (by rfl) T.z_int (by decide +kernel) (pa_cons (pv 2) pa_nil)))))), ?_⟩
    unfold m_number_at at hm
    refine f_seq ?_
    refine c_asg ?_
    refine c_call ?_
    refine ea_to (ea_cons (ev_fz (ev_var rfl)) (ea_cons (ev_var rfl) ea_nil)) ?_
    refine ⟨a_v_tokens, (v_tokens : (List Str)), v_at, star [F], rfl, Sep.unstar (M := [lstA a_v_tokens (v_tokens : (List Str))]) (hS.sel [0, 1] (by decide) rfl : Sep H (([lstA a_v_tokens (v_tokens : (List Str))] ++ [F] : List (Asn G)))), R.wp_mono (R.wp_bind hm) (fun r1 hm H hS => ?_) (fun _ z => z)⟩
    have hS : Sep H ([lstA a_v_tokens (v_tokens : (List Str)), F] : List (Asn G)) := Sep.star (M := [lstA a_v_tokens (v_tokens : (List Str))]) hS
    refine c_set (σ' := [some (.ref a_v_tokens), some (.int (v_at)), some (.str (r1)), none]) rfl ?_
    refine sq_nx ?_
    refine f_seq ?_
    refine f_if ?_
    refine f_or ?_
    obtain ⟨h2, hm⟩ := R.wp_need hm
    refine et_to (et_not (et_test (ev_chainB (a := decide (1 ≤ ((r1).length : Int))) (b := decide (((r1).length : Int) ≤ 4)) ev_c (ev_lenS (ev_var rfl) h2) (fun _ => ev_c) (fun Q q => r_I0 Q q) (fun _ Q q => r_I0 Q q)))) ?_
    refine orK_J hm hS (fun hb q hm nx => ?_) (fun b3 H hm hS => ?_)
    ·
      refine f_not ?_
      refine f_B ?_
      refine c_cb ?_
      refine c_cons ?_
      refine c_fz ?_
      refine c_lc ?_
      refine c_is ?_
      refine ev_to (ev_var rfl) ?_
      refine k_is ?_
      obtain ⟨h4, hm⟩ := R.wp_need hm
      refine lc_sep (β := Bool) (fun (_ : Unit) => ([lstA a_v_tokens (v_tokens : (List Str)), F] : List (Asn G))) (s := ()) (im := (fun _ v (c : Nat) => v = .str (sg c))) hS (fun _ _ _ => wk_str) h4 hm (fun p5 _ ys8 x6 v7 H q Nx hS hx hm kS kN => ?_) (fun p5 t H hm hS => ?_)
      ·
        cases hx
        refine c_gLc (σ' := [some (.ref a_v_tokens), some (.int (v_at)), some (.str (r1)), some (.str (sg (x6)))]) rfl rfl ?_
        refine c_yes ?_
        refine ev_to (ev_inSg (c := x6) (ev_var rfl) ev_c) ?_
        exact kS () _ _ _ hm rfl (hS.sel [0, 1, 2] (by decide) rfl)
      · revert hm hS; generalize t = t9; intro hm hS
        refine fz_no ?_
        refine c_nil ?_
        refine ⟨_, _, rfl, (hS.sqF (i := 0) rfl), ?_⟩
        refine f_bl ?_
        refine f_nK ?_
        exact nx _ _ hm (hS.sel [1, 2] (by decide) rfl)
    ·
      refine ifK_2 (fun hb10 => ?_) (fun hb10 => ?_)
      · have hm := R.wp_ifY hm hb10
        exact (show False from hm).elim
      · have hm := R.wp_ifN hm (by first | (rw [hb10]; decide) | simpa using hb10)
        refine st_nx ?_
        refine sq_nx ?_
        refine c_ret ?_
        obtain ⟨n11, hn11, hm⟩ := wp_intR hm
        refine ev_to (ev_intS (ev_var rfl) hn11) ?_
        exact hm _ (hS.sel [0, 1] (by decide) rfl)
def sp_days_at (G : Gx) : Sp := fun vs H Q E => ∃ (a_v_tokens : Addr) (v_tokens : (List Str)) (v_at : Int) (F : Asn G), vs = [.ref a_v_tokens, (.int (v_at))] ∧ Sep H ([lstA a_v_tokens (v_tokens : (List Str)), F] : List (Asn G)) ∧ R.wp (m_days_at v_tokens v_at) (fun r => ∀ (p : Addr) H', Sep H' ([imA (.ref p) (r : (Cond × Int)), lstA a_v_tokens (v_tokens : (List Str)), F] : List (Asn G)) → Q (.ref p) H') (fun _ => False)
abbrev N_days_at : List Str := ["tokens", "at", "number"]
theorem sc_days_at : FnScope N_days_at ["tokens", "at"] (defScope s_days_at) := ⟨rfl, rfl, rfl, by decide +kernel, rfl, by decide +kernel, by decide +kernel⟩
theorem ok_days_at (T : Txt G mg) : FnOk P w G.K mg base CX0 3 T.a_days_at T.fd_days_at ["tokens", "at"] (sp_days_at G) := by
  have nd := sc_days_at.nd
  refine Fun.ok T.F_days_at sc_days_at (fun vs H Q E h => ?_) (fun cdv A outer s H vs Q E hr h => ?_)
  · obtain ⟨a_v_tokens, v_tokens, v_at, F, rfl, _⟩ := h; rfl
  · obtain ⟨a_v_tokens, v_tokens, v_at, F, rfl, hS, hm⟩ := h
    refine ⟨_, (pss_cons (ps_set (i := 2) nd rfl (Or.inl rfl) (pe_call (ok_number_at T) (hr.mono (by decide)) rfl T.g_number_at T.kp_number_at T.b_number_at .nil pass0 (pa_cons (pe_fz (pv 0)) (pa_cons (pe_op op_add (pv 1) pe_int) pa_nil))))
      (pss_cons (ps_if (pt_cmpR op_eq (pe_ix (ix_listK G.K) (pe_fz (pv 0)) (pv 1) (fun _ _ => rfl)) pe_str (nomark _)) (pss_cons (ps_if (pt_cmpR op_eq (pv 2) pe_int (nomark _)) (pss_one ps_no) pss_nil)
      (pss_one (ps_ret (pe_tup (pa_cons (pe_make T.k_OnDays (ok_OnDays___init__ T) (hr.mono (by decide)) rfl T.g_OnDays T.b_OnDays___init__ .nil pass0 (pa_cons pe_int (pa_cons (pe_op op_sub (pv 2) pe_int) pa_nil))) (pa_cons (pe_op op_add (pv 1) pe_int) pa_nil)))))) pss_nil)
      (pss_cons (ps_if (pt_cmpR op_eq (pe_ix (ix_listK G.K) (pe_fz (pv 0)) (pv 1) (fun _ _ => rfl)) pe_str (nomark _)) (pss_cons (ps_if (pt_cmpR op_eq (pv 2) (pe_glob (v := .int 9999) rfl T.c_LAST_DAY ⟨_, rfl⟩) (nomark _)) (pss_one ps_no) pss_nil)
      (pss_one (ps_ret (pe_tup (pa_cons (pe_make T.k_OnDays (ok_OnDays___init__ T) (hr.mono (by decide)) rfl T.g_OnDays T.b_OnDays___init__ .nil pass0 (pa_cons (pe_op op_add (pv 2) pe_int) (pa_cons (pe_glob (v := .int 9999) rfl T.c_LAST_DAY ⟨_, rfl⟩) pa_nil))) (pa_cons (pe_op op_add (pv 1) pe_int) pa_nil)))))) pss_nil)
      (pss_cons (ps_if (pt_cmpR op_ne (pe_call (ok_token_at T) (hr.mono (by decide)) rfl T.g_token_at T.kp_token_at T.b_token_at .nil pass0 (pa_cons (pe_fz (pv 0)) (pa_cons (pe_op op_add (pv 1) pe_int) pa_nil))) pe_str (nomark _)) (pss_one (ps_ret (pe_tup (pa_cons (pe_make T.k_OnDays (ok_OnDays___init__ T) (hr.mono (by decide)) rfl T.g_OnDays T.b_OnDays___init__ .nil pass0 (pa_cons (pv 2) (pa_cons (pv 2) pa_nil))) (pa_cons (pe_op op_add (pv 1) pe_int) pa_nil))))) pss_nil)
      (pss_one (ps_ret (pe_tup (pa_cons (pe_make T.k_OnDays (ok_OnDays___init__ T) (hr.mono (by decide)) rfl T.g_OnDays T.b_OnDays___init__ .nil pass0 (pa_cons (pv 2) (pa_cons (pe_call (ok_number_at T) (hr.mono (by decide)) rfl T.g_number_at T.kp_number_at T.b_number_at .nil pass0 (pa_cons (pe_fz (pv 0)) (pa_cons (pe_op op_add (pv 1) pe_int) pa_nil))) pa_nil))) (pa_cons (pe_op op_add (pv 1) pe_int) pa_nil))))))))), ?_⟩
    unfold m_days_at at hm
    refine f_seq ?_
    refine c_asg ?_
    refine c_call ?_
    refine ea_to (ea_cons (ev_fz (ev_var rfl)) (ea_cons (ev_add (ev_var rfl) ev_c) ea_nil)) ?_
    refine ⟨a_v_tokens, (v_tokens : (List Str)), (v_at + 1), star [F], rfl, Sep.unstar (M := [lstA a_v_tokens (v_tokens : (List Str))]) (hS.sel [0, 1] (by decide) rfl : Sep H (([lstA a_v_tokens (v_tokens : (List Str))] ++ [F] : List (Asn G)))), R.wp_mono (R.wp_bind hm) (fun r1 hm H hS => ?_) (fun _ z => z)⟩
    have hS : Sep H ([lstA a_v_tokens (v_tokens : (List Str)), F] : List (Asn G)) := Sep.star (M := [lstA a_v_tokens (v_tokens : (List Str))]) hS
    refine c_set (σ' := [some (.ref a_v_tokens), some (.int (v_at)), some (.int (r1))]) rfl ?_
    refine sq_nx ?_
    refine f_seq ?_
    refine f_if ?_
    obtain ⟨x2, hx2, hm⟩ := wp_idx hm
    refine et_to (et_test (ev_eqS (ev_ixSq (ev_fz (ev_var rfl)) (ev_var rfl) (hS.sqF (i := 0) rfl) (atI_map hx2)) ev_c)) ?_
    refine ifK_2 (fun hb3 => ?_) (fun hb3 => ?_)
    · have hm := R.wp_ifY hm hb3
      refine f_seq ?_
      refine f_if ?_
      refine et_to (et_test (ev_eqI (ev_var rfl) ev_c)) ?_
      refine ifK_2 (fun hb4 => ?_) (fun hb4 => ?_)
      · have hm := R.wp_ifY hm hb4
        exact (show False from hm).elim
      · have hm := R.wp_ifN hm (by first | (rw [hb4]; decide) | simpa using hb4)
        refine st_nx ?_
        refine sq_nx ?_
        refine c_ret ?_
        refine c_tup ?_
        refine c_cons ?_
        refine c_make ?_
        refine ea_to (ea_cons ev_c (ea_cons (ev_sub (ev_var rfl) ev_c) ea_nil)) ?_
        intro p5 d6 np nd ne
        have hS := hS.newI (C := G.cl 7) np nd ne (by rw [T.fz_OnDays]; decide)
        refine ⟨p5, d6, 0, (r1 - 1), star [lstA a_v_tokens (v_tokens : (List Str)), F], rfl, Sep.unstar (M := [cell p5 (.ins (G.cl 7) d6 [])]) (hS.sel [0, 1, 2] (by decide) rfl : Sep _ (([cell p5 (.ins (G.cl 7) d6 [])] ++ [lstA a_v_tokens (v_tokens : (List Str)), F] : List (Asn G)))), R.wp_mono (R.wp_bind hm) (fun r7 hm H hS => ⟨rfl, ?_⟩) (fun _ z => z)⟩
        have hS : Sep H ([imA (.ref p5) (r7 : OnDays), lstA a_v_tokens (v_tokens : (List Str)), F] : List (Asn G)) := Sep.star (M := [imA (.ref p5) (r7 : OnDays)]) hS
        refine c_cons ?_
        refine ev_to (ev_add (ev_var rfl) ev_c) ?_
        refine c_nil ?_
        refine k_tupP (x := (((Cond.OnDays r7.low r7.high), v_at + 2) : (Cond × Int))) hS (fun H' p h s => mk2 (to_OnDays (hS.im (i := 0) rfl)) rfl h s) (by show 2 ≤ sizeLine; decide) fun p9 H hS => ?_
        exact hm _ _ (hS.sel [0, 2, 3] (by decide) rfl)
    · have hm := R.wp_ifN hm (by first | (rw [hb3]; decide) | simpa using hb3)
      refine st_nx ?_
      refine sq_nx ?_
      refine f_seq ?_
      refine f_if ?_
      obtain ⟨x11, hx11, hm⟩ := wp_idx hm
      refine et_to (et_test (ev_eqS (ev_ixSq (ev_fz (ev_var rfl)) (ev_var rfl) (hS.sqF (i := 0) rfl) (atI_map hx11)) ev_c)) ?_
      refine ifK_2 (fun hb12 => ?_) (fun hb12 => ?_)
      · have hm := R.wp_ifY hm hb12
        refine f_seq ?_
        refine f_if ?_
        refine et_to (et_test (ev_eqI (ev_var rfl) ev_c)) ?_
        refine ifK_2 (fun hb13 => ?_) (fun hb13 => ?_)
        · have hm := R.wp_ifY hm hb13
          exact (show False from hm).elim
        · have hm := R.wp_ifN hm (by first | (rw [hb13]; decide) | simpa using hb13)
          refine st_nx ?_
          refine sq_nx ?_
          refine c_ret ?_
          refine c_tup ?_
          refine c_cons ?_
          refine c_make ?_
          refine ea_to (ea_cons (ev_add (ev_var rfl) ev_c) (ea_cons ev_c ea_nil)) ?_
          intro p14 d15 np nd ne
          have hS := hS.newI (C := G.cl 7) np nd ne (by rw [T.fz_OnDays]; decide)
          refine ⟨p14, d15, (r1 + 1), 9999, star [lstA a_v_tokens (v_tokens : (List Str)), F], rfl, Sep.unstar (M := [cell p14 (.ins (G.cl 7) d15 [])]) (hS.sel [0, 1, 2] (by decide) rfl : Sep _ (([cell p14 (.ins (G.cl 7) d15 [])] ++ [lstA a_v_tokens (v_tokens : (List Str)), F] : List (Asn G)))), R.wp_mono (R.wp_bind hm) (fun r16 hm H hS => ⟨rfl, ?_⟩) (fun _ z => z)⟩
          have hS : Sep H ([imA (.ref p14) (r16 : OnDays), lstA a_v_tokens (v_tokens : (List Str)), F] : List (Asn G)) := Sep.star (M := [imA (.ref p14) (r16 : OnDays)]) hS
          refine c_cons ?_
          refine ev_to (ev_add (ev_var rfl) ev_c) ?_
          refine c_nil ?_
          refine k_tupP (x := (((Cond.OnDays r16.low r16.high), v_at + 2) : (Cond × Int))) hS (fun H' p h s => mk2 (to_OnDays (hS.im (i := 0) rfl)) rfl h s) (by show 2 ≤ sizeLine; decide) fun p18 H hS => ?_
          exact hm _ _ (hS.sel [0, 2, 3] (by decide) rfl)
      · have hm := R.wp_ifN hm (by first | (rw [hb12]; decide) | simpa using hb12)
        refine st_nx ?_
        refine sq_nx ?_
        refine f_seq ?_
        refine f_if ?_
        refine f_test ?_
        refine c_op ?_
        refine c_call ?_
        refine ea_to (ea_cons (ev_fz (ev_var rfl)) (ea_cons (ev_add (ev_var rfl) ev_c) ea_nil)) ?_
        refine ⟨a_v_tokens, (v_tokens : (List Str)), (v_at + 2), star [F], rfl, Sep.unstar (M := [lstA a_v_tokens (v_tokens : (List Str))]) (hS.sel [0, 1] (by decide) rfl : Sep H (([lstA a_v_tokens (v_tokens : (List Str))] ++ [F] : List (Asn G)))), R.wp_mono (R.wp_bind hm) (fun r20 hm H hS => ?_) (fun _ z => z)⟩
        have hS : Sep H ([lstA a_v_tokens (v_tokens : (List Str)), F] : List (Asn G)) := Sep.star (M := [lstA a_v_tokens (v_tokens : (List Str))]) hS
        refine ev_to ev_c ?_
        refine ev_op2 (ev_neS ev_c ev_c) ?_
        refine f_bl ?_
        refine ifK_2 (fun hb21 => ?_) (fun hb21 => ?_)
        · have hm := R.wp_ifY hm hb21
          refine c_ret ?_
          refine c_tup ?_
          refine c_cons ?_
          refine c_make ?_
          refine ea_to (ea_cons (ev_var rfl) (ea_cons (ev_var rfl) ea_nil)) ?_
          intro p22 d23 np nd ne
          have hS := hS.newI (C := G.cl 7) np nd ne (by rw [T.fz_OnDays]; decide)
          refine ⟨p22, d23, r1, r1, star [lstA a_v_tokens (v_tokens : (List Str)), F], rfl, Sep.unstar (M := [cell p22 (.ins (G.cl 7) d23 [])]) (hS.sel [0, 1, 2] (by decide) rfl : Sep _ (([cell p22 (.ins (G.cl 7) d23 [])] ++ [lstA a_v_tokens (v_tokens : (List Str)), F] : List (Asn G)))), R.wp_mono (R.wp_bind hm) (fun r24 hm H hS => ⟨rfl, ?_⟩) (fun _ z => z)⟩
          have hS : Sep H ([imA (.ref p22) (r24 : OnDays), lstA a_v_tokens (v_tokens : (List Str)), F] : List (Asn G)) := Sep.star (M := [imA (.ref p22) (r24 : OnDays)]) hS
          refine c_cons ?_
          refine ev_to (ev_add (ev_var rfl) ev_c) ?_
          refine c_nil ?_
          refine k_tupP (x := (((Cond.OnDays r24.low r24.high), v_at + 2) : (Cond × Int))) hS (fun H' p h s => mk2 (to_OnDays (hS.im (i := 0) rfl)) rfl h s) (by show 2 ≤ sizeLine; decide) fun p26 H hS => ?_
          exact hm _ _ (hS.sel [0, 2, 3] (by decide) rfl)
        · have hm := R.wp_ifN hm (by first | (rw [hb21]; decide) | simpa using hb21)
          refine st_nx ?_
          refine sq_nx ?_
          refine c_ret ?_
          refine c_tup ?_
          refine c_cons ?_
          refine c_make ?_
          refine c_cons ?_
          refine ev_to (ev_var rfl) ?_
          refine c_cons ?_
          refine c_call ?_
          refine ea_to (ea_cons (ev_fz (ev_var rfl)) (ea_cons (ev_add (ev_var rfl) ev_c) ea_nil)) ?_
          refine ⟨a_v_tokens, (v_tokens : (List Str)), (v_at + 3), star [F], rfl, Sep.unstar (M := [lstA a_v_tokens (v_tokens : (List Str))]) (hS.sel [0, 1] (by decide) rfl : Sep H (([lstA a_v_tokens (v_tokens : (List Str))] ++ [F] : List (Asn G)))), R.wp_mono (R.wp_bind hm) (fun r28 hm H hS => ?_) (fun _ z => z)⟩
          have hS : Sep H ([lstA a_v_tokens (v_tokens : (List Str)), F] : List (Asn G)) := Sep.star (M := [lstA a_v_tokens (v_tokens : (List Str))]) hS
          refine c_nil ?_
          intro p29 d30 np nd ne
          have hS := hS.newI (C := G.cl 7) np nd ne (by rw [T.fz_OnDays]; decide)
          refine ⟨p29, d30, r1, r28, star [lstA a_v_tokens (v_tokens : (List Str)), F], rfl, Sep.unstar (M := [cell p29 (.ins (G.cl 7) d30 [])]) (hS.sel [0, 1, 2] (by decide) rfl : Sep _ (([cell p29 (.ins (G.cl 7) d30 [])] ++ [lstA a_v_tokens (v_tokens : (List Str)), F] : List (Asn G)))), R.wp_mono (R.wp_bind hm) (fun r31 hm H hS => ⟨rfl, ?_⟩) (fun _ z => z)⟩
          have hS : Sep H ([imA (.ref p29) (r31 : OnDays), lstA a_v_tokens (v_tokens : (List Str)), F] : List (Asn G)) := Sep.star (M := [imA (.ref p29) (r31 : OnDays)]) hS
          refine c_cons ?_
          refine ev_to (ev_add (ev_var rfl) ev_c) ?_
          refine c_nil ?_
          refine k_tupP (x := (((Cond.OnDays r31.low r31.high), v_at + 4) : (Cond × Int))) hS (fun H' p h s => mk2 (to_OnDays (hS.im (i := 0) rfl)) rfl h s) (by show 2 ≤ sizeLine; decide) fun p33 H hS => ?_
          exact hm _ _ (hS.sel [0, 2, 3] (by decide) rfl)
def sp_both_at (G : Gx) (m_one_at : (List Str) → Int → Int → R (Cond × Int)) : Sp := fun vs H Q E => ∃ (a_v_tokens : Addr) (v_tokens : (List Str)) (v_at : Int) (v_room : Int) (F : Asn G), vs = [.ref a_v_tokens, (.int (v_at)), (.int (v_room))] ∧ Sep H ([lstA a_v_tokens (v_tokens : (List Str)), F] : List (Asn G)) ∧ R.wp (m_both_at m_one_at v_tokens v_at v_room) (fun r => ∀ (p : Addr) H', Sep H' ([imA (.ref p) (r : (Cond × Int)), lstA a_v_tokens (v_tokens : (List Str)), F] : List (Asn G)) → Q (.ref p) H') (fun _ => False)
abbrev N_both_at : List Str := ["tokens", "at", "room", "pair", "more"]
theorem sc_both_at : FnScope N_both_at ["tokens", "at", "room"] (defScope s_both_at) := ⟨rfl, rfl, rfl, by decide +kernel, rfl, by decide +kernel, by decide +kernel⟩
theorem ok_both_at (T : Txt G mg) {lv : Nat} (hl : 2 ≤ lv) {m_one_at : (List Str) → Int → Int → R (Cond × Int)} (R_one_at : FnOk P w G.K mg base CX0 lv T.a_one_at T.fd_one_at ["tokens", "at", "room"] (sp_one_at G m_one_at)) : FnOk P w G.K mg base CX0 (lv + 1) T.a_both_at T.fd_both_at ["tokens", "at", "room"] (sp_both_at G m_one_at) := by
  have nd := sc_both_at.nd
  refine Fun.ok T.F_both_at sc_both_at (fun vs H Q E h => ?_) (fun cdv A outer s H vs Q E hr h => ?_)
  · obtain ⟨a_v_tokens, v_tokens, v_at, v_room, F, rfl, _⟩ := h; rfl
  · obtain ⟨a_v_tokens, v_tokens, v_at, v_room, F, rfl, hS, hm⟩ := h
    refine ⟨_, (pss_cons (ps_set (i := 3) nd rfl (Or.inl rfl) (pe_call R_one_at (hr.mono (by omega)) rfl T.g_one_at T.kp_one_at T.b_one_at .nil pass0 (pa_cons (pe_fz (pv 0)) (pa_cons (pv 1) (pa_cons (pv 2) pa_nil)))))
      (pss_cons (ps_while PassesOwn.never (pt_cmpR op_eq (pe_call (ok_token_at T) (hr.mono (by omega)) rfl T.g_token_at T.kp_token_at T.b_token_at .nil pass0 (pa_cons (pe_fz (pv 0)) (pa_cons (pe_ix (ix_tupK G.K) (pv 3) pe_int (fun _ _ => rfl)) pa_nil))) pe_str (nomark _)) (pss_cons (ps_set (i := 4) nd rfl (Or.inl rfl) (pe_call R_one_at (hr.mono (by omega)) rfl T.g_one_at T.kp_one_at T.b_one_at .nil pass0 (pa_cons (pe_fz (pv 0)) (pa_cons (pe_op op_add (pe_ix (ix_tupK G.K) (pv 3) pe_int (fun _ _ => rfl)) pe_int) (pa_cons (pv 2) pa_nil)))))
      (pss_one (ps_set (i := 3) nd rfl (Or.inl rfl) (pe_tup (pa_cons (pe_make T.k_BothSo (ok_OfTwo___init___BothSo T) (hr.mono (by omega)) rfl T.g_BothSo T.b_OfTwo___init__ .nil pass0 (pa_cons (pe_ix (ix_tupK G.K) (pv 3) pe_int (fun _ _ => rfl)) (pa_cons (pe_ix (ix_tupK G.K) (pv 4) pe_int (fun _ _ => rfl)) pa_nil))) (pa_cons (pe_ix (ix_tupK G.K) (pv 4) pe_int (fun _ _ => rfl)) pa_nil)))))))
      (pss_one (ps_ret (pv 3))))), ?_⟩
    unfold m_both_at at hm
    refine f_seq ?_
    refine c_asg ?_
    refine c_call ?_
    refine ea_to (ea_cons (ev_fz (ev_var rfl)) (ea_cons (ev_var rfl) (ea_cons (ev_var rfl) ea_nil))) ?_
    refine ⟨a_v_tokens, (v_tokens : (List Str)), v_at, v_room, star [F], rfl, Sep.unstar (M := [lstA a_v_tokens (v_tokens : (List Str))]) (hS.sel [0, 1] (by decide) rfl : Sep H (([lstA a_v_tokens (v_tokens : (List Str))] ++ [F] : List (Asn G)))), R.wp_mono (R.wp_bind hm) (fun r1 hm p2 H hS => ?_) (fun _ z => z)⟩
    have hS : Sep H ([imA (.ref p2) (r1 : (Cond × Int)), lstA a_v_tokens (v_tokens : (List Str)), F] : List (Asn G)) := Sep.star (M := [imA (.ref p2) (r1 : (Cond × Int)), lstA a_v_tokens (v_tokens : (List Str))]) hS
    refine c_set (σ' := [some (.ref a_v_tokens), some (.int (v_at)), some (.int (v_room)), some (.ref p2), none]) rfl ?_
    refine sq_nx ?_
    refine f_seq ?_
    have hS := hS.addIm (hS.im (i := 0) rfl)
    refine k_whileT (τ := (Cond × Int)) (n := 64) (s := (r1)) (fun (s4 : (Cond × Int)) (σ : L2.St) (H : Hp) => ∃ (w5 : Option V), ∃ (a6 : Addr), σ = [some (.ref a_v_tokens), some (.int (v_at)), some (.int (v_room)), some (.ref a6), w5] ∧ Sep H ([imA (.ref a6) (s4 : (Cond × Int)), imA (.ref p2) (r1 : (Cond × Int)), lstA a_v_tokens (v_tokens : (List Str)), F] : List (Asn G))) ⟨_, _, rfl, hS.sel [1, 0, 2, 3] (by decide) rfl⟩ hm (fun s4 σ H q N hI hm nx => ?_) (fun s4 σ H q N hI hm nx => ?_) (fun s4 σ H hm hI => ?_)
    ·
      obtain ⟨w5, a6, rfl, hS⟩ := hI
      refine f_test ?_
      refine c_op ?_
      refine c_call ?_
      obtain ⟨u9, u10, hT13, h11, h12⟩ := im2 (hS.im (i := 0) rfl)
      obtain ⟨a14, rfl⟩ := isref h11
      obtain rfl : u10 = (.int (s4.2)) := h12
      refine ea_to (ea_cons (ev_fz (ev_var rfl)) (ea_cons (ev_ixT (ev_var rfl) ev_c hT13 rfl) ea_nil)) ?_
      refine ⟨a_v_tokens, (v_tokens : (List Str)), s4.2, star [imA (.ref a6) (s4 : (Cond × Int)), imA (.ref p2) (r1 : (Cond × Int)), F], rfl, Sep.unstar (M := [lstA a_v_tokens (v_tokens : (List Str))]) (hS.sel [2, 0, 1, 3] (by decide) rfl : Sep H (([lstA a_v_tokens (v_tokens : (List Str))] ++ [imA (.ref a6) (s4 : (Cond × Int)), imA (.ref p2) (r1 : (Cond × Int)), F] : List (Asn G)))), R.wp_mono (R.wp_bind hm) (fun r15 hm H hS => ?_) (fun _ z => z)⟩
      have hS : Sep H ([lstA a_v_tokens (v_tokens : (List Str)), imA (.ref a6) (s4 : (Cond × Int)), imA (.ref p2) (r1 : (Cond × Int)), F] : List (Asn G)) := Sep.star (M := [lstA a_v_tokens (v_tokens : (List Str))]) hS
      refine ev_to ev_c ?_
      refine ev_op2 (ev_eqS ev_c ev_c) ?_
      refine f_bl ?_
      exact nx _ _ hm ⟨_, _, rfl, hS.sel [1, 2, 0, 3] (by decide) rfl⟩
    ·
      obtain ⟨w5, a6, rfl, hS⟩ := hI
      refine f_seq ?_
      refine c_asg ?_
      refine c_call ?_
      obtain ⟨u16, u17, hT20, h18, h19⟩ := im2 (hS.im (i := 0) rfl)
      obtain ⟨a21, rfl⟩ := isref h18
      obtain rfl : u17 = (.int (s4.2)) := h19
      refine ea_to (ea_cons (ev_fz (ev_var rfl)) (ea_cons (ev_add (ev_ixT (ev_var rfl) ev_c hT20 rfl) ev_c) (ea_cons (ev_var rfl) ea_nil))) ?_
      refine ⟨a_v_tokens, (v_tokens : (List Str)), (s4.2 + 1), v_room, star [imA (.ref a6) (s4 : (Cond × Int)), imA (.ref p2) (r1 : (Cond × Int)), F], rfl, Sep.unstar (M := [lstA a_v_tokens (v_tokens : (List Str))]) (hS.sel [2, 0, 1, 3] (by decide) rfl : Sep H (([lstA a_v_tokens (v_tokens : (List Str))] ++ [imA (.ref a6) (s4 : (Cond × Int)), imA (.ref p2) (r1 : (Cond × Int)), F] : List (Asn G)))), R.wp_mono (R.wp_bind hm) (fun r22 hm p23 H hS => ?_) (fun _ z => z)⟩
      have hS : Sep H ([imA (.ref p23) (r22 : (Cond × Int)), lstA a_v_tokens (v_tokens : (List Str)), imA (.ref a6) (s4 : (Cond × Int)), imA (.ref p2) (r1 : (Cond × Int)), F] : List (Asn G)) := Sep.star (M := [imA (.ref p23) (r22 : (Cond × Int)), lstA a_v_tokens (v_tokens : (List Str))]) hS
      refine c_set (σ' := [some (.ref a_v_tokens), some (.int (v_at)), some (.int (v_room)), some (.ref a6), some (.ref p23)]) rfl ?_
      refine sq_nx ?_
      refine c_asg ?_
      refine c_tup ?_
      refine c_cons ?_
      refine c_make ?_
      obtain ⟨u25, u26, hT29, h27, h28⟩ := im2 (hS.im (i := 2) rfl)
      obtain ⟨a30, rfl⟩ := isref h27
      obtain rfl : u26 = (.int (s4.2)) := h28
      obtain ⟨u31, u32, hT35, h33, h34⟩ := im2 (hS.im (i := 0) rfl)
      obtain ⟨a36, rfl⟩ := isref h33
      obtain rfl : u32 = (.int (r22.2)) := h34
      refine ea_to (ea_cons (ev_ixT (ev_var rfl) ev_c hT29 rfl) (ea_cons (ev_ixT (ev_var rfl) ev_c hT35 rfl) ea_nil)) ?_
      have hS := hS.addIm (v := (.ref a30)) (x := (s4.1 : Cond)) h27
      have hS := hS.addIm (v := (.ref a36)) (x := (r22.1 : Cond)) h33
      intro p39 d40 np nd ne
      have hS := hS.newI (C := G.cl 11) np nd ne (by rw [T.fz_BothSo]; decide)
      refine ⟨p39, d40, a30, (s4.1 : Cond), a36, (r22.1 : Cond), star [imA (.ref a36) (r22.1 : Cond), imA (.ref a30) (s4.1 : Cond), imA (.ref p23) (r22 : (Cond × Int)), lstA a_v_tokens (v_tokens : (List Str)), imA (.ref a6) (s4 : (Cond × Int)), imA (.ref p2) (r1 : (Cond × Int)), F], rfl, (hS.im (i := 2) rfl), (hS.im (i := 1) rfl), Sep.unstar (M := [cell p39 (.ins (G.cl 11) d40 [])]) (hS.sel [0, 1, 2, 3, 4, 5, 6, 7] (by decide) rfl : Sep _ (([cell p39 (.ins (G.cl 11) d40 [])] ++ [imA (.ref a36) (r22.1 : Cond), imA (.ref a30) (s4.1 : Cond), imA (.ref p23) (r22 : (Cond × Int)), lstA a_v_tokens (v_tokens : (List Str)), imA (.ref a6) (s4 : (Cond × Int)), imA (.ref p2) (r1 : (Cond × Int)), F] : List (Asn G)))), R.wp_mono (R.wp_bind hm) (fun r41 hm H hS => ⟨rfl, ?_⟩) (fun _ z => z)⟩
      have hS : Sep H ([imA (.ref p39) (r41 : BothSo), imA (.ref a36) (r22.1 : Cond), imA (.ref a30) (s4.1 : Cond), imA (.ref p23) (r22 : (Cond × Int)), lstA a_v_tokens (v_tokens : (List Str)), imA (.ref a6) (s4 : (Cond × Int)), imA (.ref p2) (r1 : (Cond × Int)), F] : List (Asn G)) := Sep.star (M := [imA (.ref p39) (r41 : BothSo)]) hS
      refine c_cons ?_
      obtain ⟨u43, u44, hT47, h45, h46⟩ := im2 (hS.im (i := 3) rfl)
      obtain ⟨a48, rfl⟩ := isref h45
      obtain rfl : u44 = (.int (r22.2)) := h46
      refine ev_to (ev_ixT (ev_var rfl) ev_c hT47 rfl) ?_
      refine c_nil ?_
      refine k_tupP (x := (((Cond.BothSo r41.first r41.second), r22.2) : (Cond × Int))) hS (fun H' p h s => mk2 (to_BothSo (hS.im (i := 0) rfl)) rfl h s) (by show 2 ≤ sizeLine; decide) fun p49 H hS => ?_
      refine c_set (σ' := [some (.ref a_v_tokens), some (.int (v_at)), some (.int (v_room)), some (.ref p49), some (.ref p23)]) rfl ?_
      exact nx _ _ _ hm ⟨_, _, rfl, hS.sel [0, 7, 5, 8] (by decide) rfl⟩
    · obtain ⟨w5, a6, rfl, hS⟩ := hI
      refine sq_nx ?_
      refine c_ret ?_
      refine ev_to (ev_var rfl) ?_
      exact hm _ _ (hS.sel [0, 2, 3] (by decide) rfl)
def sp_either_at (G : Gx) (m_one_at : (List Str) → Int → Int → R (Cond × Int)) : Sp := fun vs H Q E => ∃ (a_v_tokens : Addr) (v_tokens : (List Str)) (v_at : Int) (v_room : Int) (F : Asn G), vs = [.ref a_v_tokens, (.int (v_at)), (.int (v_room))] ∧ Sep H ([lstA a_v_tokens (v_tokens : (List Str)), F] : List (Asn G)) ∧ R.wp (m_either_at m_one_at v_tokens v_at v_room) (fun r => ∀ (p : Addr) H', Sep H' ([imA (.ref p) (r : (Cond × Int)), lstA a_v_tokens (v_tokens : (List Str)), F] : List (Asn G)) → Q (.ref p) H') (fun _ => False)
abbrev N_either_at : List Str := ["tokens", "at", "room", "pair", "more"]
theorem sc_either_at : FnScope N_either_at ["tokens", "at", "room"] (defScope s_either_at) := ⟨rfl, rfl, rfl, by decide +kernel, rfl, by decide +kernel, by decide +kernel⟩
theorem ok_either_at (T : Txt G mg) {lv : Nat} (hl : 2 ≤ lv) {m_one_at : (List Str) → Int → Int → R (Cond × Int)} (R_one_at : FnOk P w G.K mg base CX0 lv T.a_one_at T.fd_one_at ["tokens", "at", "room"] (sp_one_at G m_one_at)) : FnOk P w G.K mg base CX0 (lv + 2) T.a_either_at T.fd_either_at ["tokens", "at", "room"] (sp_either_at G m_one_at) := by
  have nd := sc_either_at.nd
  refine Fun.ok T.F_either_at sc_either_at (fun vs H Q E h => ?_) (fun cdv A outer s H vs Q E hr h => ?_)
  · obtain ⟨a_v_tokens, v_tokens, v_at, v_room, F, rfl, _⟩ := h; rfl
  · obtain ⟨a_v_tokens, v_tokens, v_at, v_room, F, rfl, hS, hm⟩ := h
    refine ⟨_, (pss_cons (ps_set (i := 3) nd rfl (Or.inl rfl) (pe_call (ok_both_at T (Nat.le_trans (by decide) hl) R_one_at) (hr.mono (by omega)) rfl T.g_both_at T.kp_both_at T.b_both_at .nil pass0 (pa_cons (pe_fz (pv 0)) (pa_cons (pv 1) (pa_cons (pv 2) pa_nil)))))
      (pss_cons (ps_while PassesOwn.never (pt_cmpR op_eq (pe_call (ok_token_at T) (hr.mono (by omega)) rfl T.g_token_at T.kp_token_at T.b_token_at .nil pass0 (pa_cons (pe_fz (pv 0)) (pa_cons (pe_ix (ix_tupK G.K) (pv 3) pe_int (fun _ _ => rfl)) pa_nil))) pe_str (nomark _)) (pss_cons (ps_set (i := 4) nd rfl (Or.inl rfl) (pe_call (ok_both_at T (Nat.le_trans (by decide) hl) R_one_at) (hr.mono (by omega)) rfl T.g_both_at T.kp_both_at T.b_both_at .nil pass0 (pa_cons (pe_fz (pv 0)) (pa_cons (pe_op op_add (pe_ix (ix_tupK G.K) (pv 3) pe_int (fun _ _ => rfl)) pe_int) (pa_cons (pv 2) pa_nil)))))
      (pss_one (ps_set (i := 3) nd rfl (Or.inl rfl) (pe_tup (pa_cons (pe_make T.k_EitherSo (ok_OfTwo___init___EitherSo T) (hr.mono (by omega)) rfl T.g_EitherSo T.b_OfTwo___init__ .nil pass0 (pa_cons (pe_ix (ix_tupK G.K) (pv 3) pe_int (fun _ _ => rfl)) (pa_cons (pe_ix (ix_tupK G.K) (pv 4) pe_int (fun _ _ => rfl)) pa_nil))) (pa_cons (pe_ix (ix_tupK G.K) (pv 4) pe_int (fun _ _ => rfl)) pa_nil)))))))
      (pss_one (ps_ret (pv 3))))), ?_⟩
    unfold m_either_at at hm
    refine f_seq ?_
    refine c_asg ?_
    refine c_call ?_
    refine ea_to (ea_cons (ev_fz (ev_var rfl)) (ea_cons (ev_var rfl) (ea_cons (ev_var rfl) ea_nil))) ?_
    refine ⟨a_v_tokens, (v_tokens : (List Str)), v_at, v_room, star [F], rfl, Sep.unstar (M := [lstA a_v_tokens (v_tokens : (List Str))]) (hS.sel [0, 1] (by decide) rfl : Sep H (([lstA a_v_tokens (v_tokens : (List Str))] ++ [F] : List (Asn G)))), R.wp_mono (R.wp_bind hm) (fun r1 hm p2 H hS => ?_) (fun _ z => z)⟩
    have hS : Sep H ([imA (.ref p2) (r1 : (Cond × Int)), lstA a_v_tokens (v_tokens : (List Str)), F] : List (Asn G)) := Sep.star (M := [imA (.ref p2) (r1 : (Cond × Int)), lstA a_v_tokens (v_tokens : (List Str))]) hS
    refine c_set (σ' := [some (.ref a_v_tokens), some (.int (v_at)), some (.int (v_room)), some (.ref p2), none]) rfl ?_
    refine sq_nx ?_
    refine f_seq ?_
    have hS := hS.addIm (hS.im (i := 0) rfl)
    refine k_whileT (τ := (Cond × Int)) (n := 64) (s := (r1)) (fun (s4 : (Cond × Int)) (σ : L2.St) (H : Hp) => ∃ (w5 : Option V), ∃ (a6 : Addr), σ = [some (.ref a_v_tokens), some (.int (v_at)), some (.int (v_room)), some (.ref a6), w5] ∧ Sep H ([imA (.ref a6) (s4 : (Cond × Int)), imA (.ref p2) (r1 : (Cond × Int)), lstA a_v_tokens (v_tokens : (List Str)), F] : List (Asn G))) ⟨_, _, rfl, hS.sel [1, 0, 2, 3] (by decide) rfl⟩ hm (fun s4 σ H q N hI hm nx => ?_) (fun s4 σ H q N hI hm nx => ?_) (fun s4 σ H hm hI => ?_)
    ·
      obtain ⟨w5, a6, rfl, hS⟩ := hI
      refine f_test ?_
      refine c_op ?_
      refine c_call ?_
      obtain ⟨u9, u10, hT13, h11, h12⟩ := im2 (hS.im (i := 0) rfl)
      obtain ⟨a14, rfl⟩ := isref h11
      obtain rfl : u10 = (.int (s4.2)) := h12
      refine ea_to (ea_cons (ev_fz (ev_var rfl)) (ea_cons (ev_ixT (ev_var rfl) ev_c hT13 rfl) ea_nil)) ?_
      refine ⟨a_v_tokens, (v_tokens : (List Str)), s4.2, star [imA (.ref a6) (s4 : (Cond × Int)), imA (.ref p2) (r1 : (Cond × Int)), F], rfl, Sep.unstar (M := [lstA a_v_tokens (v_tokens : (List Str))]) (hS.sel [2, 0, 1, 3] (by decide) rfl : Sep H (([lstA a_v_tokens (v_tokens : (List Str))] ++ [imA (.ref a6) (s4 : (Cond × Int)), imA (.ref p2) (r1 : (Cond × Int)), F] : List (Asn G)))), R.wp_mono (R.wp_bind hm) (fun r15 hm H hS => ?_) (fun _ z => z)⟩
      have hS : Sep H ([lstA a_v_tokens (v_tokens : (List Str)), imA (.ref a6) (s4 : (Cond × Int)), imA (.ref p2) (r1 : (Cond × Int)), F] : List (Asn G)) := Sep.star (M := [lstA a_v_tokens (v_tokens : (List Str))]) hS
      refine ev_to ev_c ?_
      refine ev_op2 (ev_eqS ev_c ev_c) ?_
      refine f_bl ?_
      exact nx _ _ hm ⟨_, _, rfl, hS.sel [1, 2, 0, 3] (by decide) rfl⟩
    ·
      obtain ⟨w5, a6, rfl, hS⟩ := hI
      refine f_seq ?_
      refine c_asg ?_
      refine c_call ?_
      obtain ⟨u16, u17, hT20, h18, h19⟩ := im2 (hS.im (i := 0) rfl)
      obtain ⟨a21, rfl⟩ := isref h18
      obtain rfl : u17 = (.int (s4.2)) := h19
      refine ea_to (ea_cons (ev_fz (ev_var rfl)) (ea_cons (ev_add (ev_ixT (ev_var rfl) ev_c hT20 rfl) ev_c) (ea_cons (ev_var rfl) ea_nil))) ?_
      refine ⟨a_v_tokens, (v_tokens : (List Str)), (s4.2 + 1), v_room, star [imA (.ref a6) (s4 : (Cond × Int)), imA (.ref p2) (r1 : (Cond × Int)), F], rfl, Sep.unstar (M := [lstA a_v_tokens (v_tokens : (List Str))]) (hS.sel [2, 0, 1, 3] (by decide) rfl : Sep H (([lstA a_v_tokens (v_tokens : (List Str))] ++ [imA (.ref a6) (s4 : (Cond × Int)), imA (.ref p2) (r1 : (Cond × Int)), F] : List (Asn G)))), R.wp_mono (R.wp_bind hm) (fun r22 hm p23 H hS => ?_) (fun _ z => z)⟩
      have hS : Sep H ([imA (.ref p23) (r22 : (Cond × Int)), lstA a_v_tokens (v_tokens : (List Str)), imA (.ref a6) (s4 : (Cond × Int)), imA (.ref p2) (r1 : (Cond × Int)), F] : List (Asn G)) := Sep.star (M := [imA (.ref p23) (r22 : (Cond × Int)), lstA a_v_tokens (v_tokens : (List Str))]) hS
      refine c_set (σ' := [some (.ref a_v_tokens), some (.int (v_at)), some (.int (v_room)), some (.ref a6), some (.ref p23)]) rfl ?_
      refine sq_nx ?_
      refine c_asg ?_
      refine c_tup ?_
      refine c_cons ?_
      refine c_make ?_
      obtain ⟨u25, u26, hT29, h27, h28⟩ := im2 (hS.im (i := 2) rfl)
      obtain ⟨a30, rfl⟩ := isref h27
      obtain rfl : u26 = (.int (s4.2)) := h28
      obtain ⟨u31, u32, hT35, h33, h34⟩ := im2 (hS.im (i := 0) rfl)
      obtain ⟨a36, rfl⟩ := isref h33
      obtain rfl : u32 = (.int (r22.2)) := h34
      refine ea_to (ea_cons (ev_ixT (ev_var rfl) ev_c hT29 rfl) (ea_cons (ev_ixT (ev_var rfl) ev_c hT35 rfl) ea_nil)) ?_
      have hS := hS.addIm (v := (.ref a30)) (x := (s4.1 : Cond)) h27
      have hS := hS.addIm (v := (.ref a36)) (x := (r22.1 : Cond)) h33
      intro p39 d40 np nd ne
      have hS := hS.newI (C := G.cl 12) np nd ne (by rw [T.fz_EitherSo]; decide)
      refine ⟨p39, d40, a30, (s4.1 : Cond), a36, (r22.1 : Cond), star [imA (.ref a36) (r22.1 : Cond), imA (.ref a30) (s4.1 : Cond), imA (.ref p23) (r22 : (Cond × Int)), lstA a_v_tokens (v_tokens : (List Str)), imA (.ref a6) (s4 : (Cond × Int)), imA (.ref p2) (r1 : (Cond × Int)), F], rfl, (hS.im (i := 2) rfl), (hS.im (i := 1) rfl), Sep.unstar (M := [cell p39 (.ins (G.cl 12) d40 [])]) (hS.sel [0, 1, 2, 3, 4, 5, 6, 7] (by decide) rfl : Sep _ (([cell p39 (.ins (G.cl 12) d40 [])] ++ [imA (.ref a36) (r22.1 : Cond), imA (.ref a30) (s4.1 : Cond), imA (.ref p23) (r22 : (Cond × Int)), lstA a_v_tokens (v_tokens : (List Str)), imA (.ref a6) (s4 : (Cond × Int)), imA (.ref p2) (r1 : (Cond × Int)), F] : List (Asn G)))), R.wp_mono (R.wp_bind hm) (fun r41 hm H hS => ⟨rfl, ?_⟩) (fun _ z => z)⟩
      have hS : Sep H ([imA (.ref p39) (r41 : EitherSo), imA (.ref a36) (r22.1 : Cond), imA (.ref a30) (s4.1 : Cond), imA (.ref p23) (r22 : (Cond × Int)), lstA a_v_tokens (v_tokens : (List Str)), imA (.ref a6) (s4 : (Cond × Int)), imA (.ref p2) (r1 : (Cond × Int)), F] : List (Asn G)) := Sep.star (M := [imA (.ref p39) (r41 : EitherSo)]) hS
      refine c_cons ?_
      obtain ⟨u43, u44, hT47, h45, h46⟩ := im2 (hS.im (i := 3) rfl)
      obtain ⟨a48, rfl⟩ := isref h45
      obtain rfl : u44 = (.int (r22.2)) := h46
      refine ev_to (ev_ixT (ev_var rfl) ev_c hT47 rfl) ?_
      refine c_nil ?_
      refine k_tupP (x := (((Cond.EitherSo r41.first r41.second), r22.2) : (Cond × Int))) hS (fun H' p h s => mk2 (to_EitherSo (hS.im (i := 0) rfl)) rfl h s) (by show 2 ≤ sizeLine; decide) fun p49 H hS => ?_
      refine c_set (σ' := [some (.ref a_v_tokens), some (.int (v_at)), some (.int (v_room)), some (.ref p49), some (.ref p23)]) rfl ?_
      exact nx _ _ _ hm ⟨_, _, rfl, hS.sel [0, 7, 5, 8] (by decide) rfl⟩
    · obtain ⟨w5, a6, rfl, hS⟩ := hI
      refine sq_nx ?_
      refine c_ret ?_
      refine ev_to (ev_var rfl) ?_
      exact hm _ _ (hS.sel [0, 2, 3] (by decide) rfl)
def sp_law_cell_at (G : Gx) : Sp := fun vs H Q E => ∃ (a_v_law_script : V) (v_law_script : Script) (v_law_k : Int) (F : Asn G), vs = [a_v_law_script, (.int (v_law_k))] ∧ Im.im G H a_v_law_script v_law_script ∧ Sep H ([F] : List (Asn G)) ∧ R.wp (m_law_cell_at v_law_script v_law_k) (fun r => ∀ H', Sep H' ([F] : List (Asn G)) → Q (.int (r)) H') (fun _ => False)
abbrev N_law_cell_at : List Str := ["_law_script", "_law_k"]
theorem sc_law_cell_at : FnScope N_law_cell_at ["_law_script", "_law_k"] (defScope s_law_cell_at) := ⟨rfl, rfl, rfl, by decide +kernel, rfl, by decide +kernel, by decide +kernel⟩
theorem ok_law_cell_at (T : Txt G mg) : FnOk P w G.K mg base CX0 1 T.a_law_cell_at T.fd_law_cell_at ["_law_script", "_law_k"] (sp_law_cell_at G) := by
  have nd := sc_law_cell_at.nd
  refine Fun.ok T.F_law_cell_at sc_law_cell_at (fun vs H Q E h => ?_) (fun cdv A outer s H vs Q E hr h => ?_)
  · obtain ⟨a_v_law_script, v_law_script, v_law_k, F, rfl, _⟩ := h; rfl
  · obtain ⟨a_v_law_script, v_law_script, v_law_k, F, rfl, him_v_law_script, hS, hm⟩ := h
    obtain ⟨ad_v_law_script, rfl, _⟩ := im_script him_v_law_script
    have hS := hS.addIm him_v_law_script
    refine ⟨_, (pss_cons (ps_if (pt_cmpR op_lt (pv 1) (pe_callB (lenSqK G.K) (by rfl) T.z_len PySem.boot_len (pa_cons (pv 0) pa_nil)) (nomark _)) (pss_one (ps_ret (pe_ix (ix_listK G.K) (pv 0) (pv 1) (fun _ _ => rfl)))) pss_nil)
      (pss_one (ps_ret pe_int))), ?_⟩
    unfold m_law_cell_at at hm
    refine f_seq ?_
    refine f_if ?_
    refine et_to (et_test (ev_i0 (ev_var rfl) (ev_lenLm (ev_var rfl) (sq_script (hS.im (i := 0) rfl))))) ?_
    refine ifK_2 (fun hb1 => ?_) (fun hb1 => ?_)
    · have hm := R.wp_ifY hm hb1
      refine c_ret ?_
      obtain ⟨x2, hx2, hm⟩ := wp_idx hm
      refine ev_to (ev_ixSq (ev_var rfl) (ev_var rfl) (sq_script (hS.im (i := 0) rfl)) (atI_map hx2)) ?_
      exact hm _ (hS.sel [1] (by decide) rfl)
    · have hm := R.wp_ifN hm (by first | (rw [hb1]; decide) | simpa using hb1)
      refine st_nx ?_
      refine sq_nx ?_
      refine c_ret ?_
      refine ev_to ev_c ?_
      exact hm _ (hS.sel [1] (by decide) rfl)
def sp_law_mixed (G : Gx) : Sp := fun vs H Q E => ∃ (a_v_law_script : V) (v_law_script : Script) (v_law_start : Int) (v_law_many : Int) (F : Asn G), vs = [a_v_law_script, (.int (v_law_start)), (.int (v_law_many))] ∧ Im.im G H a_v_law_script v_law_script ∧ Sep H ([F] : List (Asn G)) ∧ R.wp (m_law_mixed v_law_script v_law_start v_law_many) (fun r => ∀ p H', Sep H' ([lstA p (r : (List Int)), F] : List (Asn G)) → Q (.ref p) H') (fun _ => False)
abbrev N_law_mixed : List Str := ["_law_script", "_law_start", "_law_many", "_law_found", "_law_more", "_law_k"]
theorem sc_law_mixed : FnScope N_law_mixed ["_law_script", "_law_start", "_law_many"] (defScope s_law_mixed) := ⟨rfl, rfl, rfl, by decide +kernel, rfl, by decide +kernel, by decide +kernel⟩
theorem ok_law_mixed (T : Txt G mg) : FnOk P w G.K mg base CX0 2 T.a_law_mixed T.fd_law_mixed ["_law_script", "_law_start", "_law_many"] (sp_law_mixed G) := by
  have nd := sc_law_mixed.nd
  refine Fun.ok T.F_law_mixed sc_law_mixed (fun vs H Q E h => ?_) (fun cdv A outer s H vs Q E hr h => ?_)
  · obtain ⟨a_v_law_script, v_law_script, v_law_start, v_law_many, F, rfl, _⟩ := h; rfl
  · obtain ⟨a_v_law_script, v_law_script, v_law_start, v_law_many, F, rfl, him_v_law_script, hS, hm⟩ := h
    obtain ⟨ad_v_law_script, rfl, _⟩ := im_script him_v_law_script
    have hS := hS.addIm him_v_law_script
    refine ⟨_, (pss_cons (ps_set (i := 3) nd rfl (Or.inl rfl) (pe_fz (pe_lst pa_nil)))
      (pss_cons (ps_set (i := 4) nd rfl (Or.inl rfl) pe_int)
      (pss_cons (ps_for PassesOwn.never rfl (pi_range1 rfl T.z_range (pa_cons (pv 2) pa_nil)) (pg_name (i := 5) nd rfl (Or.inl rfl)) (pss_cons (ps_set (i := 4) nd rfl (Or.inl rfl) (pe_op op_mod (pe_op op_add (pe_op op_add (pe_op op_add (pe_op op_mul (pv 4) pe_int) (pe_call (ok_law_cell_at T) (hr.mono (by decide)) rfl T.g_law_cell_at T.kp_law_cell_at T.b_law_cell_at .nil pass0 (pa_cons (pv 0) (pa_cons (pe_op op_add (pv 1) (pv 5)) pa_nil)))) (pe_op op_mul pe_int (pv 5))) pe_int) pe_int))
      (pss_one (ps_expr (pe_bmK G.K PySem.F.plainAttrs_list PySem.F.slot_list_append PySem.F.type_list_append mt_append (pe_fz (pv 3)) (pa_cons (pe_op op_mod (pe_op op_mul (pv 4) (pv 4)) pe_int) pa_nil))))))
      (pss_one (ps_ret (pe_fz (pv 3))))))), ?_⟩
    unfold m_law_mixed at hm
    refine f_seq ?_
    refine c_asg ?_
    refine c_fz ?_
    refine c_lst ?_
    refine ea_to ea_nil ?_
    refine k_lst (α := Int) (vs := []) (xs := ([] : (List Int))) hS True.intro (by show 0 ≤ sizeLine; decide) fun p1 H hS => ?_
    refine fz_no ?_
    refine c_set (σ' := [some (.ref ad_v_law_script), some (.int (v_law_start)), some (.int (v_law_many)), some (.ref p1), none, none]) rfl ?_
    refine sq_nx ?_
    refine f_seq ?_
    refine c_asg ?_
    refine ev_to ev_c ?_
    refine c_set (σ' := [some (.ref ad_v_law_script), some (.int (v_law_start)), some (.int (v_law_many)), some (.ref p1), some (.int (7)), none]) rfl ?_
    refine sq_nx ?_
    refine f_seq ?_
    refine c_for ?_
    refine c_rng1 ?_
    refine ea_to (ea_cons (ev_var rfl) ea_nil) ?_
    obtain ⟨h2, hm⟩ := R.wp_need hm
    refine k_rng1 h2.1 h2.2 ?_
    refine k_for (τ := (List Int) × Int) (fun (s3 : (List Int) × Int) (σ : L2.St) (H : Hp) => ∃ (w6 : Option V), σ = [some (.ref ad_v_law_script), some (.int (v_law_start)), some (.int (v_law_many)), some (.ref p1), some (.int (s3.2)), w6] ∧ Sep H ([lstA p1 (s3.1 : (List Int)), imA (.ref ad_v_law_script) v_law_script, F] : List (Asn G))) (im := (fun _ v (x : Int) => v = .int x)) (s := (([] : (List Int)), 7)) (fun _ => wk_range) ⟨_, rfl, hS.sel [0, 1, 2] (by decide) rfl⟩ hm (fun s3 x4 v5 σ H q N hI hx hm nx => ?_) (fun s3 σ H hm hI => ?_)
    ·
      obtain ⟨w6, rfl, hS⟩ := hI
      cases hx
      refine c_gN (σ' := [some (.ref ad_v_law_script), some (.int (v_law_start)), some (.int (v_law_many)), some (.ref p1), some (.int (s3.2)), some (.int (x4))]) rfl ?_
      refine f_seq ?_
      refine c_asg ?_
      refine c_op ?_
      refine c_op ?_
      refine c_op ?_
      refine c_op ?_
      refine ev_to (ev_mul (ev_var rfl) ev_c (.inr (by constructor <;> decide))) ?_
      refine c_call ?_
      refine ea_to (ea_cons (ev_var rfl) (ea_cons (ev_add (ev_var rfl) (ev_var rfl)) ea_nil)) ?_
      refine ⟨_, v_law_script, (v_law_start + x4), star [lstA p1 (s3.1 : (List Int)), imA (.ref ad_v_law_script) v_law_script, F], rfl, (hS.im (i := 1) rfl), Sep.unstar (M := []) (hS.sel [0, 1, 2] (by decide) rfl : Sep H (([] ++ [lstA p1 (s3.1 : (List Int)), imA (.ref ad_v_law_script) v_law_script, F] : List (Asn G)))), R.wp_mono (R.wp_bind hm) (fun r7 hm H hS => ?_) (fun _ z => z)⟩
      have hS : Sep H ([lstA p1 (s3.1 : (List Int)), imA (.ref ad_v_law_script) v_law_script, F] : List (Asn G)) := Sep.star (M := []) hS
      refine r_I0 _ ?_
      refine ev_to (ev_mul ev_c (ev_var rfl) (.inl (by constructor <;> decide))) ?_
      refine r_I0 _ ?_
      refine ev_to ev_c ?_
      refine r_I0 _ ?_
      refine ev_to ev_c ?_
      refine r_mod (by decide) ?_
      obtain ⟨y8, hy8, hm⟩ := wp_let hm
      refine n_is (w := (.int (y8))) (by rw [hy8]) ?_
      refine c_set (σ' := [some (.ref ad_v_law_script), some (.int (v_law_start)), some (.int (v_law_many)), some (.ref p1), some (.int (y8)), some (.int (x4))]) rfl ?_
      refine sq_nx ?_
      refine c_drop ?_
      refine c_bm ?_
      refine ev_to (ev_fz (ev_var rfl)) ⟨tyL hS (i := 0) rfl, ?_⟩
      obtain ⟨h9, hm⟩ := R.wp_need hm
      refine ea_to (ea_cons (ev_mod (ev_mul (ev_var rfl) (ev_var rfl) h9) ev_c (by decide)) ea_nil) ?_
      obtain ⟨h10, hm⟩ := R.wp_need hm
      refine k_append (x := (y8 * y8) % 2147483629) hS (i := 0) rfl rfl h10 rfl fun H hS => ?_
      exact nx _ _ _ hm ⟨_, rfl, hS.sel [0, 1, 2] (by decide) rfl⟩
    · obtain ⟨w6, rfl, hS⟩ := hI
      refine sq_nx ?_
      refine c_ret ?_
      refine ev_to (ev_fz (ev_var rfl)) ?_
      exact hm _ _ (hS.sel [0, 2] (by decide) rfl)
def sp_law_word_by (G : Gx) : Sp := fun vs H Q E => ∃ (v_law_shape : Int) (v_law_k : Int) (F : Asn G), vs = [(.int (v_law_shape)), (.int (v_law_k))] ∧ Sep H ([F] : List (Asn G)) ∧ R.wp (m_law_word_by v_law_shape v_law_k) (fun r => ∀ H', Sep H' ([F] : List (Asn G)) → Q (.str (r)) H') (fun _ => False)
abbrev N_law_word_by : List Str := ["_law_shape", "_law_k", "_law_own", "_law_place", "_law_word", "_law_turn"]
theorem sc_law_word_by : FnScope N_law_word_by ["_law_shape", "_law_k"] (defScope s_law_word_by) := ⟨rfl, rfl, rfl, by decide +kernel, rfl, by decide +kernel, by decide +kernel⟩
theorem ok_law_word_by (T : Txt G mg) : FnOk P w G.K mg base CX0 1 T.a_law_word_by T.fd_law_word_by ["_law_shape", "_law_k"] (sp_law_word_by G) := by
  have nd := sc_law_word_by.nd
  refine Fun.ok T.F_law_word_by sc_law_word_by (fun vs H Q E h => ?_) (fun cdv A outer s H vs Q E hr h => ?_)
  · obtain ⟨v_law_shape, v_law_k, F, rfl, _⟩ := h; rfl
  · obtain ⟨v_law_shape, v_law_k, F, rfl, hS, hm⟩ := h
    refine ⟨_, (pss_cons (ps_if (pt_cmpR op_eq (pe_op op_mod (pv 0) pe_int) pe_int (nomark _)) (pss_cons (ps_set (i := 2) nd rfl (Or.inl rfl) (pe_fz (pe_lst (pa_cons pe_str (pa_cons pe_str (pa_cons pe_str (pa_cons pe_str (pa_cons pe_str (pa_cons pe_str (pa_cons pe_str (pa_cons pe_str (pa_cons pe_str (pa_cons pe_str (pa_cons pe_str (pa_cons pe_str pa_nil)))))))))))))))
      (pss_cons (ps_set (i := 2) nd rfl (Or.inl rfl) (pe_fz (pe_op op_catR (pe_fz (pv 2)) (pe_fz (pe_lst (pa_cons pe_str (pa_cons pe_str (pa_cons pe_str (pa_cons pe_str (pa_cons pe_str (pa_cons pe_str (pa_cons pe_str (pa_cons pe_str (pa_cons pe_str pa_nil))))))))))))))
      (pss_one (ps_ret (pe_ix (ix_listK G.K) (pe_fz (pv 2)) (pe_op op_mod (pe_op op_add (pe_op op_fdiv (pv 0) pe_int) (pe_op op_mul pe_int (pv 1))) pe_int) (fun _ _ => rfl)))))) pss_nil)
      (pss_cons (ps_set (i := 3) nd rfl (Or.inl rfl) (pe_op op_mod (pe_op op_fdiv (pv 0) pe_int) pe_int))
      (pss_cons (ps_set (i := 4) nd rfl (Or.inl rfl) pe_str)
      (pss_cons (ps_for PassesOwn.never rfl (pi_range1 rfl T.z_range (pa_cons (pe_op op_add (pe_op op_add (pv 3) pe_int) (pe_op op_mod (pe_op op_fdiv (pv 0) pe_int) (pe_op op_sub pe_int (pv 3)))) pa_nil)) (pg_name (i := 5) nd rfl (Or.inl rfl)) (pss_one (ps_if (pt_cmpR op_eq (pv 5) (pv 3) (nomark _)) (pss_one (ps_set (i := 4) nd rfl (Or.inl rfl) (pe_op op_catS (pv 4) (pe_ix ix_str pe_str (pv 1) (fun _ _ => rfl))))) (pss_one (ps_set (i := 4) nd rfl (Or.inl rfl) (pe_op op_catS (pv 4) (pe_ix ix_str pe_str (pe_op op_mod (pe_op op_add (pe_op op_fdiv (pv 0) pe_int) (pe_op op_mul pe_int (pv 5))) pe_int) (fun _ _ => rfl))))))))
      (pss_one (ps_ret (pv 4))))))), ?_⟩
    unfold m_law_word_by at hm
    refine f_seq ?_
    refine f_if ?_
    refine et_to (et_test (ev_eqI (ev_mod (ev_var rfl) ev_c (by decide)) ev_c)) ?_
    refine ifK_2 (fun hb1 => ?_) (fun hb1 => ?_)
    · have hm := R.wp_ifY hm hb1
      refine f_seq ?_
      refine c_asg ?_
      refine c_fz ?_
      refine c_lst ?_
      refine ea_to (ea_cons ev_c (ea_cons ev_c (ea_cons ev_c (ea_cons ev_c (ea_cons ev_c (ea_cons ev_c (ea_cons ev_c (ea_cons ev_c (ea_cons ev_c (ea_cons ev_c (ea_cons ev_c (ea_cons ev_c ea_nil)))))))))))) ?_
      refine k_lst (α := Str) (vs := [(.str (("and" : Str))), (.str (("or" : Str))), (.str (("not" : Str))), (.str (("then" : Str))), (.str (("if" : Str))), (.str (("thread" : Str))), (.str (("to" : Str))), (.str (("any" : Str))), (.str (("day" : Str))), (.str (("stop" : Str))), (.str (("place" : Str))), (.str (("answers" : Str)))]) (xs := [("and" : Str), ("or" : Str), ("not" : Str), ("then" : Str), ("if" : Str), ("thread" : Str), ("to" : Str), ("any" : Str), ("day" : Str), ("stop" : Str), ("place" : Str), ("answers" : Str)]) hS ⟨rfl, ⟨rfl, ⟨rfl, ⟨rfl, ⟨rfl, ⟨rfl, ⟨rfl, ⟨rfl, ⟨rfl, ⟨rfl, ⟨rfl, ⟨rfl, True.intro⟩⟩⟩⟩⟩⟩⟩⟩⟩⟩⟩⟩ (by show 12 ≤ sizeLine; decide) fun p2 H hS => ?_
      refine fz_no ?_
      obtain ⟨y3, hy3, hm⟩ := wp_let hm
      have hS : Sep H ([lstA p2 (y3 : (List Str)), F] : List (Asn G)) := by rw [← hy3]; exact hS
      refine c_set (σ' := [some (.int (v_law_shape)), some (.int (v_law_k)), some (.ref p2), none, none, none]) rfl ?_
      refine sq_nx ?_
      refine f_seq ?_
      refine c_asg ?_
      refine c_fz ?_
      refine c_op ?_
      refine ev_to (ev_fz (ev_var rfl)) ?_
      refine c_fz ?_
      refine c_lst ?_
      refine ea_to (ea_cons ev_c (ea_cons ev_c (ea_cons ev_c (ea_cons ev_c (ea_cons ev_c (ea_cons ev_c (ea_cons ev_c (ea_cons ev_c (ea_cons ev_c ea_nil))))))))) ?_
      refine k_lst (α := Str) (vs := [(.str (("before" : Str))), (.str (("after" : Str))), (.str (("word" : Str))), (.str (("title" : Str))), (.str (("from" : Str))), (.str (("in" : Str))), (.str (("marked" : Str))), (.str (("mark" : Str))), (.str (("unmark" : Str)))]) (xs := [("before" : Str), ("after" : Str), ("word" : Str), ("title" : Str), ("from" : Str), ("in" : Str), ("marked" : Str), ("mark" : Str), ("unmark" : Str)]) hS ⟨rfl, ⟨rfl, ⟨rfl, ⟨rfl, ⟨rfl, ⟨rfl, ⟨rfl, ⟨rfl, ⟨rfl, True.intro⟩⟩⟩⟩⟩⟩⟩⟩⟩ (by show 9 ≤ sizeLine; decide) fun p4 H hS => ?_
      refine fz_no ?_
      obtain ⟨h5, hm⟩ := R.wp_need hm
      refine k_catG hS (hS.rdL (i := 1) rfl) (hS.rdL (i := 0) rfl) h5 fun p6 H hS => ?_
      refine fz_no ?_
      obtain ⟨y7, hy7, hm⟩ := wp_let hm
      have hS : Sep H ([lstA p6 (y7 : (List Str)), lstA p4 ([("before" : Str), ("after" : Str), ("word" : Str), ("title" : Str), ("from" : Str), ("in" : Str), ("marked" : Str), ("mark" : Str), ("unmark" : Str)] : (List Str)), lstA p2 (y3 : (List Str)), F] : List (Asn G)) := by rw [← hy7]; exact hS
      refine c_set (σ' := [some (.int (v_law_shape)), some (.int (v_law_k)), some (.ref p6), none, none, none]) rfl ?_
      refine sq_nx ?_
      refine c_ret ?_
      obtain ⟨x8, hx8, hm⟩ := wp_idx hm
      refine ev_to (ev_ixSq (ev_fz (ev_var rfl)) (ev_mod (ev_add (ev_fdiv (ev_var rfl) ev_c ⟨by decide, by decide⟩) (ev_mul ev_c (ev_var rfl) (.inl (by constructor <;> decide)))) ev_c (by decide)) (hS.sqF (i := 0) rfl) (atI_map hx8)) ?_
      exact hm _ (hS.sel [3] (by decide) rfl)
    · have hm := R.wp_ifN hm (by first | (rw [hb1]; decide) | simpa using hb1)
      refine st_nx ?_
      refine sq_nx ?_
      refine f_seq ?_
      refine c_asg ?_
      refine ev_to (ev_mod (ev_fdiv (ev_var rfl) ev_c ⟨by decide, by decide⟩) ev_c (by decide)) ?_
      obtain ⟨y9, hy9, hm⟩ := wp_let hm
      refine n_is (w := (.int (y9))) (by rw [hy9]) ?_
      refine c_set (σ' := [some (.int (v_law_shape)), some (.int (v_law_k)), none, some (.int (y9)), none, none]) rfl ?_
      refine sq_nx ?_
      refine f_seq ?_
      refine c_asg ?_
      refine ev_to ev_c ?_
      refine c_set (σ' := [some (.int (v_law_shape)), some (.int (v_law_k)), none, some (.int (y9)), some (.str (("" : Str))), none]) rfl ?_
      refine sq_nx ?_
      refine f_seq ?_
      refine c_for ?_
      refine c_rng1 ?_
      obtain ⟨h10, hm⟩ := R.wp_need hm
      refine ea_to (ea_cons (ev_add (ev_add (ev_var rfl) ev_c) (ev_mod (ev_fdiv (ev_var rfl) ev_c ⟨by decide, by decide⟩) (ev_sub ev_c (ev_var rfl)) h10)) ea_nil) ?_
      obtain ⟨h11, hm⟩ := R.wp_need hm
      refine k_rng1 h11.1 h11.2 ?_
      refine k_for (τ := Str) (fun (s12 : Str) (σ : L2.St) (H : Hp) => ∃ (w15 : Option V), σ = [some (.int (v_law_shape)), some (.int (v_law_k)), none, some (.int (y9)), some (.str (s12)), w15] ∧ Sep H ([F] : List (Asn G))) (im := (fun _ v (x : Int) => v = .int x)) (s := (("" : Str))) (fun _ => wk_range) ⟨_, rfl, hS.sel [0] (by decide) rfl⟩ hm (fun s12 x13 v14 σ H q N hI hx hm nx => ?_) (fun s12 σ H hm hI => ?_)
      ·
        obtain ⟨w15, rfl, hS⟩ := hI
        cases hx
        refine c_gN (σ' := [some (.int (v_law_shape)), some (.int (v_law_k)), none, some (.int (y9)), some (.str (s12)), some (.int (x13))]) rfl ?_
        refine f_if ?_
        refine et_to (et_test (ev_eqI (ev_var rfl) (ev_var rfl))) ?_
        refine ifK_J (τ := Str) (fun (s16 : Str) (σ : L2.St) (H : Hp) => σ = [some (.int (v_law_shape)), some (.int (v_law_k)), none, some (.int (y9)), some (.str (s16)), some (.int (x13))] ∧ Sep H ([F] : List (Asn G))) hm (fun hb q hm nx => ?_) (fun hb q hm nx => ?_) (fun s16 σ H hm hI => ?_)
        ·
          refine c_asg ?_
          obtain ⟨c17, hc17, hm⟩ := wp_idx hm
          obtain ⟨h18, hm⟩ := R.wp_need hm
          refine ev_to (ev_catS (ev_var rfl) (ev_ixS ev_c (ev_var rfl) (by decide +kernel) hc17) h18) ?_
          obtain ⟨y19, hy19, hm⟩ := wp_let hm
          refine n_is (w := (.str (y19))) (by rw [hy19]) ?_
          refine c_set (σ' := [some (.int (v_law_shape)), some (.int (v_law_k)), none, some (.int (y9)), some (.str (y19)), some (.int (x13))]) rfl ?_
          exact nx _ _ _ hm ⟨rfl, hS.sel [0] (by decide) rfl⟩
        ·
          refine c_asg ?_
          obtain ⟨c20, hc20, hm⟩ := wp_idx hm
          obtain ⟨h21, hm⟩ := R.wp_need hm
          refine ev_to (ev_catS (ev_var rfl) (ev_ixS ev_c (ev_mod (ev_add (ev_fdiv (ev_var rfl) ev_c ⟨by decide, by decide⟩) (ev_mul ev_c (ev_var rfl) (.inl (by constructor <;> decide)))) ev_c (by decide)) (by decide +kernel) hc20) h21) ?_
          obtain ⟨y22, hy22, hm⟩ := wp_let hm
          refine n_is (w := (.str (y22))) (by rw [hy22]) ?_
          refine c_set (σ' := [some (.int (v_law_shape)), some (.int (v_law_k)), none, some (.int (y9)), some (.str (y22)), some (.int (x13))]) rfl ?_
          exact nx _ _ _ hm ⟨rfl, hS.sel [0] (by decide) rfl⟩
        · obtain ⟨rfl, hS⟩ := hI
          exact nx _ _ _ hm ⟨_, rfl, hS.sel [0] (by decide) rfl⟩
      · obtain ⟨w15, rfl, hS⟩ := hI
        refine sq_nx ?_
        refine c_ret ?_
        refine ev_to (ev_var rfl) ?_
        exact hm _ (hS.sel [0] (by decide) rfl)
def sp_law_leaf_by (G : Gx) : Sp := fun vs H Q E => ∃ (v_law_shape : Int) (v_law_cell : Int) (F : Asn G), vs = [(.int (v_law_shape)), (.int (v_law_cell))] ∧ Sep H ([F] : List (Asn G)) ∧ R.wp (m_law_leaf_by v_law_shape v_law_cell) (fun r => ∀ (p : V) H', Sep H' ([imA p (r : Any), F] : List (Asn G)) → Q p H') (fun _ => False)
abbrev N_law_leaf_by : List Str := ["_law_shape", "_law_cell", "_law_word", "_law_kind", "_law_low"]
theorem sc_law_leaf_by : FnScope N_law_leaf_by ["_law_shape", "_law_cell"] (defScope s_law_leaf_by) := ⟨rfl, rfl, rfl, by decide +kernel, rfl, by decide +kernel, by decide +kernel⟩
theorem ok_law_leaf_by (T : Txt G mg) : FnOk P w G.K mg base CX0 2 T.a_law_leaf_by T.fd_law_leaf_by ["_law_shape", "_law_cell"] (sp_law_leaf_by G) := by
  have nd := sc_law_leaf_by.nd
  refine Fun.ok T.F_law_leaf_by sc_law_leaf_by (fun vs H Q E h => ?_) (fun cdv A outer s H vs Q E hr h => ?_)
  · obtain ⟨v_law_shape, v_law_cell, F, rfl, _⟩ := h; rfl
  · obtain ⟨v_law_shape, v_law_cell, F, rfl, hS, hm⟩ := h
    refine ⟨_, (pss_cons (ps_set (i := 2) nd rfl (Or.inl rfl) (pe_call (ok_law_word_by T) (hr.mono (by decide)) rfl T.g_law_word_by T.kp_law_word_by T.b_law_word_by .nil pass0 (pa_cons (pv 0) (pa_cons (pe_op op_mod (pe_op op_fdiv (pv 1) pe_int) pe_int) pa_nil))))
      (pss_cons (ps_set (i := 3) nd rfl (Or.inl rfl) (pe_op op_mod (pv 1) pe_int))
      (pss_cons (ps_if (pt_cmpR op_eq (pv 3) pe_int (nomark _)) (pss_one (ps_ret (pe_tup (pa_cons pe_str pa_nil)))) pss_nil)
      (pss_cons (ps_if (pt_cmpR op_eq (pv 3) pe_int (nomark _)) (pss_one (ps_ret (pe_tup (pa_cons pe_str pa_nil)))) pss_nil)
      (pss_cons (ps_if (pt_cmpR op_lt (pv 3) pe_int (nomark _)) (pss_cons (ps_set (i := 4) nd rfl (Or.inl rfl) (pe_ix (ix_listK G.K) (pe_fz (pe_lst (pa_cons pe_int (pa_cons (pe_op op_mod (pe_op op_fdiv (pv 1) pe_int) pe_int) (pa_cons (pe_op op_mod (pe_op op_fdiv (pv 1) pe_int) pe_int) pa_nil))))) (pe_op op_mod (pe_op op_fdiv (pv 1) pe_int) pe_int) (fun _ _ => rfl)))
      (pss_one (ps_ret (pe_tup (pa_cons pe_str (pa_cons (pv 4) (pa_cons (pe_ix (ix_listK G.K) (pe_fz (pe_lst (pa_cons (pv 4) (pa_cons pe_int (pa_cons (pe_op op_mod (pe_op op_fdiv (pv 1) pe_int) pe_int) (pa_cons (pe_op op_mod (pe_op op_fdiv (pv 1) pe_int) pe_int) pa_nil)))))) (pe_op op_mod (pe_op op_fdiv (pv 1) pe_int) pe_int) (fun _ _ => rfl)) pa_nil))))))) pss_nil)
      (pss_one (ps_ret (pe_tup (pa_cons (pe_ix (ix_listK G.K) (pe_fz (pe_lst (pa_cons pe_str (pa_cons pe_str (pa_cons pe_str (pa_cons pe_str (pa_cons pe_str (pa_cons pe_str (pa_cons pe_str pa_nil))))))))) (pe_op op_sub (pv 3) pe_int) (fun _ _ => rfl)) (pa_cons (pv 2) pa_nil)))))))))), ?_⟩
    unfold m_law_leaf_by at hm
    refine f_seq ?_
    refine c_asg ?_
    refine c_call ?_
    refine ea_to (ea_cons (ev_var rfl) (ea_cons (ev_mod (ev_fdiv (ev_var rfl) ev_c ⟨by decide, by decide⟩) ev_c (by decide)) ea_nil)) ?_
    refine ⟨v_law_shape, ((v_law_cell / 11) % 5), star [F], rfl, Sep.unstar (M := []) (hS.sel [0] (by decide) rfl : Sep H (([] ++ [F] : List (Asn G)))), R.wp_mono (R.wp_bind hm) (fun r1 hm H hS => ?_) (fun _ z => z)⟩
    have hS : Sep H ([F] : List (Asn G)) := Sep.star (M := []) hS
    refine c_set (σ' := [some (.int (v_law_shape)), some (.int (v_law_cell)), some (.str (r1)), none, none]) rfl ?_
    refine sq_nx ?_
    refine f_seq ?_
    refine c_asg ?_
    refine ev_to (ev_mod (ev_var rfl) ev_c (by decide)) ?_
    obtain ⟨y2, hy2, hm⟩ := wp_let hm
    refine n_is (w := (.int (y2))) (by rw [hy2]) ?_
    refine c_set (σ' := [some (.int (v_law_shape)), some (.int (v_law_cell)), some (.str (r1)), some (.int (y2)), none]) rfl ?_
    refine sq_nx ?_
    refine f_seq ?_
    refine f_if ?_
    refine et_to (et_test (ev_eqI (ev_var rfl) ev_c)) ?_
    refine ifK_2 (fun hb3 => ?_) (fun hb3 => ?_)
    · have hm := R.wp_ifY hm hb3
      refine c_ret ?_
      refine c_tup ?_
      refine ea_to (ea_cons ev_c ea_nil) ?_
      refine k_tupA (vs := [(.str (("any" : Str)))]) (xs := [(Any.str ("any" : Str))]) hS ⟨(any_str.mpr rfl), True.intro⟩ (by show 1 ≤ sizeLine; decide) fun p4 H hS => ?_
      exact hm _ _ (hS.sel [0, 1] (by decide) rfl)
    · have hm := R.wp_ifN hm (by first | (rw [hb3]; decide) | simpa using hb3)
      refine st_nx ?_
      refine sq_nx ?_
      refine f_seq ?_
      refine f_if ?_
      refine et_to (et_test (ev_eqI (ev_var rfl) ev_c)) ?_
      refine ifK_2 (fun hb6 => ?_) (fun hb6 => ?_)
      · have hm := R.wp_ifY hm hb6
        refine c_ret ?_
        refine c_tup ?_
        refine ea_to (ea_cons ev_c ea_nil) ?_
        refine k_tupA (vs := [(.str (("answers" : Str)))]) (xs := [(Any.str ("answers" : Str))]) hS ⟨(any_str.mpr rfl), True.intro⟩ (by show 1 ≤ sizeLine; decide) fun p7 H hS => ?_
        exact hm _ _ (hS.sel [0, 1] (by decide) rfl)
      · have hm := R.wp_ifN hm (by first | (rw [hb6]; decide) | simpa using hb6)
        refine st_nx ?_
        refine sq_nx ?_
        refine f_seq ?_
        refine f_if ?_
        refine et_to (et_test (ev_i0 (ev_var rfl) ev_c)) ?_
        refine ifK_2 (fun hb9 => ?_) (fun hb9 => ?_)
        · have hm := R.wp_ifY hm hb9
          refine f_seq ?_
          refine c_asg ?_
          refine c_op ?_
          refine c_fz ?_
          refine c_lst ?_
          refine ea_to (ea_cons ev_c (ea_cons (ev_mod (ev_fdiv (ev_var rfl) ev_c ⟨by decide, by decide⟩) ev_c (by decide)) (ea_cons (ev_mod (ev_fdiv (ev_var rfl) ev_c ⟨by decide, by decide⟩) ev_c (by decide)) ea_nil))) ?_
          refine k_lst (α := Int) (vs := [(.int (0)), (.int ((v_law_cell / 55) % 10000)), (.int ((v_law_cell / 55) % 9))]) (xs := [0, (v_law_cell / 55) % 10000, (v_law_cell / 55) % 9]) hS ⟨rfl, ⟨rfl, ⟨rfl, True.intro⟩⟩⟩ (by show 3 ≤ sizeLine; decide) fun p10 H hS => ?_
          refine fz_no ?_
          refine ev_to (ev_mod (ev_fdiv (ev_var rfl) ev_c ⟨by decide, by decide⟩) ev_c (by decide)) ?_
          obtain ⟨x11, hx11, hm⟩ := wp_idx hm
          refine r_ixSq (hS.sqF (i := 0) rfl) (atI_map hx11) _ ?_
          refine c_set (σ' := [some (.int (v_law_shape)), some (.int (v_law_cell)), some (.str (r1)), some (.int (y2)), some (.int (x11))]) rfl ?_
          refine sq_nx ?_
          refine c_ret ?_
          refine c_tup ?_
          refine c_cons ?_
          refine ev_to ev_c ?_
          refine c_cons ?_
          refine ev_to (ev_var rfl) ?_
          refine c_cons ?_
          refine c_op ?_
          refine c_fz ?_
          refine c_lst ?_
          refine ea_to (ea_cons (ev_var rfl) (ea_cons ev_c (ea_cons (ev_mod (ev_fdiv (ev_var rfl) ev_c ⟨by decide, by decide⟩) ev_c (by decide)) (ea_cons (ev_mod (ev_fdiv (ev_var rfl) ev_c ⟨by decide, by decide⟩) ev_c (by decide)) ea_nil)))) ?_
          refine k_lst (α := Int) (vs := [(.int (x11)), (.int (9999)), (.int ((v_law_cell / 77) % 10000)), (.int ((v_law_cell / 77) % 9))]) (xs := [x11, 9999, (v_law_cell / 77) % 10000, (v_law_cell / 77) % 9]) hS ⟨rfl, ⟨rfl, ⟨rfl, ⟨rfl, True.intro⟩⟩⟩⟩ (by show 4 ≤ sizeLine; decide) fun p12 H hS => ?_
          refine fz_no ?_
          refine ev_to (ev_mod (ev_fdiv (ev_var rfl) ev_c ⟨by decide, by decide⟩) ev_c (by decide)) ?_
          obtain ⟨x13, hx13, hm⟩ := wp_idx hm
          refine r_ixSq (hS.sqF (i := 0) rfl) (atI_map hx13) _ ?_
          refine c_nil ?_
          refine k_tupA (vs := [(.str (("day" : Str))), (.int (x11)), (.int (x13))]) (xs := [(Any.str ("day" : Str)), (Any.int x11), (Any.int x13)]) hS ⟨(any_str.mpr rfl), ⟨(any_int.mpr rfl), ⟨(any_int.mpr rfl), True.intro⟩⟩⟩ (by show 3 ≤ sizeLine; decide) fun p14 H hS => ?_
          exact hm _ _ (hS.sel [0, 3] (by decide) rfl)
        · have hm := R.wp_ifN hm (by first | (rw [hb9]; decide) | simpa using hb9)
          refine st_nx ?_
          refine sq_nx ?_
          refine c_ret ?_
          refine c_tup ?_
          refine c_cons ?_
          refine c_op ?_
          refine c_fz ?_
          refine c_lst ?_
          refine ea_to (ea_cons ev_c (ea_cons ev_c (ea_cons ev_c (ea_cons ev_c (ea_cons ev_c (ea_cons ev_c (ea_cons ev_c ea_nil))))))) ?_
          refine k_lst (α := Str) (vs := [(.str (("word" : Str))), (.str (("title" : Str))), (.str (("from" : Str))), (.str (("in" : Str))), (.str (("marked" : Str))), (.str (("word" : Str))), (.str (("marked" : Str)))]) (xs := [("word" : Str), ("title" : Str), ("from" : Str), ("in" : Str), ("marked" : Str), ("word" : Str), ("marked" : Str)]) hS ⟨rfl, ⟨rfl, ⟨rfl, ⟨rfl, ⟨rfl, ⟨rfl, ⟨rfl, True.intro⟩⟩⟩⟩⟩⟩⟩ (by show 7 ≤ sizeLine; decide) fun p16 H hS => ?_
          refine fz_no ?_
          refine ev_to (ev_sub (ev_var rfl) ev_c) ?_
          obtain ⟨x17, hx17, hm⟩ := wp_idx hm
          refine r_ixSq (hS.sqF (i := 0) rfl) (atI_map hx17) _ ?_
          refine c_cons ?_
          refine ev_to (ev_var rfl) ?_
          refine c_nil ?_
          refine k_tupA (vs := [(.str (x17)), (.str (r1))]) (xs := [(Any.str x17), (Any.str r1)]) hS ⟨(any_str.mpr rfl), ⟨(any_str.mpr rfl), True.intro⟩⟩ (by show 2 ≤ sizeLine; decide) fun p18 H hS => ?_
          exact hm _ _ (hS.sel [0, 2] (by decide) rfl)
def sp_law_threads (G : Gx) (m_law_threads : Any → R Int) : Sp := fun vs H Q E => ∃ (a_v_law_tree : V) (v_law_tree : Any) (F : Asn G), vs = [a_v_law_tree] ∧ Im.im G H a_v_law_tree v_law_tree ∧ Sep H ([F] : List (Asn G)) ∧ R.wp (m_law_threads v_law_tree) (fun r => ∀ H', Sep H' ([F] : List (Asn G)) → Q (.int (r)) H') (fun _ => False)
abbrev N_law_threads : List Str := ["_law_tree", "_law_most", "_law_part"]
theorem sc_law_threads : FnScope N_law_threads ["_law_tree"] (defScope s_law_threads) := ⟨rfl, rfl, rfl, by decide +kernel, rfl, by decide +kernel, by decide +kernel⟩
theorem ok_law_threads_b (T : Txt G mg) {lv : Nat} (hl : 0 ≤ lv) {m_law_threads : Any → R Int} (R_law_threads : FnOk P w G.K mg base CX0 lv T.a_law_threads T.fd_law_threads ["_law_tree"] (sp_law_threads G m_law_threads)) : FnOk P w G.K mg base CX0 (lv + 1) T.a_law_threads T.fd_law_threads ["_law_tree"] (sp_law_threads G (m_law_threads_b m_law_threads)) := by
  have nd := sc_law_threads.nd
  refine Fun.ok T.F_law_threads sc_law_threads (fun vs H Q E h => ?_) (fun cdv A outer s H vs Q E hr h => ?_)
  · obtain ⟨a_v_law_tree, v_law_tree, F, rfl, _⟩ := h; rfl
  · obtain ⟨a_v_law_tree, v_law_tree, F, rfl, him_v_law_tree, hS, hm⟩ := h
    have hS := hS.addIm him_v_law_tree
    refine ⟨_, (pss_cons (ps_set (i := 1) nd rfl (Or.inl rfl) pe_int)
      (pss_cons (ps_for PassesOwn.never rfl (pi_tupK G.K (pe_slice (sl_tupK G.K) (pv 0) (po_some pe_int) po_none)) (pg_name (i := 2) nd rfl (Or.inl rfl)) (pss_one (ps_if (pt_val (pe_callB (isiK G.K) (by rfl) T.z_isinstance (by decide +kernel) (pa_cons (pv 2) (pa_cons (pe_bltn (v := .ty "tuple") (by rfl) T.z_tuple (by decide +kernel) rfl) pa_nil)))) (pss_one (ps_set (i := 1) nd rfl (Or.inl rfl) (pe_callB (call_max2 rfl) (by rfl) T.z_max (by decide +kernel) (pa_cons (pv 1) (pa_cons (pe_call R_law_threads (hr.mono (by omega)) rfl T.g_law_threads T.kp_law_threads T.b_law_threads .nil pass0 (pa_cons (pv 2) pa_nil)) pa_nil))))) pss_nil)))
      (pss_one (ps_ret (pe_op op_add (pv 1) (pe_callTy call_int1 (by rfl) T.z_int (by decide +kernel) (pa_cons (pe_cmpR (eqDK G.K hr.units) (pe_ix (ix_tupK G.K) (pv 0) pe_int (fun _ _ => rfl)) pe_str (nomark _)) pa_nil))))))), ?_⟩
    unfold m_law_threads_b at hm
    refine f_seq ?_
    refine c_asg ?_
    refine ev_to ev_c ?_
    refine c_set (σ' := [some a_v_law_tree, some (.int (0)), none]) rfl ?_
    refine sq_nx ?_
    refine f_seq ?_
    refine c_for ?_
    refine c_it ?_
    refine c_sl ?_
    refine ev_to (ev_var rfl) ?_
    obtain ⟨xs1, h2, hm⟩ := Ml.wp_asTup hm
    obtain ⟨h3, hm⟩ := R.wp_need hm
    refine eo_to (eo_some ev_c) ?_
    refine eo_to eo_no ?_
    refine k_slA (xs := xs1) hS (tupE (hS.im (i := 0) rfl) h2) h3 fun p4 H hS => ?_
    refine k_itE (xs := (cutL xs1 (some (1)) none)) (hS.im (i := 0) rfl) rfl fun a6 he7 => ?_
    subst he7
    refine k_for (τ := Int) (fun (s8 : Int) (σ : L2.St) (H : Hp) => ∃ (w11 : Option V), σ = [some a_v_law_tree, some (.int (s8)), w11] ∧ Sep H ([imA (.ref a6) ((Any.tup (cutL xs1 (some (1)) none)) : Any), imA a_v_law_tree (v_law_tree : Any), F] : List (Asn G))) (im := (Im.im G)) (s := (0)) (fun _ => wk_tupA fun _ _ ⟨_, _, h⟩ => imE rfl (h.im (i := 0) rfl)) ⟨_, rfl, hS.sel [0, 1, 2] (by decide) rfl⟩ hm (fun s8 x9 v10 σ H q N hI hx hm nx => ?_) (fun s8 σ H hm hI => ?_)
    ·
      obtain ⟨w11, rfl, hS⟩ := hI
      have hS := hS.addIm (v := v10) (x := (x9 : Any)) hx
      refine c_gN (σ' := [some a_v_law_tree, some (.int (s8)), some v10]) rfl ?_
      refine f_if ?_
      refine et_to (et_B (ev_isAny (ev_var rfl) ev_c (hS.im (i := 0) rfl) (by decide))) ?_
      refine ifK_J (τ := Int) (fun (s13 : Int) (σ : L2.St) (H : Hp) => σ = [some a_v_law_tree, some (.int (s13)), some v10] ∧ Sep H ([imA v10 (x9 : Any), imA (.ref a6) ((Any.tup (cutL xs1 (some (1)) none)) : Any), imA a_v_law_tree (v_law_tree : Any), F] : List (Asn G))) hm (fun hb q hm nx => ?_) (fun hb q hm nx => ?_) (fun s13 σ H hm hI => ?_)
      ·
        refine c_asg ?_
        refine c_cb ?_
        refine c_cons ?_
        refine ev_to (ev_var rfl) ?_
        refine c_cons ?_
        refine c_call ?_
        refine ea_to (ea_cons (ev_var rfl) ea_nil) ?_
        refine ⟨v10, (x9 : Any), star [imA v10 (x9 : Any), imA (.ref a6) ((Any.tup (cutL xs1 (some (1)) none)) : Any), imA a_v_law_tree (v_law_tree : Any), F], rfl, (hS.im (i := 0) rfl), Sep.unstar (M := []) (hS.sel [0, 1, 2, 3] (by decide) rfl : Sep H (([] ++ [imA v10 (x9 : Any), imA (.ref a6) ((Any.tup (cutL xs1 (some (1)) none)) : Any), imA a_v_law_tree (v_law_tree : Any), F] : List (Asn G)))), R.wp_mono (R.wp_bind hm) (fun r14 hm H hS => ?_) (fun _ z => z)⟩
        have hS : Sep H ([imA v10 (x9 : Any), imA (.ref a6) ((Any.tup (cutL xs1 (some (1)) none)) : Any), imA a_v_law_tree (v_law_tree : Any), F] : List (Asn G)) := Sep.star (M := []) hS
        refine c_nil ?_
        refine ⟨_, _, rfl, ?_⟩
        obtain ⟨y15, hy15, hm⟩ := wp_let hm
        refine n_is (w := (.int (y15))) (by rw [hy15]) ?_
        refine c_set (σ' := [some a_v_law_tree, some (.int (y15)), some v10]) rfl ?_
        exact nx _ _ _ hm ⟨rfl, hS.sel [0, 1, 2, 3] (by decide) rfl⟩
      ·
        refine st_nx ?_
        exact nx _ _ _ hm ⟨rfl, hS.sel [0, 1, 2, 3] (by decide) rfl⟩
      · obtain ⟨rfl, hS⟩ := hI
        exact nx _ _ _ hm ⟨_, rfl, hS.sel [1, 2, 3] (by decide) rfl⟩
    · obtain ⟨w11, rfl, hS⟩ := hI
      refine sq_nx ?_
      refine c_ret ?_
      obtain ⟨xs16, h17, hm⟩ := Ml.wp_asTup hm
      obtain ⟨x18, hx18, hm⟩ := wp_idx hm
      obtain ⟨a19, vs20, he21, hg22, hM23⟩ := any_tupE (hS.im (i := 1) rfl) h17
      obtain ⟨u24, hu25, hi26⟩ := atI_im hM23 hx18
      obtain ⟨b27, hb27, hm⟩ := wp_eqA hm
      refine ev_to (ev_add (ev_var rfl) (ev_cb (ea_cons (ev_eqA (ev_ixT (ev_is (ev_var rfl) he21) ev_c hg22 hu25) ev_c hi26 (any_str.mpr rfl) hb27) ea_nil) fun _ q => .inr ⟨_, rfl, q⟩)) ?_
      exact hm _ (hS.sel [2] (by decide) rfl)
theorem ok_law_threads (T : Txt G mg) : ∀ n : Nat, FnOk P w G.K mg base CX0 (1 + n) T.a_law_threads T.fd_law_threads ["_law_tree"] (sp_law_threads G (m_law_threads n))
  | 0 => fnOk_no fun vs H Q E h => by obtain ⟨a_v_law_tree, v_law_tree, F, _, him_v_law_tree, _, hm⟩ := h; exact hm
  | n + 1 => ok_law_threads_b T (Nat.le_add_right_of_le (by decide)) (ok_law_threads T n)
def sp_law_tree_by (G : Gx) : Sp := fun vs H Q E => ∃ (v_law_shape : Int) (a_v_law_cells : Addr) (v_law_cells : (List Int)) (F : Asn G), vs = [(.int (v_law_shape)), .ref a_v_law_cells] ∧ Sep H ([lstA a_v_law_cells (v_law_cells : (List Int)), F] : List (Asn G)) ∧ R.wp (m_law_tree_by v_law_shape v_law_cells) (fun r => ∀ (p : V) H', Sep H' ([imA p (r : Any), lstA a_v_law_cells (v_law_cells : (List Int)), F] : List (Asn G)) → Q p H') (fun _ => False)
abbrev N_law_tree_by : List Str := ["_law_shape", "_law_cells", "_law_pile", "_law_cell", "_law_kind"]
theorem sc_law_tree_by : FnScope N_law_tree_by ["_law_shape", "_law_cells"] (defScope s_law_tree_by) := ⟨rfl, rfl, rfl, by decide +kernel, rfl, by decide +kernel, by decide +kernel⟩
theorem ok_law_tree_by (T : Txt G mg) : FnOk P w G.K mg base CX0 36 T.a_law_tree_by T.fd_law_tree_by ["_law_shape", "_law_cells"] (sp_law_tree_by G) := by
  have nd := sc_law_tree_by.nd
  refine Fun.ok T.F_law_tree_by sc_law_tree_by (fun vs H Q E h => ?_) (fun cdv A outer s H vs Q E hr h => ?_)
  · obtain ⟨v_law_shape, a_v_law_cells, v_law_cells, F, rfl, _⟩ := h; rfl
  · obtain ⟨v_law_shape, a_v_law_cells, v_law_cells, F, rfl, hS, hm⟩ := h
    refine ⟨_, (pss_cons (ps_set (i := 2) nd rfl (Or.inl rfl) (pe_fz (pe_lst pa_nil)))
      (pss_cons (ps_for PassesOwn.never rfl (pi_listK G.K (pe_fz (pv 1))) (pg_name (i := 3) nd rfl (Or.inl rfl)) (pss_cons (ps_set (i := 4) nd rfl (Or.inl rfl) (pe_op op_mod (pv 3) pe_int))
      (pss_one (ps_if (PW.pt (pw_and (pt_cmpR op_lt (pv 4) pe_int (nomark _)) (pw_and1 (pt_cmpR op_gt (pe_callB (lenSqK G.K) (by rfl) T.z_len PySem.boot_len (pa_cons (pe_fz (pv 2)) pa_nil)) pe_int (nomark _))))) (pss_one (ps_set (i := 2) nd rfl (Or.inl rfl) (pe_fz (pe_op op_catR (pe_fz (pe_slice (sl_listK G.K) (pe_fz (pv 2)) po_none (po_some (pe_un un_neg pe_int)))) (pe_fz (pe_lst (pa_cons (pe_tup (pa_cons pe_str (pa_cons (pe_ix (ix_listK G.K) (pe_fz (pv 2)) (pe_un un_neg pe_int) (fun _ _ => rfl)) pa_nil))) pa_nil))))))) (pss_one (ps_if (PW.pt (pw_and (pt_cmpR op_eq (pv 4) pe_int (nomark _)) (pw_and (pt_cmpR op_gt (pe_callB (lenSqK G.K) (by rfl) T.z_len PySem.boot_len (pa_cons (pe_fz (pv 2)) pa_nil)) pe_int (nomark _)) (pw_and1 (pt_cmpR op_lt (pe_call (ok_law_threads T 34) (hr.mono (by decide)) rfl T.g_law_threads T.kp_law_threads T.b_law_threads .nil pass0 (pa_cons (pe_ix (ix_listK G.K) (pe_fz (pv 2)) (pe_un un_neg pe_int) (fun _ _ => rfl)) pa_nil)) pe_int (nomark _)))))) (pss_one (ps_set (i := 2) nd rfl (Or.inl rfl) (pe_fz (pe_op op_catR (pe_fz (pe_slice (sl_listK G.K) (pe_fz (pv 2)) po_none (po_some (pe_un un_neg pe_int)))) (pe_fz (pe_lst (pa_cons (pe_tup (pa_cons pe_str (pa_cons (pe_ix (ix_listK G.K) (pe_fz (pv 2)) (pe_un un_neg pe_int) (fun _ _ => rfl)) pa_nil))) pa_nil))))))) (pss_one (ps_if (PW.pt (pw_and (pt_cmpR op_gt (pv 4) pe_int (nomark _)) (pw_and1 (pt_cmpR op_gt (pe_callB (lenSqK G.K) (by rfl) T.z_len PySem.boot_len (pa_cons (pe_fz (pv 2)) pa_nil)) pe_int (nomark _))))) (pss_one (ps_set (i := 2) nd rfl (Or.inl rfl) (pe_fz (pe_op op_catR (pe_fz (pe_slice (sl_listK G.K) (pe_fz (pv 2)) po_none (po_some (pe_un un_neg pe_int)))) (pe_fz (pe_lst (pa_cons (pe_tup (pa_cons (pe_ix (ix_listK G.K) (pe_fz (pe_lst (pa_cons pe_str (pa_cons pe_str pa_nil)))) (pe_op op_mod (pv 4) pe_int) (fun _ _ => rfl)) (pa_cons (pe_ix (ix_listK G.K) (pe_fz (pv 2)) (pe_un un_neg pe_int) (fun _ _ => rfl)) (pa_cons (pe_ix (ix_listK G.K) (pe_fz (pv 2)) (pe_un un_neg pe_int) (fun _ _ => rfl)) pa_nil)))) pa_nil))))))) (pss_one (ps_expr (pe_bmK G.K PySem.F.plainAttrs_list PySem.F.slot_list_append PySem.F.type_list_append mt_append (pe_fz (pv 2)) (pa_cons (pe_call (ok_law_leaf_by T) (hr.mono (by decide)) rfl T.g_law_leaf_by T.kp_law_leaf_by T.b_law_leaf_by .nil pass0 (pa_cons (pv 0) (pa_cons (pe_op op_fdiv (pv 3) pe_int) pa_nil))) pa_nil))))))))))))
      (pss_cons (ps_while PassesOwn.never (pt_cmpR op_gt (pe_callB (lenSqK G.K) (by rfl) T.z_len PySem.boot_len (pa_cons (pe_fz (pv 2)) pa_nil)) pe_int (nomark _)) (pss_one (ps_set (i := 2) nd rfl (Or.inl rfl) (pe_fz (pe_op op_catR (pe_fz (pe_slice (sl_listK G.K) (pe_fz (pv 2)) po_none (po_some (pe_un un_neg pe_int)))) (pe_fz (pe_lst (pa_cons (pe_tup (pa_cons (pe_ix (ix_listK G.K) (pe_fz (pe_lst (pa_cons pe_str (pa_cons pe_str pa_nil)))) (pe_op op_mod (pe_op op_fdiv (pe_ix (ix_listK G.K) (pe_fz (pv 1)) pe_int (fun _ _ => rfl)) pe_int) pe_int) (fun _ _ => rfl)) (pa_cons (pe_ix (ix_listK G.K) (pe_fz (pv 2)) (pe_un un_neg pe_int) (fun _ _ => rfl)) (pa_cons (pe_ix (ix_listK G.K) (pe_fz (pv 2)) (pe_un un_neg pe_int) (fun _ _ => rfl)) pa_nil)))) pa_nil))))))))
      (pss_one (ps_ret (pe_ix (ix_listK G.K) (pe_fz (pv 2)) pe_int (fun _ _ => rfl))))))), ?_⟩
    unfold m_law_tree_by at hm
    refine f_seq ?_
    refine c_asg ?_
    refine c_fz ?_
    refine c_lst ?_
    refine ea_to ea_nil ?_
    refine k_lst (α := Any) (vs := []) (xs := ([] : (List Any))) hS True.intro (by show 0 ≤ sizeLine; decide) fun p1 H hS => ?_
    refine fz_no ?_
    refine c_set (σ' := [some (.int (v_law_shape)), some (.ref a_v_law_cells), some (.ref p1), none, none]) rfl ?_
    refine sq_nx ?_
    refine f_seq ?_
    refine c_for ?_
    refine c_il ?_
    refine ev_to (ev_fz (ev_var rfl)) ?_
    refine k_il hS (i := 1) rfl ?_
    refine k_for (τ := (List Any)) (fun (s2 : (List Any)) (σ : L2.St) (H : Hp) => ∃ (w5 w6 : Option V), ∃ (a7 : Addr), σ = [some (.int (v_law_shape)), some (.ref a_v_law_cells), some (.ref a7), w5, w6] ∧ Sep H ([lstA a7 (s2 : (List Any)), lstA a_v_law_cells (v_law_cells : (List Int)), F] : List (Asn G))) (im := (Im.im G)) (s := (([] : (List Any)))) (fun _ => wk_list fun _ _ ⟨_, _, _, _, h⟩ => h.sq (i := 1) rfl) ⟨_, _, _, rfl, hS.sel [0, 1, 2] (by decide) rfl⟩ hm (fun s2 x3 v4 σ H q N hI hx hm nx => ?_) (fun s2 σ H hm hI => ?_)
    ·
      obtain ⟨w5, w6, a7, rfl, hS⟩ := hI
      cases hx
      refine c_gN (σ' := [some (.int (v_law_shape)), some (.ref a_v_law_cells), some (.ref a7), some (.int (x3)), w6]) rfl ?_
      refine f_seq ?_
      refine c_asg ?_
      refine ev_to (ev_mod (ev_var rfl) ev_c (by decide)) ?_
      obtain ⟨y8, hy8, hm⟩ := wp_let hm
      refine n_is (w := (.int (y8))) (by rw [hy8]) ?_
      refine c_set (σ' := [some (.int (v_law_shape)), some (.ref a_v_law_cells), some (.ref a7), some (.int (x3)), some (.int (y8))]) rfl ?_
      refine sq_nx ?_
      refine f_if ?_
      refine et_to (et_and (et_test (ev_i0 (ev_var rfl) ev_c)) fun _ => (et_test (ev_i0 (ev_lenG (ev_fz (ev_var rfl)) (hS.sq (i := 0) rfl)) ev_c))) ?_
      refine ifK_J (τ := (List Any)) (fun (s9 : (List Any)) (σ : L2.St) (H : Hp) => ∃ (a10 : Addr), σ = [some (.int (v_law_shape)), some (.ref a_v_law_cells), some (.ref a10), some (.int (x3)), some (.int (y8))] ∧ Sep H ([lstA a10 (s9 : (List Any)), lstA a_v_law_cells (v_law_cells : (List Int)), F] : List (Asn G))) hm (fun hb q hm nx => ?_) (fun hb q hm nx => ?_) (fun s9 σ H hm hI => ?_)
      ·
        refine c_asg ?_
        refine c_fz ?_
        refine c_op ?_
        refine c_fz ?_
        refine c_sl ?_
        refine ev_to (ev_fz (ev_var rfl)) ?_
        refine eo_to eo_no ?_
        refine eo_to (eo_some (ev_un ev_c fun _ q => ⟨_, rfl, q⟩)) ?_
        refine k_slG hS (hS.sq (i := 0) rfl) fun p11 H hS => ?_
        refine fz_no ?_
        refine c_fz ?_
        refine c_lst ?_
        refine c_cons ?_
        refine c_tup ?_
        obtain ⟨x12, hx12, hm⟩ := wp_idx hm
        obtain ⟨vs13, hq14, hM15⟩ := hS.sq (i := 1) rfl
        obtain ⟨u16, hu17, hi18⟩ := atI_im hM15 hx12
        refine ea_to (ea_cons ev_c (ea_cons (ev_ixSq (ev_fz (ev_var rfl)) (ev_un ev_c fun _ q => ⟨_, rfl, q⟩) hq14 hu17) ea_nil)) ?_
        have hS := hS.addIm (v := u16) (x := (x12 : Any)) hi18
        refine k_tupA (vs := [(.str (("not" : Str))), u16]) (xs := [(Any.str ("not" : Str)), x12]) hS ⟨(any_str.mpr rfl), ⟨(hS.im (i := 0) rfl), True.intro⟩⟩ (by show 2 ≤ sizeLine; decide) fun p20 H hS => ?_
        refine c_nil ?_
        refine k_lst (α := Any) (vs := [(.ref p20)]) (xs := [(Any.tup [(Any.str ("not" : Str)), x12])]) hS ⟨(hS.im (i := 0) rfl), True.intro⟩ (by show 1 ≤ sizeLine; decide) fun p22 H hS => ?_
        refine fz_no ?_
        obtain ⟨h23, hm⟩ := R.wp_need hm
        refine k_catG hS (hS.rdL (i := 3) rfl) (hS.rdL (i := 0) rfl) h23 fun p24 H hS => ?_
        refine fz_no ?_
        obtain ⟨y25, hy25, hm⟩ := wp_let hm
        have hS : Sep H ([lstA p24 (y25 : (List Any)), lstA p22 ([(Any.tup [(Any.str ("not" : Str)), x12])] : (List Any)), imA (.ref p20) ((Any.tup [(Any.str ("not" : Str)), x12]) : Any), imA u16 (x12 : Any), lstA p11 (cutL s2 none (some (-1)) : (List Any)), lstA a7 (s2 : (List Any)), lstA a_v_law_cells (v_law_cells : (List Int)), F] : List (Asn G)) := by rw [← hy25]; exact hS
        refine c_set (σ' := [some (.int (v_law_shape)), some (.ref a_v_law_cells), some (.ref p24), some (.int (x3)), some (.int (y8))]) rfl ?_
        exact nx _ _ _ hm ⟨_, rfl, hS.sel [0, 6, 7] (by decide) rfl⟩
      ·
        refine f_if ?_
        refine f_and ?_
        refine et_to (et_test (ev_eqI (ev_var rfl) ev_c)) ?_
        refine andK_J hm hS (fun hb q hm nx => ?_) (fun b26 H hm hS => ?_)
        ·
          refine f_and ?_
          refine et_to (et_test (ev_i0 (ev_lenG (ev_fz (ev_var rfl)) (hS.sq (i := 0) rfl)) ev_c)) ?_
          refine andK_J hm hS (fun hb q hm nx => ?_) (fun b27 H hm hS => ?_)
          ·
            refine f_test ?_
            refine c_op ?_
            refine c_call ?_
            obtain ⟨x28, hx28, hm⟩ := wp_idx hm
            obtain ⟨vs29, hq30, hM31⟩ := hS.sq (i := 0) rfl
            obtain ⟨u32, hu33, hi34⟩ := atI_im hM31 hx28
            refine ea_to (ea_cons (ev_ixSq (ev_fz (ev_var rfl)) (ev_un ev_c fun _ q => ⟨_, rfl, q⟩) hq30 hu33) ea_nil) ?_
            have hS := hS.addIm (v := u32) (x := (x28 : Any)) hi34
            refine ⟨u32, (x28 : Any), star [imA u32 (x28 : Any), lstA a7 (s2 : (List Any)), lstA a_v_law_cells (v_law_cells : (List Int)), F], rfl, (hS.im (i := 0) rfl), Sep.unstar (M := []) (hS.sel [0, 1, 2, 3] (by decide) rfl : Sep H (([] ++ [imA u32 (x28 : Any), lstA a7 (s2 : (List Any)), lstA a_v_law_cells (v_law_cells : (List Int)), F] : List (Asn G)))), R.wp_mono (R.wp_bind hm) (fun r36 hm H hS => ?_) (fun _ z => z)⟩
            have hS : Sep H ([imA u32 (x28 : Any), lstA a7 (s2 : (List Any)), lstA a_v_law_cells (v_law_cells : (List Int)), F] : List (Asn G)) := Sep.star (M := []) hS
            refine ev_to ev_c ?_
            refine ev_op2 (ev_i0 ev_c ev_c) ?_
            refine f_bl ?_
            exact nx _ _ hm (hS.sel [1, 2, 3] (by decide) rfl)
          ·
            exact nx _ _ hm (hS.sel [0, 1, 2] (by decide) rfl)
        ·
          refine ifK_J (τ := (List Any)) (fun (s37 : (List Any)) (σ : L2.St) (H : Hp) => ∃ (a38 : Addr), σ = [some (.int (v_law_shape)), some (.ref a_v_law_cells), some (.ref a38), some (.int (x3)), some (.int (y8))] ∧ Sep H ([lstA a38 (s37 : (List Any)), lstA a_v_law_cells (v_law_cells : (List Int)), F] : List (Asn G))) hm (fun hb q hm nx => ?_) (fun hb q hm nx => ?_) (fun s37 σ H hm hI => ?_)
          ·
            refine c_asg ?_
            refine c_fz ?_
            refine c_op ?_
            refine c_fz ?_
            refine c_sl ?_
            refine ev_to (ev_fz (ev_var rfl)) ?_
            refine eo_to eo_no ?_
            refine eo_to (eo_some (ev_un ev_c fun _ q => ⟨_, rfl, q⟩)) ?_
            refine k_slG hS (hS.sq (i := 0) rfl) fun p39 H hS => ?_
            refine fz_no ?_
            refine c_fz ?_
            refine c_lst ?_
            refine c_cons ?_
            refine c_tup ?_
            obtain ⟨x40, hx40, hm⟩ := wp_idx hm
            obtain ⟨vs41, hq42, hM43⟩ := hS.sq (i := 1) rfl
            obtain ⟨u44, hu45, hi46⟩ := atI_im hM43 hx40
            refine ea_to (ea_cons ev_c (ea_cons (ev_ixSq (ev_fz (ev_var rfl)) (ev_un ev_c fun _ q => ⟨_, rfl, q⟩) hq42 hu45) ea_nil)) ?_
            have hS := hS.addIm (v := u44) (x := (x40 : Any)) hi46
            refine k_tupA (vs := [(.str (("thread" : Str))), u44]) (xs := [(Any.str ("thread" : Str)), x40]) hS ⟨(any_str.mpr rfl), ⟨(hS.im (i := 0) rfl), True.intro⟩⟩ (by show 2 ≤ sizeLine; decide) fun p48 H hS => ?_
            refine c_nil ?_
            refine k_lst (α := Any) (vs := [(.ref p48)]) (xs := [(Any.tup [(Any.str ("thread" : Str)), x40])]) hS ⟨(hS.im (i := 0) rfl), True.intro⟩ (by show 1 ≤ sizeLine; decide) fun p50 H hS => ?_
            refine fz_no ?_
            obtain ⟨h51, hm⟩ := R.wp_need hm
            refine k_catG hS (hS.rdL (i := 3) rfl) (hS.rdL (i := 0) rfl) h51 fun p52 H hS => ?_
            refine fz_no ?_
            obtain ⟨y53, hy53, hm⟩ := wp_let hm
            have hS : Sep H ([lstA p52 (y53 : (List Any)), lstA p50 ([(Any.tup [(Any.str ("thread" : Str)), x40])] : (List Any)), imA (.ref p48) ((Any.tup [(Any.str ("thread" : Str)), x40]) : Any), imA u44 (x40 : Any), lstA p39 (cutL s2 none (some (-1)) : (List Any)), lstA a7 (s2 : (List Any)), lstA a_v_law_cells (v_law_cells : (List Int)), F] : List (Asn G)) := by rw [← hy53]; exact hS
            refine c_set (σ' := [some (.int (v_law_shape)), some (.ref a_v_law_cells), some (.ref p52), some (.int (x3)), some (.int (y8))]) rfl ?_
            exact nx _ _ _ hm ⟨_, rfl, hS.sel [0, 6, 7] (by decide) rfl⟩
          ·
            refine f_if ?_
            refine et_to (et_and (et_test (ev_i0 (ev_var rfl) ev_c)) fun _ => (et_test (ev_i0 (ev_lenG (ev_fz (ev_var rfl)) (hS.sq (i := 0) rfl)) ev_c))) ?_
            refine ifK_J (τ := (List Any)) (fun (s54 : (List Any)) (σ : L2.St) (H : Hp) => ∃ (a55 : Addr), σ = [some (.int (v_law_shape)), some (.ref a_v_law_cells), some (.ref a55), some (.int (x3)), some (.int (y8))] ∧ Sep H ([lstA a55 (s54 : (List Any)), lstA a_v_law_cells (v_law_cells : (List Int)), F] : List (Asn G))) hm (fun hb q hm nx => ?_) (fun hb q hm nx => ?_) (fun s54 σ H hm hI => ?_)
            ·
              refine c_asg ?_
              refine c_fz ?_
              refine c_op ?_
              refine c_fz ?_
              refine c_sl ?_
              refine ev_to (ev_fz (ev_var rfl)) ?_
              refine eo_to eo_no ?_
              refine eo_to (eo_some (ev_un ev_c fun _ q => ⟨_, rfl, q⟩)) ?_
              refine k_slG hS (hS.sq (i := 0) rfl) fun p56 H hS => ?_
              refine fz_no ?_
              refine c_fz ?_
              refine c_lst ?_
              refine c_cons ?_
              refine c_tup ?_
              refine c_cons ?_
              refine c_op ?_
              refine c_fz ?_
              refine c_lst ?_
              refine ea_to (ea_cons ev_c (ea_cons ev_c ea_nil)) ?_
              refine k_lst (α := Str) (vs := [(.str (("both" : Str))), (.str (("either" : Str)))]) (xs := [("both" : Str), ("either" : Str)]) hS ⟨rfl, ⟨rfl, True.intro⟩⟩ (by show 2 ≤ sizeLine; decide) fun p57 H hS => ?_
              refine fz_no ?_
              refine ev_to (ev_mod (ev_var rfl) ev_c (by decide)) ?_
              obtain ⟨x58, hx58, hm⟩ := wp_idx hm
              refine r_ixSq (hS.sqF (i := 0) rfl) (atI_map hx58) _ ?_
              refine c_cons ?_
              obtain ⟨x59, hx59, hm⟩ := wp_idx hm
              obtain ⟨vs60, hq61, hM62⟩ := hS.sq (i := 2) rfl
              obtain ⟨u63, hu64, hi65⟩ := atI_im hM62 hx59
              refine ev_to (ev_ixSq (ev_fz (ev_var rfl)) (ev_un ev_c fun _ q => ⟨_, rfl, q⟩) hq61 hu64) ?_
              have hS := hS.addIm (v := u63) (x := (x59 : Any)) hi65
              refine c_cons ?_
              obtain ⟨x67, hx67, hm⟩ := wp_idx hm
              obtain ⟨vs68, hq69, hM70⟩ := hS.sq (i := 3) rfl
              obtain ⟨u71, hu72, hi73⟩ := atI_im hM70 hx67
              refine ev_to (ev_ixSq (ev_fz (ev_var rfl)) (ev_un ev_c fun _ q => ⟨_, rfl, q⟩) hq69 hu72) ?_
              have hS := hS.addIm (v := u71) (x := (x67 : Any)) hi73
              refine c_nil ?_
              refine k_tupA (vs := [(.str (x58)), u63, u71]) (xs := [(Any.str x58), x59, x67]) hS ⟨(any_str.mpr rfl), ⟨(hS.im (i := 1) rfl), ⟨(hS.im (i := 0) rfl), True.intro⟩⟩⟩ (by show 3 ≤ sizeLine; decide) fun p75 H hS => ?_
              refine c_nil ?_
              refine k_lst (α := Any) (vs := [(.ref p75)]) (xs := [(Any.tup [(Any.str x58), x59, x67])]) hS ⟨(hS.im (i := 0) rfl), True.intro⟩ (by show 1 ≤ sizeLine; decide) fun p77 H hS => ?_
              refine fz_no ?_
              obtain ⟨h78, hm⟩ := R.wp_need hm
              refine k_catG hS (hS.rdL (i := 5) rfl) (hS.rdL (i := 0) rfl) h78 fun p79 H hS => ?_
              refine fz_no ?_
              obtain ⟨y80, hy80, hm⟩ := wp_let hm
              have hS : Sep H ([lstA p79 (y80 : (List Any)), lstA p77 ([(Any.tup [(Any.str x58), x59, x67])] : (List Any)), imA (.ref p75) ((Any.tup [(Any.str x58), x59, x67]) : Any), imA u71 (x67 : Any), imA u63 (x59 : Any), lstA p57 ([("both" : Str), ("either" : Str)] : (List Str)), lstA p56 (cutL s2 none (some (-2)) : (List Any)), lstA a7 (s2 : (List Any)), lstA a_v_law_cells (v_law_cells : (List Int)), F] : List (Asn G)) := by rw [← hy80]; exact hS
              refine c_set (σ' := [some (.int (v_law_shape)), some (.ref a_v_law_cells), some (.ref p79), some (.int (x3)), some (.int (y8))]) rfl ?_
              exact nx _ _ _ hm ⟨_, rfl, hS.sel [0, 8, 9] (by decide) rfl⟩
            ·
              refine c_drop ?_
              refine c_bm ?_
              refine ev_to (ev_fz (ev_var rfl)) ⟨tyL hS (i := 0) rfl, ?_⟩
              refine c_cons ?_
              refine c_call ?_
              refine ea_to (ea_cons (ev_var rfl) (ea_cons (ev_fdiv (ev_var rfl) ev_c ⟨by decide, by decide⟩) ea_nil)) ?_
              refine ⟨v_law_shape, (x3 / 9), star [lstA a7 (s2 : (List Any)), lstA a_v_law_cells (v_law_cells : (List Int)), F], rfl, Sep.unstar (M := []) (hS.sel [0, 1, 2] (by decide) rfl : Sep H (([] ++ [lstA a7 (s2 : (List Any)), lstA a_v_law_cells (v_law_cells : (List Int)), F] : List (Asn G)))), R.wp_mono (R.wp_bind hm) (fun r81 hm p82 H hS => ?_) (fun _ z => z)⟩
              have hS : Sep H ([imA p82 (r81 : Any), lstA a7 (s2 : (List Any)), lstA a_v_law_cells (v_law_cells : (List Int)), F] : List (Asn G)) := Sep.star (M := [imA p82 (r81 : Any)]) hS
              refine c_nil ?_
              obtain ⟨h84, hm⟩ := R.wp_need hm
              refine k_append (x := r81) hS (i := 1) rfl (hS.im (i := 0) rfl) h84 rfl fun H hS => ?_
              exact nx _ _ _ hm ⟨_, rfl, hS.sel [1, 2, 3] (by decide) rfl⟩
            · obtain ⟨a55, rfl, hS⟩ := hI
              exact nx _ _ _ hm ⟨_, rfl, hS.sel [0, 1, 2] (by decide) rfl⟩
          · obtain ⟨a38, rfl, hS⟩ := hI
            exact nx _ _ _ hm ⟨_, rfl, hS.sel [0, 1, 2] (by decide) rfl⟩
      · obtain ⟨a10, rfl, hS⟩ := hI
        exact nx _ _ _ hm ⟨_, _, _, rfl, hS.sel [0, 1, 2] (by decide) rfl⟩
    · obtain ⟨w5, w6, a7, rfl, hS⟩ := hI
      refine sq_nx ?_
      refine f_seq ?_
      refine k_whileN (τ := (List Any)) (n := 64) (c := fun (s85 : (List Any)) => decide (1 < (s85.length : Int))) (s := (s2)) (fun (s85 : (List Any)) (σ : L2.St) (H : Hp) => ∃ (a86 : Addr), σ = [some (.int (v_law_shape)), some (.ref a_v_law_cells), some (.ref a86), w5, w6] ∧ Sep H ([lstA a86 (s85 : (List Any)), lstA a_v_law_cells (v_law_cells : (List Int)), F] : List (Asn G))) ⟨_, rfl, hS.sel [0, 1, 2] (by decide) rfl⟩ hm (fun s85 σ H hI => by obtain ⟨a86, rfl, hS⟩ := hI; exact (et_test (ev_i0 (ev_lenG (ev_fz (ev_var rfl)) (hS.sq (i := 0) rfl)) ev_c))) (fun s85 σ H q N hI hm nx => ?_) (fun s85 σ H hm hI => ?_)
      ·
        obtain ⟨a86, rfl, hS⟩ := hI
        refine c_asg ?_
        refine c_fz ?_
        refine c_op ?_
        refine c_fz ?_
        refine c_sl ?_
        refine ev_to (ev_fz (ev_var rfl)) ?_
        refine eo_to eo_no ?_
        refine eo_to (eo_some (ev_un ev_c fun _ q => ⟨_, rfl, q⟩)) ?_
        refine k_slG hS (hS.sq (i := 0) rfl) fun p87 H hS => ?_
        refine fz_no ?_
        refine c_fz ?_
        refine c_lst ?_
        refine c_cons ?_
        refine c_tup ?_
        refine c_cons ?_
        refine c_op ?_
        refine c_fz ?_
        refine c_lst ?_
        refine ea_to (ea_cons ev_c (ea_cons ev_c ea_nil)) ?_
        refine k_lst (α := Str) (vs := [(.str (("both" : Str))), (.str (("either" : Str)))]) (xs := [("both" : Str), ("either" : Str)]) hS ⟨rfl, ⟨rfl, True.intro⟩⟩ (by show 2 ≤ sizeLine; decide) fun p88 H hS => ?_
        refine fz_no ?_
        obtain ⟨x89, hx89, hm⟩ := wp_idx hm
        refine ev_to (ev_mod (ev_fdiv (ev_ixSq (ev_fz (ev_var rfl)) ev_c (hS.sqF (i := 3) rfl) (atI_map hx89)) ev_c ⟨by decide, by decide⟩) ev_c (by decide)) ?_
        obtain ⟨x90, hx90, hm⟩ := wp_idx hm
        refine r_ixSq (hS.sqF (i := 0) rfl) (atI_map hx90) _ ?_
        refine c_cons ?_
        obtain ⟨x91, hx91, hm⟩ := wp_idx hm
        obtain ⟨vs92, hq93, hM94⟩ := hS.sq (i := 2) rfl
        obtain ⟨u95, hu96, hi97⟩ := atI_im hM94 hx91
        refine ev_to (ev_ixSq (ev_fz (ev_var rfl)) (ev_un ev_c fun _ q => ⟨_, rfl, q⟩) hq93 hu96) ?_
        have hS := hS.addIm (v := u95) (x := (x91 : Any)) hi97
        refine c_cons ?_
        obtain ⟨x99, hx99, hm⟩ := wp_idx hm
        obtain ⟨vs100, hq101, hM102⟩ := hS.sq (i := 3) rfl
        obtain ⟨u103, hu104, hi105⟩ := atI_im hM102 hx99
        refine ev_to (ev_ixSq (ev_fz (ev_var rfl)) (ev_un ev_c fun _ q => ⟨_, rfl, q⟩) hq101 hu104) ?_
        have hS := hS.addIm (v := u103) (x := (x99 : Any)) hi105
        refine c_nil ?_
        refine k_tupA (vs := [(.str (x90)), u95, u103]) (xs := [(Any.str x90), x91, x99]) hS ⟨(any_str.mpr rfl), ⟨(hS.im (i := 1) rfl), ⟨(hS.im (i := 0) rfl), True.intro⟩⟩⟩ (by show 3 ≤ sizeLine; decide) fun p107 H hS => ?_
        refine c_nil ?_
        refine k_lst (α := Any) (vs := [(.ref p107)]) (xs := [(Any.tup [(Any.str x90), x91, x99])]) hS ⟨(hS.im (i := 0) rfl), True.intro⟩ (by show 1 ≤ sizeLine; decide) fun p109 H hS => ?_
        refine fz_no ?_
        obtain ⟨h110, hm⟩ := R.wp_need hm
        refine k_catG hS (hS.rdL (i := 5) rfl) (hS.rdL (i := 0) rfl) h110 fun p111 H hS => ?_
        refine fz_no ?_
        obtain ⟨y112, hy112, hm⟩ := wp_let hm
        have hS : Sep H ([lstA p111 (y112 : (List Any)), lstA p109 ([(Any.tup [(Any.str x90), x91, x99])] : (List Any)), imA (.ref p107) ((Any.tup [(Any.str x90), x91, x99]) : Any), imA u103 (x99 : Any), imA u95 (x91 : Any), lstA p88 ([("both" : Str), ("either" : Str)] : (List Str)), lstA p87 (cutL s85 none (some (-2)) : (List Any)), lstA a86 (s85 : (List Any)), lstA a_v_law_cells (v_law_cells : (List Int)), F] : List (Asn G)) := by rw [← hy112]; exact hS
        refine c_set (σ' := [some (.int (v_law_shape)), some (.ref a_v_law_cells), some (.ref p111), w5, w6]) rfl ?_
        exact nx _ _ _ hm ⟨_, rfl, hS.sel [0, 8, 9] (by decide) rfl⟩
      · obtain ⟨a86, rfl, hS⟩ := hI
        refine sq_nx ?_
        refine c_ret ?_
        obtain ⟨x113, hx113, hm⟩ := wp_idx hm
        obtain ⟨vs114, hq115, hM116⟩ := hS.sq (i := 0) rfl
        obtain ⟨u117, hu118, hi119⟩ := atI_im hM116 hx113
        refine ev_to (ev_ixSq (ev_fz (ev_var rfl)) ev_c hq115 hu118) ?_
        have hS := hS.addIm (v := u117) (x := (x113 : Any)) hi119
        exact hm _ _ (hS.sel [0, 2, 3] (by decide) rfl)
def sp_law_number (G : Gx) : Sp := fun vs H Q E => ∃ (v_law_number_here : Int) (v_law_cell : Int) (F : Asn G), vs = [(.int (v_law_number_here)), (.int (v_law_cell))] ∧ Sep H ([F] : List (Asn G)) ∧ R.wp (m_law_number v_law_number_here v_law_cell) (fun r => ∀ H', Sep H' ([F] : List (Asn G)) → Q (.str (r)) H') (fun _ => False)
abbrev N_law_number : List Str := ["_law_number_here", "_law_cell", "_law_text"]
theorem sc_law_number : FnScope N_law_number ["_law_number_here", "_law_cell"] (defScope s_law_number) := ⟨rfl, rfl, rfl, by decide +kernel, rfl, by decide +kernel, by decide +kernel⟩
theorem ok_law_number (T : Txt G mg) : FnOk P w G.K mg base CX0 1 T.a_law_number T.fd_law_number ["_law_number_here", "_law_cell"] (sp_law_number G) := by
  have nd := sc_law_number.nd
  refine Fun.ok T.F_law_number sc_law_number (fun vs H Q E h => ?_) (fun cdv A outer s H vs Q E hr h => ?_)
  · obtain ⟨v_law_number_here, v_law_cell, F, rfl, _⟩ := h; rfl
  · obtain ⟨v_law_number_here, v_law_cell, F, rfl, hS, hm⟩ := h
    refine ⟨_, (pss_cons (ps_set (i := 2) nd rfl (Or.inl rfl) (pe_callTy call_str_int (by rfl) T.z_str (by decide +kernel) (pa_cons (pv 0) pa_nil)))
      (pss_cons (ps_while PassesOwn.never (pt_cmpR op_lt (pe_callB call_lenS (by rfl) T.z_len PySem.boot_len (pa_cons (pv 2) pa_nil)) (pe_op op_add pe_int (pe_op op_mod (pv 1) pe_int)) (nomark _)) (pss_one (ps_set (i := 2) nd rfl (Or.inl rfl) (pe_op op_catS pe_str (pv 2)))))
      (pss_one (ps_ret (pv 2))))), ?_⟩
    unfold m_law_number at hm
    refine f_seq ?_
    refine c_asg ?_
    obtain ⟨h1, hm⟩ := R.wp_need hm
    refine ev_to (ev_cb (ea_cons (ev_var rfl) ea_nil) fun _ q => ⟨_, rfl, h1, q⟩) ?_
    obtain ⟨y2, hy2, hm⟩ := wp_let hm
    refine n_is (w := (.str (y2))) (by rw [hy2]) ?_
    refine c_set (σ' := [some (.int (v_law_number_here)), some (.int (v_law_cell)), some (.str (y2))]) rfl ?_
    refine sq_nx ?_
    refine f_seq ?_
    refine k_whileT (τ := Str) (n := 64) (s := (y2)) (fun (s3 : Str) (σ : L2.St) (H : Hp) => σ = [some (.int (v_law_number_here)), some (.int (v_law_cell)), some (.str (s3))] ∧ Sep H ([F] : List (Asn G))) ⟨rfl, hS.sel [0] (by decide) rfl⟩ hm (fun s3 σ H q N hI hm nx => ?_) (fun s3 σ H q N hI hm nx => ?_) (fun s3 σ H hm hI => ?_)
    ·
      obtain ⟨rfl, hS⟩ := hI
      obtain ⟨h4, hm⟩ := R.wp_need hm
      refine et_to (et_test (ev_i0 (ev_lenS (ev_var rfl) h4) (ev_add ev_c (ev_mod (ev_var rfl) ev_c (by decide))))) ?_
      exact nx _ _ hm ⟨rfl, hS.sel [0] (by decide) rfl⟩
    ·
      obtain ⟨rfl, hS⟩ := hI
      refine c_asg ?_
      obtain ⟨h5, hm⟩ := R.wp_need hm
      refine ev_to (ev_catS ev_c (ev_var rfl) h5) ?_
      obtain ⟨y6, hy6, hm⟩ := wp_let hm
      refine n_is (w := (.str (y6))) (by rw [hy6]) ?_
      refine c_set (σ' := [some (.int (v_law_number_here)), some (.int (v_law_cell)), some (.str (y6))]) rfl ?_
      exact nx _ _ _ hm ⟨rfl, hS.sel [0] (by decide) rfl⟩
    · obtain ⟨rfl, hS⟩ := hI
      refine sq_nx ?_
      refine c_ret ?_
      refine ev_to (ev_var rfl) ?_
      exact hm _ (hS.sel [0] (by decide) rfl)
def sp_law_day_tokens (G : Gx) : Sp := fun vs H Q E => ∃ (a_v_law_tree : V) (v_law_tree : Any) (v_law_cell : Int) (F : Asn G), vs = [a_v_law_tree, (.int (v_law_cell))] ∧ Im.im G H a_v_law_tree v_law_tree ∧ Sep H ([F] : List (Asn G)) ∧ R.wp (m_law_day_tokens v_law_tree v_law_cell) (fun r => ∀ p H', Sep H' ([lstA p (r : (List Str)), F] : List (Asn G)) → Q (.ref p) H') (fun _ => False)
abbrev N_law_day_tokens : List Str := ["_law_tree", "_law_cell", "_law_low", "_law_high"]
theorem sc_law_day_tokens : FnScope N_law_day_tokens ["_law_tree", "_law_cell"] (defScope s_law_day_tokens) := ⟨rfl, rfl, rfl, by decide +kernel, rfl, by decide +kernel, by decide +kernel⟩
theorem ok_law_day_tokens (T : Txt G mg) : FnOk P w G.K mg base CX0 2 T.a_law_day_tokens T.fd_law_day_tokens ["_law_tree", "_law_cell"] (sp_law_day_tokens G) := by
  have nd := sc_law_day_tokens.nd
  refine Fun.ok T.F_law_day_tokens sc_law_day_tokens (fun vs H Q E h => ?_) (fun cdv A outer s H vs Q E hr h => ?_)
  · obtain ⟨a_v_law_tree, v_law_tree, v_law_cell, F, rfl, _⟩ := h; rfl
  · obtain ⟨a_v_law_tree, v_law_tree, v_law_cell, F, rfl, him_v_law_tree, hS, hm⟩ := h
    have hS := hS.addIm him_v_law_tree
    refine ⟨_, (pss_cons (ps_set (i := 2) nd rfl (Or.inl rfl) (pe_ix (ix_tupK G.K) (pv 0) pe_int (fun _ _ => rfl)))
      (pss_cons (ps_set (i := 3) nd rfl (Or.inl rfl) (pe_ix (ix_tupK G.K) (pv 0) pe_int (fun _ _ => rfl)))
      (pss_cons (ps_if (PW.pt (pw_and (pt_cmpR (eqDK G.K hr.units) (pv 2) (pv 3) (nomark _)) (pw_and1 (pt_cmpR op_eq (pe_op op_mod (pv 1) pe_int) pe_int (nomark _))))) (pss_one (ps_ret (pe_fz (pe_lst (pa_cons pe_str (pa_cons (pe_call (ok_law_number T) (hr.mono (by decide)) rfl T.g_law_number T.kp_law_number T.b_law_number .nil pass0 (pa_cons (pv 2) (pa_cons (pe_op op_fdiv (pv 1) pe_int) pa_nil))) pa_nil)))))) pss_nil)
      (pss_cons (ps_if (PW.pt (pw_and (pt_cmpR (eqDK G.K hr.units) (pv 2) pe_int (nomark _)) (pw_and (pt_cmpR op_lt (pv 3) pe_int (nomark _)) (pw_and1 (pt_cmpR op_eq (pe_op op_mod (pv 1) pe_int) pe_int (nomark _)))))) (pss_one (ps_ret (pe_fz (pe_lst (pa_cons pe_str (pa_cons (pe_call (ok_law_number T) (hr.mono (by decide)) rfl T.g_law_number T.kp_law_number T.b_law_number .nil pass0 (pa_cons (pe_op op_add (pv 3) pe_int) (pa_cons (pe_op op_fdiv (pv 1) pe_int) pa_nil))) pa_nil)))))) pss_nil)
      (pss_cons (ps_if (PW.pt (pw_and (pt_cmpR (eqDK G.K hr.units) (pv 3) pe_int (nomark _)) (pw_and (pt_cmpR op_gt (pv 2) pe_int (nomark _)) (pw_and1 (pt_cmpR op_eq (pe_op op_mod (pv 1) pe_int) pe_int (nomark _)))))) (pss_one (ps_ret (pe_fz (pe_lst (pa_cons pe_str (pa_cons (pe_call (ok_law_number T) (hr.mono (by decide)) rfl T.g_law_number T.kp_law_number T.b_law_number .nil pass0 (pa_cons (pe_op op_sub (pv 2) pe_int) (pa_cons (pe_op op_fdiv (pv 1) pe_int) pa_nil))) pa_nil)))))) pss_nil)
      (pss_one (ps_ret (pe_fz (pe_lst (pa_cons pe_str (pa_cons (pe_call (ok_law_number T) (hr.mono (by decide)) rfl T.g_law_number T.kp_law_number T.b_law_number .nil pass0 (pa_cons (pv 2) (pa_cons (pe_op op_fdiv (pv 1) pe_int) pa_nil))) (pa_cons pe_str (pa_cons (pe_call (ok_law_number T) (hr.mono (by decide)) rfl T.g_law_number T.kp_law_number T.b_law_number .nil pass0 (pa_cons (pv 3) (pa_cons (pe_op op_fdiv (pv 1) pe_int) pa_nil))) pa_nil))))))))))))), ?_⟩
    unfold m_law_day_tokens at hm
    refine f_seq ?_
    refine c_asg ?_
    obtain ⟨xs1, h2, hm⟩ := Ml.wp_asTup hm
    obtain ⟨x3, hx3, hm⟩ := wp_idx hm
    obtain ⟨a4, vs5, he6, hg7, hM8⟩ := any_tupE (hS.im (i := 0) rfl) h2
    obtain ⟨u9, hu10, hi11⟩ := atI_im hM8 hx3
    refine ev_to (ev_ixT (ev_is (ev_var rfl) he6) ev_c hg7 hu10) ?_
    have hS := hS.addIm (v := u9) (x := (x3 : Any)) hi11
    refine c_set (σ' := [some a_v_law_tree, some (.int (v_law_cell)), some u9, none]) rfl ?_
    refine sq_nx ?_
    refine f_seq ?_
    refine c_asg ?_
    obtain ⟨xs13, h14, hm⟩ := Ml.wp_asTup hm
    obtain ⟨x15, hx15, hm⟩ := wp_idx hm
    obtain ⟨a16, vs17, he18, hg19, hM20⟩ := any_tupE (hS.im (i := 1) rfl) h14
    obtain ⟨u21, hu22, hi23⟩ := atI_im hM20 hx15
    refine ev_to (ev_ixT (ev_is (ev_var rfl) he18) ev_c hg19 hu22) ?_
    have hS := hS.addIm (v := u21) (x := (x15 : Any)) hi23
    refine c_set (σ' := [some a_v_law_tree, some (.int (v_law_cell)), some u9, some u21]) rfl ?_
    refine sq_nx ?_
    refine f_seq ?_
    refine f_if ?_
    obtain ⟨b25, hb25, hm⟩ := wp_eqA hm
    refine et_to (et_and (et_test (ev_eqA (ev_var rfl) (ev_var rfl) (hS.im (i := 1) rfl) (hS.im (i := 0) rfl) hb25)) fun _ => (et_test (ev_eqI (ev_mod (ev_var rfl) ev_c (by decide)) ev_c))) ?_
    refine ifK_2 (fun hb26 => ?_) (fun hb26 => ?_)
    · have hm := R.wp_ifY hm hb26
      refine c_ret ?_
      refine c_fz ?_
      refine c_lst ?_
      refine c_cons ?_
      refine ev_to ev_c ?_
      refine c_cons ?_
      refine c_call ?_
      refine ea_to (ea_cons (ev_var rfl) (ea_cons (ev_fdiv (ev_var rfl) ev_c ⟨by decide, by decide⟩) ea_nil)) ?_
      obtain ⟨s27, hs28, hm⟩ := Ml.wp_asInt hm
      have hv29 := v_int (hS.im (i := 1) rfl) hs28
      subst hv29
      refine ⟨s27, (v_law_cell / 2), star [imA u21 (x15 : Any), imA (.int (s27)) (x3 : Any), imA a_v_law_tree (v_law_tree : Any), F], rfl, Sep.unstar (M := []) (hS.sel [0, 1, 2, 3] (by decide) rfl : Sep H (([] ++ [imA u21 (x15 : Any), imA (.int (s27)) (x3 : Any), imA a_v_law_tree (v_law_tree : Any), F] : List (Asn G)))), R.wp_mono (R.wp_bind hm) (fun r30 hm H hS => ?_) (fun _ z => z)⟩
      have hS : Sep H ([imA u21 (x15 : Any), imA (.int (s27)) (x3 : Any), imA a_v_law_tree (v_law_tree : Any), F] : List (Asn G)) := Sep.star (M := []) hS
      refine c_nil ?_
      refine k_lst (α := Str) (vs := [(.str (("day" : Str))), (.str (r30))]) (xs := [("day" : Str), r30]) hS ⟨rfl, ⟨rfl, True.intro⟩⟩ (by show 2 ≤ sizeLine; decide) fun p31 H hS => ?_
      refine fz_no ?_
      exact hm _ _ (hS.sel [0, 4] (by decide) rfl)
    · have hm := R.wp_ifN hm (by first | (rw [hb26]; decide) | simpa using hb26)
      refine st_nx ?_
      refine sq_nx ?_
      refine f_seq ?_
      refine f_if ?_
      refine f_and ?_
      obtain ⟨b32, hb32, hm⟩ := wp_eqA hm
      refine et_to (et_test (ev_eqA (ev_var rfl) ev_c (hS.im (i := 1) rfl) (any_int.mpr rfl) hb32)) ?_
      refine andK_J hm hS (fun hb q hm nx => ?_) (fun b33 H hm hS => ?_)
      ·
        obtain ⟨s34, hs35, hm⟩ := Ml.wp_asInt hm
        have hv36 := v_int (hS.im (i := 0) rfl) hs35
        subst hv36
        refine et_to (et_and (et_test (ev_i0 (ev_var rfl) ev_c)) fun _ => (et_test (ev_eqI (ev_mod (ev_var rfl) ev_c (by decide)) ev_c))) ?_
        -- changed: f24
        exact nx _ _ hm (hS.sel [0, 1, 2, 3] (by decide) rfl)
      ·
        refine ifK_2 (fun hb37 => ?_) (fun hb37 => ?_)
        · have hm := R.wp_ifY hm hb37
          refine c_ret ?_
          refine c_fz ?_
          refine c_lst ?_
          refine c_cons ?_
          refine ev_to ev_c ?_
          refine c_cons ?_
          refine c_call ?_
          obtain ⟨s38, hs39, hm⟩ := Ml.wp_asInt hm
          have hv40 := v_int (hS.im (i := 0) rfl) hs39
          subst hv40
          refine ea_to (ea_cons (ev_add (ev_var rfl) ev_c) (ea_cons (ev_fdiv (ev_var rfl) ev_c ⟨by decide, by decide⟩) ea_nil)) ?_
          refine ⟨(s38 + 1), (v_law_cell / 3), star [imA (.int (s38)) (x15 : Any), imA u9 (x3 : Any), imA a_v_law_tree (v_law_tree : Any), F], rfl, Sep.unstar (M := []) (hS.sel [0, 1, 2, 3] (by decide) rfl : Sep H (([] ++ [imA (.int (s38)) (x15 : Any), imA u9 (x3 : Any), imA a_v_law_tree (v_law_tree : Any), F] : List (Asn G)))), R.wp_mono (R.wp_bind hm) (fun r41 hm H hS => ?_) (fun _ z => z)⟩
          have hS : Sep H ([imA (.int (s38)) (x15 : Any), imA u9 (x3 : Any), imA a_v_law_tree (v_law_tree : Any), F] : List (Asn G)) := Sep.star (M := []) hS
          refine c_nil ?_
          refine k_lst (α := Str) (vs := [(.str (("before" : Str))), (.str (r41))]) (xs := [("before" : Str), r41]) hS ⟨rfl, ⟨rfl, True.intro⟩⟩ (by show 2 ≤ sizeLine; decide) fun p42 H hS => ?_
          refine fz_no ?_
          exact hm _ _ (hS.sel [0, 4] (by decide) rfl)
        · have hm := R.wp_ifN hm (by first | (rw [hb37]; decide) | simpa using hb37)
          refine st_nx ?_
          refine sq_nx ?_
          refine f_seq ?_
          refine f_if ?_
          refine f_and ?_
          obtain ⟨b43, hb43, hm⟩ := wp_eqA hm
          refine et_to (et_test (ev_eqA (ev_var rfl) ev_c (hS.im (i := 0) rfl) (any_int.mpr rfl) hb43)) ?_
          refine andK_J hm hS (fun hb q hm nx => ?_) (fun b44 H hm hS => ?_)
          ·
            obtain ⟨s45, hs46, hm⟩ := Ml.wp_asInt hm
            have hv47 := v_int (hS.im (i := 1) rfl) hs46
            subst hv47
            refine et_to (et_and (et_test (ev_i0 (ev_var rfl) ev_c)) fun _ => (et_test (ev_eqI (ev_mod (ev_var rfl) ev_c (by decide)) ev_c))) ?_
            -- changed: f12
            exact nx _ _ hm (hS.sel [0, 1, 2, 3] (by decide) rfl)
          ·
            refine ifK_2 (fun hb48 => ?_) (fun hb48 => ?_)
            · have hm := R.wp_ifY hm hb48
              refine c_ret ?_
              refine c_fz ?_
              refine c_lst ?_
              refine c_cons ?_
              refine ev_to ev_c ?_
              refine c_cons ?_
              refine c_call ?_
              obtain ⟨s49, hs50, hm⟩ := Ml.wp_asInt hm
              have hv51 := v_int (hS.im (i := 1) rfl) hs50
              subst hv51
              refine ea_to (ea_cons (ev_sub (ev_var rfl) ev_c) (ea_cons (ev_fdiv (ev_var rfl) ev_c ⟨by decide, by decide⟩) ea_nil)) ?_
              refine ⟨(s49 - 1), (v_law_cell / 3), star [imA u21 (x15 : Any), imA (.int (s49)) (x3 : Any), imA a_v_law_tree (v_law_tree : Any), F], rfl, Sep.unstar (M := []) (hS.sel [0, 1, 2, 3] (by decide) rfl : Sep H (([] ++ [imA u21 (x15 : Any), imA (.int (s49)) (x3 : Any), imA a_v_law_tree (v_law_tree : Any), F] : List (Asn G)))), R.wp_mono (R.wp_bind hm) (fun r52 hm H hS => ?_) (fun _ z => z)⟩
              have hS : Sep H ([imA u21 (x15 : Any), imA (.int (s49)) (x3 : Any), imA a_v_law_tree (v_law_tree : Any), F] : List (Asn G)) := Sep.star (M := []) hS
              refine c_nil ?_
              refine k_lst (α := Str) (vs := [(.str (("after" : Str))), (.str (r52))]) (xs := [("after" : Str), r52]) hS ⟨rfl, ⟨rfl, True.intro⟩⟩ (by show 2 ≤ sizeLine; decide) fun p53 H hS => ?_
              refine fz_no ?_
              exact hm _ _ (hS.sel [0, 4] (by decide) rfl)
            · have hm := R.wp_ifN hm (by first | (rw [hb48]; decide) | simpa using hb48)
              refine st_nx ?_
              refine sq_nx ?_
              refine c_ret ?_
              refine c_fz ?_
              refine c_lst ?_
              refine c_cons ?_
              refine ev_to ev_c ?_
              refine c_cons ?_
              refine c_call ?_
              refine ea_to (ea_cons (ev_var rfl) (ea_cons (ev_fdiv (ev_var rfl) ev_c ⟨by decide, by decide⟩) ea_nil)) ?_
              obtain ⟨s54, hs55, hm⟩ := Ml.wp_asInt hm
              have hv56 := v_int (hS.im (i := 1) rfl) hs55
              subst hv56
              refine ⟨s54, (v_law_cell / 2), star [imA u21 (x15 : Any), imA (.int (s54)) (x3 : Any), imA a_v_law_tree (v_law_tree : Any), F], rfl, Sep.unstar (M := []) (hS.sel [0, 1, 2, 3] (by decide) rfl : Sep H (([] ++ [imA u21 (x15 : Any), imA (.int (s54)) (x3 : Any), imA a_v_law_tree (v_law_tree : Any), F] : List (Asn G)))), R.wp_mono (R.wp_bind hm) (fun r57 hm H hS => ?_) (fun _ z => z)⟩
              have hS : Sep H ([imA u21 (x15 : Any), imA (.int (s54)) (x3 : Any), imA a_v_law_tree (v_law_tree : Any), F] : List (Asn G)) := Sep.star (M := []) hS
              refine c_cons ?_
              refine ev_to ev_c ?_
              refine c_cons ?_
              refine c_call ?_
              refine ea_to (ea_cons (ev_var rfl) (ea_cons (ev_fdiv (ev_var rfl) ev_c ⟨by decide, by decide⟩) ea_nil)) ?_
              obtain ⟨s58, hs59, hm⟩ := Ml.wp_asInt hm
              have hv60 := v_int (hS.im (i := 0) rfl) hs59
              subst hv60
              refine ⟨s58, (v_law_cell / 5), star [imA (.int (s58)) (x15 : Any), imA (.int (s54)) (x3 : Any), imA a_v_law_tree (v_law_tree : Any), F], rfl, Sep.unstar (M := []) (hS.sel [0, 1, 2, 3] (by decide) rfl : Sep H (([] ++ [imA (.int (s58)) (x15 : Any), imA (.int (s54)) (x3 : Any), imA a_v_law_tree (v_law_tree : Any), F] : List (Asn G)))), R.wp_mono (R.wp_bind hm) (fun r61 hm H hS => ?_) (fun _ z => z)⟩
              have hS : Sep H ([imA (.int (s58)) (x15 : Any), imA (.int (s54)) (x3 : Any), imA a_v_law_tree (v_law_tree : Any), F] : List (Asn G)) := Sep.star (M := []) hS
              refine c_nil ?_
              refine k_lst (α := Str) (vs := [(.str (("day" : Str))), (.str (r57)), (.str (("to" : Str))), (.str (r61))]) (xs := [("day" : Str), r57, ("to" : Str), r61]) hS ⟨rfl, ⟨rfl, ⟨rfl, ⟨rfl, True.intro⟩⟩⟩⟩ (by show 4 ≤ sizeLine; decide) fun p62 H hS => ?_
              refine fz_no ?_
              exact hm _ _ (hS.sel [0, 4] (by decide) rfl)
def sp_law_tokens (G : Gx) (m_law_tokens : Any → Int → (List Int) → Int → R (List Str)) : Sp := fun vs H Q E => ∃ (a_v_law_tree : V) (v_law_tree : Any) (v_law_close : Int) (a_v_law_cells : Addr) (v_law_cells : (List Int)) (v_law_at : Int) (F : Asn G), vs = [a_v_law_tree, (.int (v_law_close)), .ref a_v_law_cells, (.int (v_law_at))] ∧ Im.im G H a_v_law_tree v_law_tree ∧ Sep H ([lstA a_v_law_cells (v_law_cells : (List Int)), F] : List (Asn G)) ∧ R.wp (m_law_tokens v_law_tree v_law_close v_law_cells v_law_at) (fun r => ∀ p H', Sep H' ([lstA p (r : (List Str)), lstA a_v_law_cells (v_law_cells : (List Int)), F] : List (Asn G)) → Q (.ref p) H') (fun _ => False)
abbrev N_law_tokens : List Str := ["_law_tree", "_law_close", "_law_cells", "_law_at", "_law_cell", "_law_found", "_law_mine", "_law_turn"]
theorem sc_law_tokens : FnScope N_law_tokens ["_law_tree", "_law_close", "_law_cells", "_law_at"] (defScope s_law_tokens) := ⟨rfl, rfl, rfl, by decide +kernel, rfl, by decide +kernel, by decide +kernel⟩
theorem ok_law_tokens_b (T : Txt G mg) {lv : Nat} (hl : 2 ≤ lv) {m_law_tokens : Any → Int → (List Int) → Int → R (List Str)} (R_law_tokens : FnOk P w G.K mg base CX0 lv T.a_law_tokens T.fd_law_tokens ["_law_tree", "_law_close", "_law_cells", "_law_at"] (sp_law_tokens G m_law_tokens)) : FnOk P w G.K mg base CX0 (lv + 1) T.a_law_tokens T.fd_law_tokens ["_law_tree", "_law_close", "_law_cells", "_law_at"] (sp_law_tokens G (m_law_tokens_b m_law_tokens)) := by
  have nd := sc_law_tokens.nd
  refine Fun.ok T.F_law_tokens sc_law_tokens (fun vs H Q E h => ?_) (fun cdv A outer s H vs Q E hr h => ?_)
  · obtain ⟨a_v_law_tree, v_law_tree, v_law_close, a_v_law_cells, v_law_cells, v_law_at, F, rfl, _⟩ := h; rfl
  · obtain ⟨a_v_law_tree, v_law_tree, v_law_close, a_v_law_cells, v_law_cells, v_law_at, F, rfl, him_v_law_tree, hS, hm⟩ := h
    have hS := hS.addIm him_v_law_tree
    refine ⟨_, (pss_cons (ps_set (i := 4) nd rfl (Or.inl rfl) (pe_op op_fdiv (pe_ix (ix_listK G.K) (pe_fz (pv 2)) (pe_op op_mod (pv 3) (pe_callB (lenSqK G.K) (by rfl) T.z_len PySem.boot_len (pa_cons (pe_fz (pv 2)) pa_nil))) (fun _ _ => rfl)) (pe_op op_add pe_int (pv 3))))
      (pss_cons (ps_if (PW.pt (pw_or (pt_cmpR (eqDK G.K hr.units) (pe_ix (ix_tupK G.K) (pv 0) pe_int (fun _ _ => rfl)) pe_str (nomark _)) (pw_or1 (pt_cmpR (eqDK G.K hr.units) (pe_ix (ix_tupK G.K) (pv 0) pe_int (fun _ _ => rfl)) pe_str (nomark _))))) (pss_cons (ps_set (i := 5) nd rfl (Or.inl rfl) (pe_fz (pe_op op_catR (pe_fz (pe_lst (pa_cons (pe_ix (ix_tupK G.K) (pv 0) pe_int (fun _ _ => rfl)) pa_nil))) (pe_fz (pe_call R_law_tokens (hr.mono (by omega)) rfl T.g_law_tokens T.kp_law_tokens T.b_law_tokens .nil pass0 (pa_cons (pe_ix (ix_tupK G.K) (pv 0) pe_int (fun _ _ => rfl)) (pa_cons pe_int (pa_cons (pe_fz (pv 2)) (pa_cons (pe_op op_add (pv 3) pe_int) pa_nil)))))))))
      (pss_one (ps_set (i := 6) nd rfl (Or.inl rfl) pe_int))) (pss_one (ps_if (pt_cmpR (eqDK G.K hr.units) (pe_ix (ix_tupK G.K) (pv 0) pe_int (fun _ _ => rfl)) pe_str (nomark _)) (pss_cons (ps_set (i := 5) nd rfl (Or.inl rfl) (pe_fz (pe_op op_catR (pe_fz (pe_op op_catR (pe_fz (pe_call R_law_tokens (hr.mono (by omega)) rfl T.g_law_tokens T.kp_law_tokens T.b_law_tokens .nil pass0 (pa_cons (pe_ix (ix_tupK G.K) (pv 0) pe_int (fun _ _ => rfl)) (pa_cons pe_int (pa_cons (pe_fz (pv 2)) (pa_cons (pe_op op_add (pv 3) pe_int) pa_nil)))))) (pe_fz (pe_lst (pa_cons pe_str pa_nil))))) (pe_fz (pe_call R_law_tokens (hr.mono (by omega)) rfl T.g_law_tokens T.kp_law_tokens T.b_law_tokens .nil pass0 (pa_cons (pe_ix (ix_tupK G.K) (pv 0) pe_int (fun _ _ => rfl)) (pa_cons pe_int (pa_cons (pe_fz (pv 2)) (pa_cons (pe_op op_add (pv 3) pe_int) pa_nil)))))))))
      (pss_one (ps_set (i := 6) nd rfl (Or.inl rfl) pe_int))) (pss_one (ps_if (pt_cmpR (eqDK G.K hr.units) (pe_ix (ix_tupK G.K) (pv 0) pe_int (fun _ _ => rfl)) pe_str (nomark _)) (pss_cons (ps_set (i := 5) nd rfl (Or.inl rfl) (pe_fz (pe_op op_catR (pe_fz (pe_op op_catR (pe_fz (pe_call R_law_tokens (hr.mono (by omega)) rfl T.g_law_tokens T.kp_law_tokens T.b_law_tokens .nil pass0 (pa_cons (pe_ix (ix_tupK G.K) (pv 0) pe_int (fun _ _ => rfl)) (pa_cons pe_int (pa_cons (pe_fz (pv 2)) (pa_cons (pe_op op_add (pv 3) pe_int) pa_nil)))))) (pe_fz (pe_lst (pa_cons pe_str pa_nil))))) (pe_fz (pe_call R_law_tokens (hr.mono (by omega)) rfl T.g_law_tokens T.kp_law_tokens T.b_law_tokens .nil pass0 (pa_cons (pe_ix (ix_tupK G.K) (pv 0) pe_int (fun _ _ => rfl)) (pa_cons pe_int (pa_cons (pe_fz (pv 2)) (pa_cons (pe_op op_add (pv 3) pe_int) pa_nil)))))))))
      (pss_one (ps_set (i := 6) nd rfl (Or.inl rfl) pe_int))) (pss_one (ps_if (pt_cmpR (eqDK G.K hr.units) (pe_ix (ix_tupK G.K) (pv 0) pe_int (fun _ _ => rfl)) pe_str (nomark _)) (pss_cons (ps_set (i := 5) nd rfl (Or.inl rfl) (pe_fz (pe_call (ok_law_day_tokens T) (hr.mono (by omega)) rfl T.g_law_day_tokens T.kp_law_day_tokens T.b_law_day_tokens .nil pass0 (pa_cons (pv 0) (pa_cons (pe_op op_fdiv (pv 4) pe_int) pa_nil)))))
      (pss_one (ps_set (i := 6) nd rfl (Or.inl rfl) pe_int))) (pss_cons (ps_set (i := 5) nd rfl (Or.inl rfl) (pe_fz (pe_callTy (listSqK G.K) (by rfl) T.z_list (by decide +kernel) (pa_cons (pv 0) pa_nil))))
      (pss_one (ps_set (i := 6) nd rfl (Or.inl rfl) pe_int))))))))))
      (pss_cons (ps_for PassesOwn.never rfl (pi_range1 rfl T.z_range (pa_cons (pe_op op_add (pe_callTy call_int1 (by rfl) T.z_int (by decide +kernel) (pa_cons (pe_cmpR op_lt (pv 6) (pv 1) (nomark _)) pa_nil)) (pe_callTy call_int1 (by rfl) T.z_int (by decide +kernel) (pa_cons (pe_cmpR op_eq (pe_op op_mod (pv 4) pe_int) pe_int (nomark _)) pa_nil))) pa_nil)) (pg_name (i := 7) nd rfl (Or.inl rfl)) (pss_one (ps_set (i := 5) nd rfl (Or.inl rfl) (pe_fz (pe_op op_catR (pe_fz (pe_op op_catR (pe_fz (pe_lst (pa_cons pe_str pa_nil))) (pe_fz (pv 5)))) (pe_fz (pe_lst (pa_cons pe_str pa_nil))))))))
      (pss_one (ps_ret (pe_fz (pv 5))))))), ?_⟩
    unfold m_law_tokens_b at hm
    refine f_seq ?_
    refine c_asg ?_
    obtain ⟨h1, hm⟩ := R.wp_need hm
    obtain ⟨x2, hx2, hm⟩ := wp_idx hm
    obtain ⟨h3, hm⟩ := R.wp_need hm
    refine ev_to (ev_fdiv (ev_ixSq (ev_fz (ev_var rfl)) (ev_mod (ev_var rfl) (ev_lenLm (ev_fz (ev_var rfl)) (hS.sqF (i := 1) rfl)) h1) (hS.sqF (i := 1) rfl) (atI_map hx2)) (ev_add ev_c (ev_var rfl)) h3) ?_
    obtain ⟨y4, hy4, hm⟩ := wp_let hm
    refine n_is (w := (.int (y4))) (by rw [hy4]) ?_
    refine c_set (σ' := [some a_v_law_tree, some (.int (v_law_close)), some (.ref a_v_law_cells), some (.int (v_law_at)), some (.int (y4)), none, none, none]) rfl ?_
    refine sq_nx ?_
    refine f_seq ?_
    refine f_if ?_
    refine f_or ?_
    obtain ⟨xs5, h6, hm⟩ := Ml.wp_asTup hm
    obtain ⟨x7, hx7, hm⟩ := wp_idx hm
    obtain ⟨a8, vs9, he10, hg11, hM12⟩ := any_tupE (hS.im (i := 0) rfl) h6
    obtain ⟨u13, hu14, hi15⟩ := atI_im hM12 hx7
    obtain ⟨b16, hb16, hm⟩ := wp_eqA hm
    refine et_to (et_test (ev_eqA (ev_ixT (ev_is (ev_var rfl) he10) ev_c hg11 hu14) ev_c hi15 (any_str.mpr rfl) hb16)) ?_
    refine orK_J hm hS (fun hb q hm nx => ?_) (fun b17 H hm hS => ?_)
    ·
      obtain ⟨xs18, h19, hm⟩ := Ml.wp_asTup hm
      obtain ⟨x20, hx20, hm⟩ := wp_idx hm
      obtain ⟨a21, vs22, he23, hg24, hM25⟩ := any_tupE (hS.im (i := 0) rfl) h19
      obtain ⟨u26, hu27, hi28⟩ := atI_im hM25 hx20
      obtain ⟨b29, hb29, hm⟩ := wp_eqA hm
      refine et_to (et_test (ev_eqA (ev_ixT (ev_is (ev_var rfl) he23) ev_c hg24 hu27) ev_c hi28 (any_str.mpr rfl) hb29)) ?_
      exact nx _ _ hm (hS.sel [0, 1, 2] (by decide) rfl)
    ·
      refine ifK_J (τ := (List Str) × Int) (fun (s30 : (List Str) × Int) (σ : L2.St) (H : Hp) => ∃ (a31 : Addr), σ = [some a_v_law_tree, some (.int (v_law_close)), some (.ref a_v_law_cells), some (.int (v_law_at)), some (.int (y4)), some (.ref a31), some (.int (s30.2)), none] ∧ Sep H ([lstA a31 (s30.1 : (List Str)), imA a_v_law_tree (v_law_tree : Any), lstA a_v_law_cells (v_law_cells : (List Int)), F] : List (Asn G))) hm (fun hb q hm nx => ?_) (fun hb q hm nx => ?_) (fun s30 σ H hm hI => ?_)
      ·
        refine f_seq ?_
        refine c_asg ?_
        refine c_fz ?_
        refine c_op ?_
        refine c_fz ?_
        refine c_lst ?_
        obtain ⟨xs32, h33, hm⟩ := Ml.wp_asTup hm
        obtain ⟨x34, hx34, hm⟩ := wp_idx hm
        obtain ⟨a35, vs36, he37, hg38, hM39⟩ := any_tupE (hS.im (i := 0) rfl) h33
        obtain ⟨u40, hu41, hi42⟩ := atI_im hM39 hx34
        refine ea_to (ea_cons (ev_ixT (ev_is (ev_var rfl) he37) ev_c hg38 hu41) ea_nil) ?_
        have hS := hS.addIm (v := u40) (x := (x34 : Any)) hi42
        obtain ⟨s45, hs46, hm⟩ := Ml.wp_asStr hm
        have hv47 := v_str (hS.im (i := 0) rfl) hs46
        subst hv47
        refine k_lst (α := Str) (vs := [(.str (s45))]) (xs := [s45]) hS ⟨rfl, True.intro⟩ (by show 1 ≤ sizeLine; decide) fun p44 H hS => ?_
        refine fz_no ?_
        refine c_fz ?_
        refine c_call ?_
        obtain ⟨xs48, h49, hm⟩ := Ml.wp_asTup hm
        obtain ⟨x50, hx50, hm⟩ := wp_idx hm
        obtain ⟨a51, vs52, he53, hg54, hM55⟩ := any_tupE (hS.im (i := 2) rfl) h49
        obtain ⟨u56, hu57, hi58⟩ := atI_im hM55 hx50
        refine ea_to (ea_cons (ev_ixT (ev_is (ev_var rfl) he53) ev_c hg54 hu57) (ea_cons ev_c (ea_cons (ev_fz (ev_var rfl)) (ea_cons (ev_add (ev_var rfl) ev_c) ea_nil)))) ?_
        have hS := hS.addIm (v := u56) (x := (x50 : Any)) hi58
        refine ⟨u56, (x50 : Any), 2, a_v_law_cells, (v_law_cells : (List Int)), (v_law_at + 1), star [imA u56 (x50 : Any), lstA p44 ([s45] : (List Str)), imA (.str (s45)) (x34 : Any), imA a_v_law_tree (v_law_tree : Any), F], rfl, (hS.im (i := 0) rfl), Sep.unstar (M := [lstA a_v_law_cells (v_law_cells : (List Int))]) (hS.sel [4, 0, 1, 2, 3, 5] (by decide) rfl : Sep H (([lstA a_v_law_cells (v_law_cells : (List Int))] ++ [imA u56 (x50 : Any), lstA p44 ([s45] : (List Str)), imA (.str (s45)) (x34 : Any), imA a_v_law_tree (v_law_tree : Any), F] : List (Asn G)))), R.wp_mono (R.wp_bind hm) (fun r60 hm p61 H hS => ?_) (fun _ z => z)⟩
        have hS : Sep H ([lstA p61 (r60 : (List Str)), lstA a_v_law_cells (v_law_cells : (List Int)), imA u56 (x50 : Any), lstA p44 ([s45] : (List Str)), imA (.str (s45)) (x34 : Any), imA a_v_law_tree (v_law_tree : Any), F] : List (Asn G)) := Sep.star (M := [lstA p61 (r60 : (List Str)), lstA a_v_law_cells (v_law_cells : (List Int))]) hS
        refine fz_no ?_
        obtain ⟨h62, hm⟩ := R.wp_need hm
        refine k_catG hS (hS.rdL (i := 3) rfl) (hS.rdL (i := 0) rfl) h62 fun p63 H hS => ?_
        refine fz_no ?_
        obtain ⟨y64, hy64, hm⟩ := wp_let hm
        have hS : Sep H ([lstA p63 (y64 : (List Str)), lstA p61 (r60 : (List Str)), lstA a_v_law_cells (v_law_cells : (List Int)), imA u56 (x50 : Any), lstA p44 ([s45] : (List Str)), imA (.str (s45)) (x34 : Any), imA a_v_law_tree (v_law_tree : Any), F] : List (Asn G)) := by rw [← hy64]; exact hS
        refine c_set (σ' := [some a_v_law_tree, some (.int (v_law_close)), some (.ref a_v_law_cells), some (.int (v_law_at)), some (.int (y4)), some (.ref p63), none, none]) rfl ?_
        refine sq_nx ?_
        refine c_asg ?_
        refine ev_to ev_c ?_
        refine c_set (σ' := [some a_v_law_tree, some (.int (v_law_close)), some (.ref a_v_law_cells), some (.int (v_law_at)), some (.int (y4)), some (.ref p63), some (.int (2)), none]) rfl ?_
        exact nx _ _ _ hm ⟨_, rfl, hS.sel [0, 6, 2, 7] (by decide) rfl⟩
      ·
        refine f_if ?_
        obtain ⟨xs65, h66, hm⟩ := Ml.wp_asTup hm
        obtain ⟨x67, hx67, hm⟩ := wp_idx hm
        obtain ⟨a68, vs69, he70, hg71, hM72⟩ := any_tupE (hS.im (i := 0) rfl) h66
        obtain ⟨u73, hu74, hi75⟩ := atI_im hM72 hx67
        obtain ⟨b76, hb76, hm⟩ := wp_eqA hm
        refine et_to (et_test (ev_eqA (ev_ixT (ev_is (ev_var rfl) he70) ev_c hg71 hu74) ev_c hi75 (any_str.mpr rfl) hb76)) ?_
        refine ifK_J (τ := (List Str) × Int) (fun (s77 : (List Str) × Int) (σ : L2.St) (H : Hp) => ∃ (a78 : Addr), σ = [some a_v_law_tree, some (.int (v_law_close)), some (.ref a_v_law_cells), some (.int (v_law_at)), some (.int (y4)), some (.ref a78), some (.int (s77.2)), none] ∧ Sep H ([lstA a78 (s77.1 : (List Str)), imA a_v_law_tree (v_law_tree : Any), lstA a_v_law_cells (v_law_cells : (List Int)), F] : List (Asn G))) hm (fun hb q hm nx => ?_) (fun hb q hm nx => ?_) (fun s77 σ H hm hI => ?_)
        ·
          refine f_seq ?_
          refine c_asg ?_
          refine c_fz ?_
          refine c_op ?_
          refine c_fz ?_
          refine c_op ?_
          refine c_fz ?_
          refine c_call ?_
          obtain ⟨xs79, h80, hm⟩ := Ml.wp_asTup hm
          obtain ⟨x81, hx81, hm⟩ := wp_idx hm
          obtain ⟨a82, vs83, he84, hg85, hM86⟩ := any_tupE (hS.im (i := 0) rfl) h80
          obtain ⟨u87, hu88, hi89⟩ := atI_im hM86 hx81
          refine ea_to (ea_cons (ev_ixT (ev_is (ev_var rfl) he84) ev_c hg85 hu88) (ea_cons ev_c (ea_cons (ev_fz (ev_var rfl)) (ea_cons (ev_add (ev_var rfl) ev_c) ea_nil)))) ?_
          have hS := hS.addIm (v := u87) (x := (x81 : Any)) hi89
          refine ⟨u87, (x81 : Any), 1, a_v_law_cells, (v_law_cells : (List Int)), (v_law_at + 1), star [imA u87 (x81 : Any), imA a_v_law_tree (v_law_tree : Any), F], rfl, (hS.im (i := 0) rfl), Sep.unstar (M := [lstA a_v_law_cells (v_law_cells : (List Int))]) (hS.sel [2, 0, 1, 3] (by decide) rfl : Sep H (([lstA a_v_law_cells (v_law_cells : (List Int))] ++ [imA u87 (x81 : Any), imA a_v_law_tree (v_law_tree : Any), F] : List (Asn G)))), R.wp_mono (R.wp_bind hm) (fun r91 hm p92 H hS => ?_) (fun _ z => z)⟩
          have hS : Sep H ([lstA p92 (r91 : (List Str)), lstA a_v_law_cells (v_law_cells : (List Int)), imA u87 (x81 : Any), imA a_v_law_tree (v_law_tree : Any), F] : List (Asn G)) := Sep.star (M := [lstA p92 (r91 : (List Str)), lstA a_v_law_cells (v_law_cells : (List Int))]) hS
          refine fz_no ?_
          refine c_fz ?_
          refine c_lst ?_
          refine ea_to (ea_cons ev_c ea_nil) ?_
          refine k_lst (α := Str) (vs := [(.str (("and" : Str)))]) (xs := [("and" : Str)]) hS ⟨rfl, True.intro⟩ (by show 1 ≤ sizeLine; decide) fun p93 H hS => ?_
          refine fz_no ?_
          obtain ⟨h94, hm⟩ := R.wp_need hm
          refine k_catG hS (hS.rdL (i := 1) rfl) (hS.rdL (i := 0) rfl) h94 fun p95 H hS => ?_
          refine fz_no ?_
          refine c_fz ?_
          refine c_call ?_
          obtain ⟨xs96, h97, hm⟩ := Ml.wp_asTup hm
          obtain ⟨x98, hx98, hm⟩ := wp_idx hm
          obtain ⟨a99, vs100, he101, hg102, hM103⟩ := any_tupE (hS.im (i := 5) rfl) h97
          obtain ⟨u104, hu105, hi106⟩ := atI_im hM103 hx98
          refine ea_to (ea_cons (ev_ixT (ev_is (ev_var rfl) he101) ev_c hg102 hu105) (ea_cons ev_c (ea_cons (ev_fz (ev_var rfl)) (ea_cons (ev_add (ev_var rfl) ev_c) ea_nil)))) ?_
          have hS := hS.addIm (v := u104) (x := (x98 : Any)) hi106
          refine ⟨u104, (x98 : Any), 2, a_v_law_cells, (v_law_cells : (List Int)), (v_law_at + 2), star [imA u104 (x98 : Any), lstA p95 (r91 ++ ([("and" : Str)]) : (List Str)), lstA p93 ([("and" : Str)] : (List Str)), lstA p92 (r91 : (List Str)), imA u87 (x81 : Any), imA a_v_law_tree (v_law_tree : Any), F], rfl, (hS.im (i := 0) rfl), Sep.unstar (M := [lstA a_v_law_cells (v_law_cells : (List Int))]) (hS.sel [4, 0, 1, 2, 3, 5, 6, 7] (by decide) rfl : Sep H (([lstA a_v_law_cells (v_law_cells : (List Int))] ++ [imA u104 (x98 : Any), lstA p95 (r91 ++ ([("and" : Str)]) : (List Str)), lstA p93 ([("and" : Str)] : (List Str)), lstA p92 (r91 : (List Str)), imA u87 (x81 : Any), imA a_v_law_tree (v_law_tree : Any), F] : List (Asn G)))), R.wp_mono (R.wp_bind hm) (fun r108 hm p109 H hS => ?_) (fun _ z => z)⟩
          have hS : Sep H ([lstA p109 (r108 : (List Str)), lstA a_v_law_cells (v_law_cells : (List Int)), imA u104 (x98 : Any), lstA p95 (r91 ++ ([("and" : Str)]) : (List Str)), lstA p93 ([("and" : Str)] : (List Str)), lstA p92 (r91 : (List Str)), imA u87 (x81 : Any), imA a_v_law_tree (v_law_tree : Any), F] : List (Asn G)) := Sep.star (M := [lstA p109 (r108 : (List Str)), lstA a_v_law_cells (v_law_cells : (List Int))]) hS
          refine fz_no ?_
          revert hm; refine R.need_rev fun h110 hm => ?_
          refine k_catG hS (hS.rdL (i := 3) rfl) (hS.rdL (i := 0) rfl) h110 fun p111 H hS => ?_
          refine fz_no ?_
          obtain ⟨y112, hy112, hm⟩ := wp_let hm
          have hS : Sep H ([lstA p111 (y112 : (List Str)), lstA p109 (r108 : (List Str)), lstA a_v_law_cells (v_law_cells : (List Int)), imA u104 (x98 : Any), lstA p95 (r91 ++ ([("and" : Str)]) : (List Str)), lstA p93 ([("and" : Str)] : (List Str)), lstA p92 (r91 : (List Str)), imA u87 (x81 : Any), imA a_v_law_tree (v_law_tree : Any), F] : List (Asn G)) := by rw [← hy112]; exact hS
          refine c_set (σ' := [some a_v_law_tree, some (.int (v_law_close)), some (.ref a_v_law_cells), some (.int (v_law_at)), some (.int (y4)), some (.ref p111), none, none]) rfl ?_
          refine sq_nx ?_
          refine c_asg ?_
          refine ev_to ev_c ?_
          refine c_set (σ' := [some a_v_law_tree, some (.int (v_law_close)), some (.ref a_v_law_cells), some (.int (v_law_at)), some (.int (y4)), some (.ref p111), some (.int (1)), none]) rfl ?_
          exact nx _ _ _ hm ⟨_, rfl, hS.sel [0, 8, 2, 9] (by decide) rfl⟩
        ·
          refine f_if ?_
          obtain ⟨xs113, h114, hm⟩ := Ml.wp_asTup hm
          obtain ⟨x115, hx115, hm⟩ := wp_idx hm
          obtain ⟨a116, vs117, he118, hg119, hM120⟩ := any_tupE (hS.im (i := 0) rfl) h114
          obtain ⟨u121, hu122, hi123⟩ := atI_im hM120 hx115
          obtain ⟨b124, hb124, hm⟩ := wp_eqA hm
          refine et_to (et_test (ev_eqA (ev_ixT (ev_is (ev_var rfl) he118) ev_c hg119 hu122) ev_c hi123 (any_str.mpr rfl) hb124)) ?_
          refine ifK_J (τ := (List Str) × Int) (fun (s125 : (List Str) × Int) (σ : L2.St) (H : Hp) => ∃ (a126 : Addr), σ = [some a_v_law_tree, some (.int (v_law_close)), some (.ref a_v_law_cells), some (.int (v_law_at)), some (.int (y4)), some (.ref a126), some (.int (s125.2)), none] ∧ Sep H ([lstA a126 (s125.1 : (List Str)), imA a_v_law_tree (v_law_tree : Any), lstA a_v_law_cells (v_law_cells : (List Int)), F] : List (Asn G))) hm (fun hb q hm nx => ?_) (fun hb q hm nx => ?_) (fun s125 σ H hm hI => ?_)
          ·
            refine f_seq ?_
            refine c_asg ?_
            refine c_fz ?_
            refine c_op ?_
            refine c_fz ?_
            refine c_op ?_
            refine c_fz ?_
            refine c_call ?_
            obtain ⟨xs127, h128, hm⟩ := Ml.wp_asTup hm
            obtain ⟨x129, hx129, hm⟩ := wp_idx hm
            obtain ⟨a130, vs131, he132, hg133, hM134⟩ := any_tupE (hS.im (i := 0) rfl) h128
            obtain ⟨u135, hu136, hi137⟩ := atI_im hM134 hx129
            refine ea_to (ea_cons (ev_ixT (ev_is (ev_var rfl) he132) ev_c hg133 hu136) (ea_cons ev_c (ea_cons (ev_fz (ev_var rfl)) (ea_cons (ev_add (ev_var rfl) ev_c) ea_nil)))) ?_
            have hS := hS.addIm (v := u135) (x := (x129 : Any)) hi137
            refine ⟨u135, (x129 : Any), 0, a_v_law_cells, (v_law_cells : (List Int)), (v_law_at + 1), star [imA u135 (x129 : Any), imA a_v_law_tree (v_law_tree : Any), F], rfl, (hS.im (i := 0) rfl), Sep.unstar (M := [lstA a_v_law_cells (v_law_cells : (List Int))]) (hS.sel [2, 0, 1, 3] (by decide) rfl : Sep H (([lstA a_v_law_cells (v_law_cells : (List Int))] ++ [imA u135 (x129 : Any), imA a_v_law_tree (v_law_tree : Any), F] : List (Asn G)))), R.wp_mono (R.wp_bind hm) (fun r139 hm p140 H hS => ?_) (fun _ z => z)⟩
            have hS : Sep H ([lstA p140 (r139 : (List Str)), lstA a_v_law_cells (v_law_cells : (List Int)), imA u135 (x129 : Any), imA a_v_law_tree (v_law_tree : Any), F] : List (Asn G)) := Sep.star (M := [lstA p140 (r139 : (List Str)), lstA a_v_law_cells (v_law_cells : (List Int))]) hS
            refine fz_no ?_
            refine c_fz ?_
            refine c_lst ?_
            refine ea_to (ea_cons ev_c ea_nil) ?_
            refine k_lst (α := Str) (vs := [(.str (("or" : Str)))]) (xs := [("or" : Str)]) hS ⟨rfl, True.intro⟩ (by show 1 ≤ sizeLine; decide) fun p141 H hS => ?_
            refine fz_no ?_
            obtain ⟨h142, hm⟩ := R.wp_need hm
            refine k_catG hS (hS.rdL (i := 1) rfl) (hS.rdL (i := 0) rfl) h142 fun p143 H hS => ?_
            refine fz_no ?_
            refine c_fz ?_
            refine c_call ?_
            obtain ⟨xs144, h145, hm⟩ := Ml.wp_asTup hm
            obtain ⟨x146, hx146, hm⟩ := wp_idx hm
            obtain ⟨a147, vs148, he149, hg150, hM151⟩ := any_tupE (hS.im (i := 5) rfl) h145
            obtain ⟨u152, hu153, hi154⟩ := atI_im hM151 hx146
            refine ea_to (ea_cons (ev_ixT (ev_is (ev_var rfl) he149) ev_c hg150 hu153) (ea_cons ev_c (ea_cons (ev_fz (ev_var rfl)) (ea_cons (ev_add (ev_var rfl) ev_c) ea_nil)))) ?_
            have hS := hS.addIm (v := u152) (x := (x146 : Any)) hi154
            refine ⟨u152, (x146 : Any), 1, a_v_law_cells, (v_law_cells : (List Int)), (v_law_at + 2), star [imA u152 (x146 : Any), lstA p143 (r139 ++ ([("or" : Str)]) : (List Str)), lstA p141 ([("or" : Str)] : (List Str)), lstA p140 (r139 : (List Str)), imA u135 (x129 : Any), imA a_v_law_tree (v_law_tree : Any), F], rfl, (hS.im (i := 0) rfl), Sep.unstar (M := [lstA a_v_law_cells (v_law_cells : (List Int))]) (hS.sel [4, 0, 1, 2, 3, 5, 6, 7] (by decide) rfl : Sep H (([lstA a_v_law_cells (v_law_cells : (List Int))] ++ [imA u152 (x146 : Any), lstA p143 (r139 ++ ([("or" : Str)]) : (List Str)), lstA p141 ([("or" : Str)] : (List Str)), lstA p140 (r139 : (List Str)), imA u135 (x129 : Any), imA a_v_law_tree (v_law_tree : Any), F] : List (Asn G)))), R.wp_mono (R.wp_bind hm) (fun r156 hm p157 H hS => ?_) (fun _ z => z)⟩
            have hS : Sep H ([lstA p157 (r156 : (List Str)), lstA a_v_law_cells (v_law_cells : (List Int)), imA u152 (x146 : Any), lstA p143 (r139 ++ ([("or" : Str)]) : (List Str)), lstA p141 ([("or" : Str)] : (List Str)), lstA p140 (r139 : (List Str)), imA u135 (x129 : Any), imA a_v_law_tree (v_law_tree : Any), F] : List (Asn G)) := Sep.star (M := [lstA p157 (r156 : (List Str)), lstA a_v_law_cells (v_law_cells : (List Int))]) hS
            refine fz_no ?_
            revert hm; refine R.need_rev fun h158 hm => ?_
            refine k_catG hS (hS.rdL (i := 3) rfl) (hS.rdL (i := 0) rfl) h158 fun p159 H hS => ?_
            refine fz_no ?_
            obtain ⟨y160, hy160, hm⟩ := wp_let hm
            have hS : Sep H ([lstA p159 (y160 : (List Str)), lstA p157 (r156 : (List Str)), lstA a_v_law_cells (v_law_cells : (List Int)), imA u152 (x146 : Any), lstA p143 (r139 ++ ([("or" : Str)]) : (List Str)), lstA p141 ([("or" : Str)] : (List Str)), lstA p140 (r139 : (List Str)), imA u135 (x129 : Any), imA a_v_law_tree (v_law_tree : Any), F] : List (Asn G)) := by rw [← hy160]; exact hS
            refine c_set (σ' := [some a_v_law_tree, some (.int (v_law_close)), some (.ref a_v_law_cells), some (.int (v_law_at)), some (.int (y4)), some (.ref p159), none, none]) rfl ?_
            refine sq_nx ?_
            refine c_asg ?_
            refine ev_to ev_c ?_
            refine c_set (σ' := [some a_v_law_tree, some (.int (v_law_close)), some (.ref a_v_law_cells), some (.int (v_law_at)), some (.int (y4)), some (.ref p159), some (.int (0)), none]) rfl ?_
            exact nx _ _ _ hm ⟨_, rfl, hS.sel [0, 8, 2, 9] (by decide) rfl⟩
          ·
            refine f_if ?_
            obtain ⟨xs161, h162, hm⟩ := Ml.wp_asTup hm
            obtain ⟨x163, hx163, hm⟩ := wp_idx hm
            obtain ⟨a164, vs165, he166, hg167, hM168⟩ := any_tupE (hS.im (i := 0) rfl) h162
            obtain ⟨u169, hu170, hi171⟩ := atI_im hM168 hx163
            obtain ⟨b172, hb172, hm⟩ := wp_eqA hm
            refine et_to (et_test (ev_eqA (ev_ixT (ev_is (ev_var rfl) he166) ev_c hg167 hu170) ev_c hi171 (any_str.mpr rfl) hb172)) ?_
            refine ifK_J (τ := (List Str) × Int) (fun (s173 : (List Str) × Int) (σ : L2.St) (H : Hp) => ∃ (a174 : Addr), σ = [some a_v_law_tree, some (.int (v_law_close)), some (.ref a_v_law_cells), some (.int (v_law_at)), some (.int (y4)), some (.ref a174), some (.int (s173.2)), none] ∧ Sep H ([lstA a174 (s173.1 : (List Str)), imA a_v_law_tree (v_law_tree : Any), lstA a_v_law_cells (v_law_cells : (List Int)), F] : List (Asn G))) hm (fun hb q hm nx => ?_) (fun hb q hm nx => ?_) (fun s173 σ H hm hI => ?_)
            ·
              refine f_seq ?_
              refine c_asg ?_
              refine c_fz ?_
              refine c_call ?_
              refine ea_to (ea_cons (ev_var rfl) (ea_cons (ev_fdiv (ev_var rfl) ev_c ⟨by decide, by decide⟩) ea_nil)) ?_
              refine ⟨a_v_law_tree, (v_law_tree : Any), (y4 / 7), star [imA a_v_law_tree (v_law_tree : Any), lstA a_v_law_cells (v_law_cells : (List Int)), F], rfl, (hS.im (i := 0) rfl), Sep.unstar (M := []) (hS.sel [0, 1, 2] (by decide) rfl : Sep H (([] ++ [imA a_v_law_tree (v_law_tree : Any), lstA a_v_law_cells (v_law_cells : (List Int)), F] : List (Asn G)))), R.wp_mono (R.wp_bind hm) (fun r175 hm p176 H hS => ?_) (fun _ z => z)⟩
              have hS : Sep H ([lstA p176 (r175 : (List Str)), imA a_v_law_tree (v_law_tree : Any), lstA a_v_law_cells (v_law_cells : (List Int)), F] : List (Asn G)) := Sep.star (M := [lstA p176 (r175 : (List Str))]) hS
              refine fz_no ?_
              refine c_set (σ' := [some a_v_law_tree, some (.int (v_law_close)), some (.ref a_v_law_cells), some (.int (v_law_at)), some (.int (y4)), some (.ref p176), none, none]) rfl ?_
              refine sq_nx ?_
              refine c_asg ?_
              refine ev_to ev_c ?_
              refine c_set (σ' := [some a_v_law_tree, some (.int (v_law_close)), some (.ref a_v_law_cells), some (.int (v_law_at)), some (.int (y4)), some (.ref p176), some (.int (2)), none]) rfl ?_
              exact nx _ _ _ hm ⟨_, rfl, hS.sel [0, 1, 2, 3] (by decide) rfl⟩
            ·
              refine f_seq ?_
              refine c_asg ?_
              refine c_fz ?_
              refine c_cb ?_
              refine ea_to (ea_cons (ev_var rfl) ea_nil) ?_
              obtain ⟨ss178, hss178, hm⟩ := wp_asStrs hm
              refine k_listS hS (hS.im (i := 0) rfl) hss178 fun p177 H hS => ?_
              refine fz_no ?_
              refine c_set (σ' := [some a_v_law_tree, some (.int (v_law_close)), some (.ref a_v_law_cells), some (.int (v_law_at)), some (.int (y4)), some (.ref p177), none, none]) rfl ?_
              refine sq_nx ?_
              refine c_asg ?_
              refine ev_to ev_c ?_
              refine c_set (σ' := [some a_v_law_tree, some (.int (v_law_close)), some (.ref a_v_law_cells), some (.int (v_law_at)), some (.int (y4)), some (.ref p177), some (.int (2)), none]) rfl ?_
              exact nx _ _ _ hm ⟨_, rfl, hS.sel [0, 1, 2, 3] (by decide) rfl⟩
            · obtain ⟨a174, rfl, hS⟩ := hI
              exact nx _ _ _ hm ⟨_, rfl, hS.sel [0, 1, 2, 3] (by decide) rfl⟩
          · obtain ⟨a126, rfl, hS⟩ := hI
            exact nx _ _ _ hm ⟨_, rfl, hS.sel [0, 1, 2, 3] (by decide) rfl⟩
        · obtain ⟨a78, rfl, hS⟩ := hI
          exact nx _ _ _ hm ⟨_, rfl, hS.sel [0, 1, 2, 3] (by decide) rfl⟩
      · obtain ⟨a31, rfl, hS⟩ := hI
        refine sq_nx ?_
        refine f_seq ?_
        refine c_for ?_
        refine c_rng1 ?_
        refine ea_to (ea_cons (ev_add (ev_cb (ea_cons (ev_i0 (ev_var rfl) (ev_var rfl)) ea_nil) fun _ q => .inr ⟨_, rfl, q⟩) (ev_cb (ea_cons (ev_eqI (ev_mod (ev_var rfl) ev_c (by decide)) ev_c) ea_nil) fun _ q => .inr ⟨_, rfl, q⟩)) ea_nil) ?_
        obtain ⟨h179, hm⟩ := R.wp_need hm
        refine k_rng1 h179.1 h179.2 ?_
        refine k_for (τ := (List Str)) (fun (s180 : (List Str)) (σ : L2.St) (H : Hp) => ∃ (w183 : Option V), ∃ (a184 : Addr), σ = [some a_v_law_tree, some (.int (v_law_close)), some (.ref a_v_law_cells), some (.int (v_law_at)), some (.int (y4)), some (.ref a184), some (.int (s30.2)), w183] ∧ Sep H ([lstA a184 (s180 : (List Str)), imA a_v_law_tree (v_law_tree : Any), lstA a_v_law_cells (v_law_cells : (List Int)), F] : List (Asn G))) (im := (fun _ v (x : Int) => v = .int x)) (s := (s30.1)) (fun _ => wk_range) ⟨_, _, rfl, hS.sel [0, 1, 2, 3] (by decide) rfl⟩ hm (fun s180 x181 v182 σ H q N hI hx hm nx => ?_) (fun s180 σ H hm hI => ?_)
        ·
          obtain ⟨w183, a184, rfl, hS⟩ := hI
          cases hx
          refine c_gN (σ' := [some a_v_law_tree, some (.int (v_law_close)), some (.ref a_v_law_cells), some (.int (v_law_at)), some (.int (y4)), some (.ref a184), some (.int (s30.2)), some (.int (x181))]) rfl ?_
          refine c_asg ?_
          refine c_fz ?_
          refine c_op ?_
          refine c_fz ?_
          refine c_op ?_
          refine c_fz ?_
          refine c_lst ?_
          refine ea_to (ea_cons ev_c ea_nil) ?_
          refine k_lst (α := Str) (vs := [(.str (("(" : Str)))]) (xs := [("(" : Str)]) hS ⟨rfl, True.intro⟩ (by show 1 ≤ sizeLine; decide) fun p185 H hS => ?_
          refine fz_no ?_
          refine ev_to (ev_fz (ev_var rfl)) ?_
          obtain ⟨h186, hm⟩ := R.wp_need hm
          refine k_catG hS (hS.rdL (i := 0) rfl) (hS.rdL (i := 1) rfl) h186 fun p187 H hS => ?_
          refine fz_no ?_
          refine c_fz ?_
          refine c_lst ?_
          refine ea_to (ea_cons ev_c ea_nil) ?_
          refine k_lst (α := Str) (vs := [(.str ((")" : Str)))]) (xs := [(")" : Str)]) hS ⟨rfl, True.intro⟩ (by show 1 ≤ sizeLine; decide) fun p188 H hS => ?_
          refine fz_no ?_
          revert hm; refine R.need_rev fun h189 hm => ?_
          refine k_catG hS (hS.rdL (i := 1) rfl) (hS.rdL (i := 0) rfl) h189 fun p190 H hS => ?_
          refine fz_no ?_
          obtain ⟨y191, hy191, hm⟩ := wp_let hm
          have hS : Sep H ([lstA p190 (y191 : (List Str)), lstA p188 ([(")" : Str)] : (List Str)), lstA p187 (([("(" : Str)]) ++ s180 : (List Str)), lstA p185 ([("(" : Str)] : (List Str)), lstA a184 (s180 : (List Str)), imA a_v_law_tree (v_law_tree : Any), lstA a_v_law_cells (v_law_cells : (List Int)), F] : List (Asn G)) := by rw [← hy191]; exact hS
          refine c_set (σ' := [some a_v_law_tree, some (.int (v_law_close)), some (.ref a_v_law_cells), some (.int (v_law_at)), some (.int (y4)), some (.ref p190), some (.int (s30.2)), some (.int (x181))]) rfl ?_
          exact nx _ _ _ hm ⟨_, _, rfl, hS.sel [0, 5, 6, 7] (by decide) rfl⟩
        · obtain ⟨w183, a184, rfl, hS⟩ := hI
          refine sq_nx ?_
          refine c_ret ?_
          refine ev_to (ev_fz (ev_var rfl)) ?_
          exact hm _ _ (hS.sel [0, 2, 3] (by decide) rfl)
theorem ok_law_tokens (T : Txt G mg) : ∀ n : Nat, FnOk P w G.K mg base CX0 (3 + n) T.a_law_tokens T.fd_law_tokens ["_law_tree", "_law_close", "_law_cells", "_law_at"] (sp_law_tokens G (m_law_tokens n))
  | 0 => fnOk_no fun vs H Q E h => by obtain ⟨a_v_law_tree, v_law_tree, v_law_close, a_v_law_cells, v_law_cells, v_law_at, F, _, him_v_law_tree, _, hm⟩ := h; exact hm
  | n + 1 => ok_law_tokens_b T (Nat.le_add_right_of_le (by decide)) (ok_law_tokens T n)
def sp_law_joined (G : Gx) : Sp := fun vs H Q E => ∃ (a_v_law_tokens_here : Addr) (v_law_tokens_here : (List Str)) (a_v_law_cells : Addr) (v_law_cells : (List Int)) (F : Asn G), vs = [.ref a_v_law_tokens_here, .ref a_v_law_cells] ∧ Sep H ([lstA a_v_law_tokens_here (v_law_tokens_here : (List Str)), lstA a_v_law_cells (v_law_cells : (List Int)), F] : List (Asn G)) ∧ R.wp (m_law_joined v_law_tokens_here v_law_cells) (fun r => ∀ H', Sep H' ([lstA a_v_law_tokens_here (v_law_tokens_here : (List Str)), lstA a_v_law_cells (v_law_cells : (List Int)), F] : List (Asn G)) → Q (.str (r)) H') (fun _ => False)
abbrev N_law_joined : List Str := ["_law_tokens_here", "_law_cells", "_law_text", "_law_last", "_law_k", "_law_far"]
theorem sc_law_joined : FnScope N_law_joined ["_law_tokens_here", "_law_cells"] (defScope s_law_joined) := ⟨rfl, rfl, rfl, by decide +kernel, rfl, by decide +kernel, by decide +kernel⟩
theorem ok_law_joined (T : Txt G mg) : FnOk P w G.K mg base CX0 1 T.a_law_joined T.fd_law_joined ["_law_tokens_here", "_law_cells"] (sp_law_joined G) := by
  have nd := sc_law_joined.nd
  refine Fun.ok T.F_law_joined sc_law_joined (fun vs H Q E h => ?_) (fun cdv A outer s H vs Q E hr h => ?_)
  · obtain ⟨a_v_law_tokens_here, v_law_tokens_here, a_v_law_cells, v_law_cells, F, rfl, _⟩ := h; rfl
  · obtain ⟨a_v_law_tokens_here, v_law_tokens_here, a_v_law_cells, v_law_cells, F, rfl, hS, hm⟩ := h
    refine ⟨_, (pss_cons (ps_set (i := 2) nd rfl (Or.inl rfl) pe_str)
      (pss_cons (ps_set (i := 3) nd rfl (Or.inl rfl) pe_str)
      (pss_cons (ps_for PassesOwn.never rfl (pi_range1 rfl T.z_range (pa_cons (pe_callB (lenSqK G.K) (by rfl) T.z_len PySem.boot_len (pa_cons (pe_fz (pv 0)) pa_nil)) pa_nil)) (pg_name (i := 4) nd rfl (Or.inl rfl)) (pss_cons (ps_set (i := 5) nd rfl (Or.inl rfl) (pe_op op_mod (pe_op op_fdiv (pe_ix (ix_listK G.K) (pe_fz (pv 1)) (pe_op op_mod (pv 4) (pe_callB (lenSqK G.K) (by rfl) T.z_len PySem.boot_len (pa_cons (pe_fz (pv 1)) pa_nil))) (fun _ _ => rfl)) (pe_op op_add pe_int (pv 4))) pe_int))
      (pss_cons (ps_if (PW.pt (pw_and (pt_cmpR op_eq (pv 5) pe_int (nomark _)) (pw_and (pt_cmpR (niSqK G.K) (pv 3) (pe_fz (pe_lst (pa_cons pe_str (pa_cons pe_str (pa_cons pe_str pa_nil))))) (by rfl)) (pw_and1 (pt_cmpR (niSqK G.K) (pe_ix (ix_listK G.K) (pe_fz (pv 0)) (pv 4) (fun _ _ => rfl)) (pe_fz (pe_lst (pa_cons pe_str (pa_cons pe_str (pa_cons pe_str pa_nil))))) (by rfl)))))) (pss_one (ps_set (i := 5) nd rfl (Or.inl rfl) pe_int)) pss_nil)
      (pss_cons (ps_set (i := 2) nd rfl (Or.inl rfl) (pe_op op_catS (pe_op op_catS (pv 2) (pe_op op_repS pe_str (pv 5))) (pe_ix (ix_listK G.K) (pe_fz (pv 0)) (pv 4) (fun _ _ => rfl))))
      (pss_one (ps_set (i := 3) nd rfl (Or.inl rfl) (pe_ix (ix_listK G.K) (pe_fz (pv 0)) (pv 4) (fun _ _ => rfl))))))))
      (pss_one (ps_ret (pv 2)))))), ?_⟩
    unfold m_law_joined at hm
    refine f_seq ?_
    refine c_asg ?_
    refine ev_to ev_c ?_
    refine c_set (σ' := [some (.ref a_v_law_tokens_here), some (.ref a_v_law_cells), some (.str (("" : Str))), none, none, none]) rfl ?_
    refine sq_nx ?_
    refine f_seq ?_
    refine c_asg ?_
    refine ev_to ev_c ?_
    refine c_set (σ' := [some (.ref a_v_law_tokens_here), some (.ref a_v_law_cells), some (.str (("" : Str))), some (.str (("(" : Str))), none, none]) rfl ?_
    refine sq_nx ?_
    refine f_seq ?_
    refine c_for ?_
    refine c_rng1 ?_
    refine ea_to (ea_cons (ev_lenLm (ev_fz (ev_var rfl)) (hS.sqF (i := 0) rfl)) ea_nil) ?_
    obtain ⟨h1, hm⟩ := R.wp_need hm
    refine k_rng1 (len62 h1).1 (len62 h1).2 ?_
    refine k_for (τ := Str × Str) (fun (s2 : Str × Str) (σ : L2.St) (H : Hp) => ∃ (w5 w6 : Option V), σ = [some (.ref a_v_law_tokens_here), some (.ref a_v_law_cells), some (.str (s2.1)), some (.str (s2.2)), w5, w6] ∧ Sep H ([lstA a_v_law_tokens_here (v_law_tokens_here : (List Str)), lstA a_v_law_cells (v_law_cells : (List Int)), F] : List (Asn G))) (im := (fun _ v (x : Int) => v = .int x)) (s := (("" : Str), ("(" : Str))) (fun _ => wk_range) ⟨_, _, rfl, hS.sel [0, 1, 2] (by decide) rfl⟩ hm (fun s2 x3 v4 σ H q N hI hx hm nx => ?_) (fun s2 σ H hm hI => ?_)
    ·
      obtain ⟨w5, w6, rfl, hS⟩ := hI
      cases hx
      refine c_gN (σ' := [some (.ref a_v_law_tokens_here), some (.ref a_v_law_cells), some (.str (s2.1)), some (.str (s2.2)), some (.int (x3)), w6]) rfl ?_
      refine f_seq ?_
      refine c_asg ?_
      obtain ⟨h7, hm⟩ := R.wp_need hm
      obtain ⟨x8, hx8, hm⟩ := wp_idx hm
      obtain ⟨h9, hm⟩ := R.wp_need hm
      refine ev_to (ev_mod (ev_fdiv (ev_ixSq (ev_fz (ev_var rfl)) (ev_mod (ev_var rfl) (ev_lenLm (ev_fz (ev_var rfl)) (hS.sqF (i := 1) rfl)) h7) (hS.sqF (i := 1) rfl) (atI_map hx8)) (ev_add ev_c (ev_var rfl)) h9) ev_c (by decide)) ?_
      obtain ⟨y10, hy10, hm⟩ := wp_let hm
      refine n_is (w := (.int (y10))) (by rw [hy10]) ?_
      refine c_set (σ' := [some (.ref a_v_law_tokens_here), some (.ref a_v_law_cells), some (.str (s2.1)), some (.str (s2.2)), some (.int (x3)), some (.int (y10))]) rfl ?_
      refine sq_nx ?_
      refine f_seq ?_
      refine f_if ?_
      refine f_and ?_
      refine et_to (et_test (ev_eqI (ev_var rfl) ev_c)) ?_
      refine andK_J hm hS (fun hb q hm nx => ?_) (fun b11 H hm hS => ?_)
      ·
        refine f_and ?_
        refine f_test ?_
        refine c_op ?_
        refine ev_to (ev_var rfl) ?_
        refine c_fz ?_
        refine c_lst ?_
        refine ea_to (ea_cons ev_c (ea_cons ev_c (ea_cons ev_c ea_nil))) ?_
        refine k_lst (α := Str) (vs := [(.str (("(" : Str))), (.str ((")" : Str))), (.str (("," : Str)))]) (xs := [("(" : Str), (")" : Str), ("," : Str)]) hS ⟨rfl, ⟨rfl, ⟨rfl, True.intro⟩⟩⟩ (by show 3 ≤ sizeLine; decide) fun p12 H hS => ?_
        refine fz_no ?_
        refine ev_op2 (ev_niL hS (i := 0) rfl ev_c ev_c) ?_
        refine f_bl ?_
        refine andK_J hm hS (fun hb q hm nx => ?_) (fun b13 H hm hS => ?_)
        ·
          refine f_test ?_
          refine c_op ?_
          obtain ⟨x14, hx14, hm⟩ := wp_idx hm
          refine ev_to (ev_ixSq (ev_fz (ev_var rfl)) (ev_var rfl) (hS.sqF (i := 1) rfl) (atI_map hx14)) ?_
          refine c_fz ?_
          refine c_lst ?_
          refine ea_to (ea_cons ev_c (ea_cons ev_c (ea_cons ev_c ea_nil))) ?_
          refine k_lst (α := Str) (vs := [(.str (("(" : Str))), (.str ((")" : Str))), (.str (("," : Str)))]) (xs := [("(" : Str), (")" : Str), ("," : Str)]) hS ⟨rfl, ⟨rfl, ⟨rfl, True.intro⟩⟩⟩ (by show 3 ≤ sizeLine; decide) fun p15 H hS => ?_
          refine fz_no ?_
          refine ev_op2 (ev_niL hS (i := 0) rfl ev_c ev_c) ?_
          refine f_bl ?_
          exact nx _ _ hm (hS.sel [1, 2, 3, 4] (by decide) rfl)
        ·
          exact nx _ _ hm (hS.sel [1, 2, 3] (by decide) rfl)
      ·
        refine ifK_J (τ := Int) (fun (s16 : Int) (σ : L2.St) (H : Hp) => σ = [some (.ref a_v_law_tokens_here), some (.ref a_v_law_cells), some (.str (s2.1)), some (.str (s2.2)), some (.int (x3)), some (.int (s16))] ∧ Sep H ([lstA a_v_law_tokens_here (v_law_tokens_here : (List Str)), lstA a_v_law_cells (v_law_cells : (List Int)), F] : List (Asn G))) hm (fun hb q hm nx => ?_) (fun hb q hm nx => ?_) (fun s16 σ H hm hI => ?_)
        ·
          refine c_asg ?_
          refine ev_to ev_c ?_
          refine c_set (σ' := [some (.ref a_v_law_tokens_here), some (.ref a_v_law_cells), some (.str (s2.1)), some (.str (s2.2)), some (.int (x3)), some (.int (1))]) rfl ?_
          exact nx _ _ _ hm ⟨rfl, hS.sel [0, 1, 2] (by decide) rfl⟩
        ·
          refine st_nx ?_
          exact nx _ _ _ hm ⟨rfl, hS.sel [0, 1, 2] (by decide) rfl⟩
        · obtain ⟨rfl, hS⟩ := hI
          refine sq_nx ?_
          refine f_seq ?_
          refine c_asg ?_
          obtain ⟨h17, hm⟩ := R.wp_need hm
          obtain ⟨h18, hm⟩ := R.wp_need hm
          obtain ⟨x19, hx19, hm⟩ := wp_idx hm
          revert hm; refine R.need_rev fun h20 hm => ?_
          refine ev_to (ev_catS (ev_catS (ev_var rfl) (ev_repS ev_c (ev_var rfl) h17) h18) (ev_ixSq (ev_fz (ev_var rfl)) (ev_var rfl) (hS.sqF (i := 0) rfl) (atI_map hx19)) h20) ?_
          obtain ⟨y21, hy21, hm⟩ := wp_let hm
          refine n_is (w := (.str (y21))) (by rw [hy21]) ?_
          refine c_set (σ' := [some (.ref a_v_law_tokens_here), some (.ref a_v_law_cells), some (.str (y21)), some (.str (s2.2)), some (.int (x3)), some (.int (s16))]) rfl ?_
          refine sq_nx ?_
          refine c_asg ?_
          obtain ⟨x22, hx22, hm⟩ := wp_idx hm
          refine ev_to (ev_ixSq (ev_fz (ev_var rfl)) (ev_var rfl) (hS.sqF (i := 0) rfl) (atI_map hx22)) ?_
          refine c_set (σ' := [some (.ref a_v_law_tokens_here), some (.ref a_v_law_cells), some (.str (y21)), some (.str (x22)), some (.int (x3)), some (.int (s16))]) rfl ?_
          exact nx _ _ _ hm ⟨_, _, rfl, hS.sel [0, 1, 2] (by decide) rfl⟩
    · obtain ⟨w5, w6, rfl, hS⟩ := hI
      refine sq_nx ?_
      refine c_ret ?_
      refine ev_to (ev_var rfl) ?_
      exact hm _ (hS.sel [0, 1, 2] (by decide) rfl)
def sp_OfWord_tree_InTitle (G : Gx) : Sp := fun vs H Q E => ∃ (a_v_self : Addr) (v_self : InTitle) (F : Asn G), vs = [(.ref a_v_self)] ∧ Im.im G H (.ref a_v_self) v_self ∧ Sep H ([F] : List (Asn G)) ∧ R.wp (m_OfWord_tree_InTitle v_self) (fun r => ∀ (p : V) H', Sep H' ([imA p (r : Any), F] : List (Asn G)) → Q p H') (fun _ => False)
abbrev N_OfWord_tree_InTitle : List Str := ["self"]
theorem sc_OfWord_tree_InTitle : FnScope N_OfWord_tree_InTitle ["self"] (defScope s_OfWord_tree) := ⟨rfl, rfl, rfl, by decide +kernel, rfl, by decide +kernel, by decide +kernel⟩
theorem ok_OfWord_tree_InTitle (T : Txt G mg) : FnOk P w G.K mg base CX0 2 T.a_OfWord_tree T.fd_OfWord_tree ["self"] (sp_OfWord_tree_InTitle G) := by
  have nd := sc_OfWord_tree_InTitle.nd
  refine Fun.ok T.F_OfWord_tree sc_OfWord_tree_InTitle (fun vs H Q E h => ?_) (fun cdv A outer s H vs Q E hr h => ?_)
  · obtain ⟨a_v_self, v_self, F, rfl, _⟩ := h; rfl
  · obtain ⟨a_v_self, v_self, F, rfl, him_v_self, hS, hm⟩ := h
    have hS := hS.addIm him_v_self
    refine ⟨_, (pss_one (ps_ret (pe_tup (pa_cons (pe_meth0 (pv 0) T.cl_InTitle T.m_InTitle_sign (ok_InTitle_sign T) (hr.mono (by decide)) T.b_InTitle_sign .nil pass0) (pa_cons (pe_fld (pv 0) rfl) pa_nil))))), ?_⟩
    unfold m_OfWord_tree_InTitle at hm
    refine c_ret ?_
    refine c_tup ?_
    refine c_cons ?_
    refine c_meth ?_
    refine ev_to (ev_var rfl) ?_
    obtain ⟨d1, hO2⟩ := im_InTitle (hS.im (i := 0) rfl)
    refine ⟨_, _, _, rfl, hO2, rfl, ?_⟩
    refine ea_to ea_nil ?_
    refine ⟨a_v_self, (v_self : InTitle), star [imA (.ref a_v_self) (v_self : InTitle), F], rfl, (hS.im (i := 0) rfl), Sep.unstar (M := []) (hS.sel [0, 1] (by decide) rfl : Sep H (([] ++ [imA (.ref a_v_self) (v_self : InTitle), F] : List (Asn G)))), R.wp_mono (R.wp_bind hm) (fun r3 hm H hS => ?_) (fun _ z => z)⟩
    have hS : Sep H ([imA (.ref a_v_self) (v_self : InTitle), F] : List (Asn G)) := Sep.star (M := []) hS
    refine c_cons ?_
    obtain ⟨d4, hO5⟩ := im_InTitle (hS.im (i := 0) rfl)
    refine ev_to (ev_fld (ev_var rfl) hO5 T.cl_InTitle T.n_InTitle_word rfl) ?_
    refine c_nil ?_
    refine k_tupA (vs := [(.str (r3)), (.str (v_self.word))]) (xs := [(Any.str r3), (Any.str v_self.word)]) hS ⟨(any_str.mpr rfl), ⟨(any_str.mpr rfl), True.intro⟩⟩ (by show 2 ≤ sizeLine; decide) fun p6 H hS => ?_
    exact hm _ _ (hS.sel [0, 2] (by decide) rfl)
def sp_OfWord_tree_FromSender (G : Gx) : Sp := fun vs H Q E => ∃ (a_v_self : Addr) (v_self : FromSender) (F : Asn G), vs = [(.ref a_v_self)] ∧ Im.im G H (.ref a_v_self) v_self ∧ Sep H ([F] : List (Asn G)) ∧ R.wp (m_OfWord_tree_FromSender v_self) (fun r => ∀ (p : V) H', Sep H' ([imA p (r : Any), F] : List (Asn G)) → Q p H') (fun _ => False)
abbrev N_OfWord_tree_FromSender : List Str := ["self"]
theorem sc_OfWord_tree_FromSender : FnScope N_OfWord_tree_FromSender ["self"] (defScope s_OfWord_tree) := ⟨rfl, rfl, rfl, by decide +kernel, rfl, by decide +kernel, by decide +kernel⟩
theorem ok_OfWord_tree_FromSender (T : Txt G mg) : FnOk P w G.K mg base CX0 2 T.a_OfWord_tree T.fd_OfWord_tree ["self"] (sp_OfWord_tree_FromSender G) := by
  have nd := sc_OfWord_tree_FromSender.nd
  refine Fun.ok T.F_OfWord_tree sc_OfWord_tree_FromSender (fun vs H Q E h => ?_) (fun cdv A outer s H vs Q E hr h => ?_)
  · obtain ⟨a_v_self, v_self, F, rfl, _⟩ := h; rfl
  · obtain ⟨a_v_self, v_self, F, rfl, him_v_self, hS, hm⟩ := h
    have hS := hS.addIm him_v_self
    refine ⟨_, (pss_one (ps_ret (pe_tup (pa_cons (pe_meth0 (pv 0) T.cl_FromSender T.m_FromSender_sign (ok_FromSender_sign T) (hr.mono (by decide)) T.b_FromSender_sign .nil pass0) (pa_cons (pe_fld (pv 0) rfl) pa_nil))))), ?_⟩
    unfold m_OfWord_tree_FromSender at hm
    refine c_ret ?_
    refine c_tup ?_
    refine c_cons ?_
    refine c_meth ?_
    refine ev_to (ev_var rfl) ?_
    obtain ⟨d1, hO2⟩ := im_FromSender (hS.im (i := 0) rfl)
    refine ⟨_, _, _, rfl, hO2, rfl, ?_⟩
    refine ea_to ea_nil ?_
    refine ⟨a_v_self, (v_self : FromSender), star [imA (.ref a_v_self) (v_self : FromSender), F], rfl, (hS.im (i := 0) rfl), Sep.unstar (M := []) (hS.sel [0, 1] (by decide) rfl : Sep H (([] ++ [imA (.ref a_v_self) (v_self : FromSender), F] : List (Asn G)))), R.wp_mono (R.wp_bind hm) (fun r3 hm H hS => ?_) (fun _ z => z)⟩
    have hS : Sep H ([imA (.ref a_v_self) (v_self : FromSender), F] : List (Asn G)) := Sep.star (M := []) hS
    refine c_cons ?_
    obtain ⟨d4, hO5⟩ := im_FromSender (hS.im (i := 0) rfl)
    refine ev_to (ev_fld (ev_var rfl) hO5 T.cl_FromSender T.n_FromSender_word rfl) ?_
    refine c_nil ?_
    refine k_tupA (vs := [(.str (r3)), (.str (v_self.word))]) (xs := [(Any.str r3), (Any.str v_self.word)]) hS ⟨(any_str.mpr rfl), ⟨(any_str.mpr rfl), True.intro⟩⟩ (by show 2 ≤ sizeLine; decide) fun p6 H hS => ?_
    exact hm _ _ (hS.sel [0, 2] (by decide) rfl)
def sp_OfWord_tree_InFolder (G : Gx) : Sp := fun vs H Q E => ∃ (a_v_self : Addr) (v_self : InFolder) (F : Asn G), vs = [(.ref a_v_self)] ∧ Im.im G H (.ref a_v_self) v_self ∧ Sep H ([F] : List (Asn G)) ∧ R.wp (m_OfWord_tree_InFolder v_self) (fun r => ∀ (p : V) H', Sep H' ([imA p (r : Any), F] : List (Asn G)) → Q p H') (fun _ => False)
abbrev N_OfWord_tree_InFolder : List Str := ["self"]
theorem sc_OfWord_tree_InFolder : FnScope N_OfWord_tree_InFolder ["self"] (defScope s_OfWord_tree) := ⟨rfl, rfl, rfl, by decide +kernel, rfl, by decide +kernel, by decide +kernel⟩
theorem ok_OfWord_tree_InFolder (T : Txt G mg) : FnOk P w G.K mg base CX0 2 T.a_OfWord_tree T.fd_OfWord_tree ["self"] (sp_OfWord_tree_InFolder G) := by
  have nd := sc_OfWord_tree_InFolder.nd
  refine Fun.ok T.F_OfWord_tree sc_OfWord_tree_InFolder (fun vs H Q E h => ?_) (fun cdv A outer s H vs Q E hr h => ?_)
  · obtain ⟨a_v_self, v_self, F, rfl, _⟩ := h; rfl
  · obtain ⟨a_v_self, v_self, F, rfl, him_v_self, hS, hm⟩ := h
    have hS := hS.addIm him_v_self
    refine ⟨_, (pss_one (ps_ret (pe_tup (pa_cons (pe_meth0 (pv 0) T.cl_InFolder T.m_InFolder_sign (ok_InFolder_sign T) (hr.mono (by decide)) T.b_InFolder_sign .nil pass0) (pa_cons (pe_fld (pv 0) rfl) pa_nil))))), ?_⟩
    unfold m_OfWord_tree_InFolder at hm
    refine c_ret ?_
    refine c_tup ?_
    refine c_cons ?_
    refine c_meth ?_
    refine ev_to (ev_var rfl) ?_
    obtain ⟨d1, hO2⟩ := im_InFolder (hS.im (i := 0) rfl)
    refine ⟨_, _, _, rfl, hO2, rfl, ?_⟩
    refine ea_to ea_nil ?_
    refine ⟨a_v_self, (v_self : InFolder), star [imA (.ref a_v_self) (v_self : InFolder), F], rfl, (hS.im (i := 0) rfl), Sep.unstar (M := []) (hS.sel [0, 1] (by decide) rfl : Sep H (([] ++ [imA (.ref a_v_self) (v_self : InFolder), F] : List (Asn G)))), R.wp_mono (R.wp_bind hm) (fun r3 hm H hS => ?_) (fun _ z => z)⟩
    have hS : Sep H ([imA (.ref a_v_self) (v_self : InFolder), F] : List (Asn G)) := Sep.star (M := []) hS
    refine c_cons ?_
    obtain ⟨d4, hO5⟩ := im_InFolder (hS.im (i := 0) rfl)
    refine ev_to (ev_fld (ev_var rfl) hO5 T.cl_InFolder T.n_InFolder_word rfl) ?_
    refine c_nil ?_
    refine k_tupA (vs := [(.str (r3)), (.str (v_self.word))]) (xs := [(Any.str r3), (Any.str v_self.word)]) hS ⟨(any_str.mpr rfl), ⟨(any_str.mpr rfl), True.intro⟩⟩ (by show 2 ≤ sizeLine; decide) fun p6 H hS => ?_
    exact hm _ _ (hS.sel [0, 2] (by decide) rfl)
def sp_OfWord_tree_IsMarked (G : Gx) : Sp := fun vs H Q E => ∃ (a_v_self : Addr) (v_self : IsMarked) (F : Asn G), vs = [(.ref a_v_self)] ∧ Im.im G H (.ref a_v_self) v_self ∧ Sep H ([F] : List (Asn G)) ∧ R.wp (m_OfWord_tree_IsMarked v_self) (fun r => ∀ (p : V) H', Sep H' ([imA p (r : Any), F] : List (Asn G)) → Q p H') (fun _ => False)
abbrev N_OfWord_tree_IsMarked : List Str := ["self"]
theorem sc_OfWord_tree_IsMarked : FnScope N_OfWord_tree_IsMarked ["self"] (defScope s_OfWord_tree) := ⟨rfl, rfl, rfl, by decide +kernel, rfl, by decide +kernel, by decide +kernel⟩
theorem ok_OfWord_tree_IsMarked (T : Txt G mg) : FnOk P w G.K mg base CX0 2 T.a_OfWord_tree T.fd_OfWord_tree ["self"] (sp_OfWord_tree_IsMarked G) := by
  have nd := sc_OfWord_tree_IsMarked.nd
  refine Fun.ok T.F_OfWord_tree sc_OfWord_tree_IsMarked (fun vs H Q E h => ?_) (fun cdv A outer s H vs Q E hr h => ?_)
  · obtain ⟨a_v_self, v_self, F, rfl, _⟩ := h; rfl
  · obtain ⟨a_v_self, v_self, F, rfl, him_v_self, hS, hm⟩ := h
    have hS := hS.addIm him_v_self
    refine ⟨_, (pss_one (ps_ret (pe_tup (pa_cons (pe_meth0 (pv 0) T.cl_IsMarked T.m_IsMarked_sign (ok_IsMarked_sign T) (hr.mono (by decide)) T.b_IsMarked_sign .nil pass0) (pa_cons (pe_fld (pv 0) rfl) pa_nil))))), ?_⟩
    unfold m_OfWord_tree_IsMarked at hm
    refine c_ret ?_
    refine c_tup ?_
    refine c_cons ?_
    refine c_meth ?_
    refine ev_to (ev_var rfl) ?_
    obtain ⟨d1, hO2⟩ := im_IsMarked (hS.im (i := 0) rfl)
    refine ⟨_, _, _, rfl, hO2, rfl, ?_⟩
    refine ea_to ea_nil ?_
    refine ⟨a_v_self, (v_self : IsMarked), star [imA (.ref a_v_self) (v_self : IsMarked), F], rfl, (hS.im (i := 0) rfl), Sep.unstar (M := []) (hS.sel [0, 1] (by decide) rfl : Sep H (([] ++ [imA (.ref a_v_self) (v_self : IsMarked), F] : List (Asn G)))), R.wp_mono (R.wp_bind hm) (fun r3 hm H hS => ?_) (fun _ z => z)⟩
    have hS : Sep H ([imA (.ref a_v_self) (v_self : IsMarked), F] : List (Asn G)) := Sep.star (M := []) hS
    refine c_cons ?_
    obtain ⟨d4, hO5⟩ := im_IsMarked (hS.im (i := 0) rfl)
    refine ev_to (ev_fld (ev_var rfl) hO5 T.cl_IsMarked T.n_IsMarked_word rfl) ?_
    refine c_nil ?_
    refine k_tupA (vs := [(.str (r3)), (.str (v_self.word))]) (xs := [(Any.str r3), (Any.str v_self.word)]) hS ⟨(any_str.mpr rfl), ⟨(any_str.mpr rfl), True.intro⟩⟩ (by show 2 ≤ sizeLine; decide) fun p6 H hS => ?_
    exact hm _ _ (hS.sel [0, 2] (by decide) rfl)
def sp_OfOne_tree_InThread (G : Gx) (m_Cond_tree : Cond → R Any) : Sp := fun vs H Q E => ∃ (a_v_self : Addr) (v_self : InThread) (F : Asn G), vs = [(.ref a_v_self)] ∧ Im.im G H (.ref a_v_self) v_self ∧ Sep H ([F] : List (Asn G)) ∧ R.wp (m_OfOne_tree_InThread m_Cond_tree v_self) (fun r => ∀ (p : V) H', Sep H' ([imA p (r : Any), F] : List (Asn G)) → Q p H') (fun _ => False)
abbrev N_OfOne_tree_InThread : List Str := ["self"]
theorem sc_OfOne_tree_InThread : FnScope N_OfOne_tree_InThread ["self"] (defScope s_OfOne_tree) := ⟨rfl, rfl, rfl, by decide +kernel, rfl, by decide +kernel, by decide +kernel⟩
theorem ok_OfOne_tree_InThread (T : Txt G mg) {lv : Nat} (hl : 1 ≤ lv) {m_Cond_tree : Cond → R Any} (R_Cond_tree : Dsp P w G.K mg base CX0 lv isC_Cond G.cl "tree" ["self"] (sp_Cond_tree G m_Cond_tree)) : FnOk P w G.K mg base CX0 (lv + 1) T.a_OfOne_tree T.fd_OfOne_tree ["self"] (sp_OfOne_tree_InThread G m_Cond_tree) := by
  have nd := sc_OfOne_tree_InThread.nd
  refine Fun.ok T.F_OfOne_tree sc_OfOne_tree_InThread (fun vs H Q E h => ?_) (fun cdv A outer s H vs Q E hr h => ?_)
  · obtain ⟨a_v_self, v_self, F, rfl, _⟩ := h; rfl
  · obtain ⟨a_v_self, v_self, F, rfl, him_v_self, hS, hm⟩ := h
    have hS := hS.addIm him_v_self
    refine ⟨_, (pss_one (ps_ret (pe_tup (pa_cons (pe_meth0 (pv 0) T.cl_InThread T.m_InThread_sign (ok_InThread_sign T) (hr.mono (by omega)) T.b_InThread_sign .nil pass0) (pa_cons (pe_methF0 (pe_fld (pv 0) rfl) R_Cond_tree (hr.mono (by omega)) pass0) pa_nil))))), ?_⟩
    unfold m_OfOne_tree_InThread at hm
    refine c_ret ?_
    refine c_tup ?_
    refine c_cons ?_
    refine c_meth ?_
    refine ev_to (ev_var rfl) ?_
    obtain ⟨d1, _, hO2, _⟩ := im_InThread (hS.im (i := 0) rfl)
    refine ⟨_, _, _, rfl, hO2, rfl, ?_⟩
    refine ea_to ea_nil ?_
    refine ⟨a_v_self, (v_self : InThread), star [imA (.ref a_v_self) (v_self : InThread), F], rfl, (hS.im (i := 0) rfl), Sep.unstar (M := []) (hS.sel [0, 1] (by decide) rfl : Sep H (([] ++ [imA (.ref a_v_self) (v_self : InThread), F] : List (Asn G)))), R.wp_mono (R.wp_bind hm) (fun r3 hm H hS => ?_) (fun _ z => z)⟩
    have hS : Sep H ([imA (.ref a_v_self) (v_self : InThread), F] : List (Asn G)) := Sep.star (M := []) hS
    refine c_cons ?_
    refine c_methF ?_
    obtain ⟨d4, u6, hO5, h7⟩ := im_InThread (hS.im (i := 0) rfl)
    obtain ⟨a8, rfl⟩ := isref h7
    refine ev_to (ev_fld (ev_var rfl) hO5 T.cl_InThread T.n_InThread_inner rfl) ?_
    have hS := hS.addIm (v := (.ref a8)) (x := (v_self.inner : Cond)) h7
    obtain ⟨dx10, fs11, hO12, hl13⟩ := cls_Cond (hS.im (i := 0) rfl)
    refine ⟨_, _, _, _, rfl, fam_Cond _, hO12, hl13 "tree" (by decide), ?_⟩
    refine ea_to ea_nil ?_
    refine ⟨a8, (v_self.inner : Cond), star [imA (.ref a8) (v_self.inner : Cond), imA (.ref a_v_self) (v_self : InThread), F], rfl, (hS.im (i := 0) rfl), rfl, Sep.unstar (M := []) (hS.sel [0, 1, 2] (by decide) rfl : Sep H (([] ++ [imA (.ref a8) (v_self.inner : Cond), imA (.ref a_v_self) (v_self : InThread), F] : List (Asn G)))), R.wp_mono (R.wp_bind hm) (fun r14 hm p15 H hS => ?_) (fun _ z => z)⟩
    have hS : Sep H ([imA p15 (r14 : Any), imA (.ref a8) (v_self.inner : Cond), imA (.ref a_v_self) (v_self : InThread), F] : List (Asn G)) := Sep.star (M := [imA p15 (r14 : Any)]) hS
    refine c_nil ?_
    refine k_tupA (vs := [(.str (r3)), p15]) (xs := [(Any.str r3), r14]) hS ⟨(any_str.mpr rfl), ⟨(hS.im (i := 0) rfl), True.intro⟩⟩ (by show 2 ≤ sizeLine; decide) fun p17 H hS => ?_
    exact hm _ _ (hS.sel [0, 4] (by decide) rfl)
def sp_OfTwo_tree_EitherSo (G : Gx) (m_Cond_tree : Cond → R Any) : Sp := fun vs H Q E => ∃ (a_v_self : Addr) (v_self : EitherSo) (F : Asn G), vs = [(.ref a_v_self)] ∧ Im.im G H (.ref a_v_self) v_self ∧ Sep H ([F] : List (Asn G)) ∧ R.wp (m_OfTwo_tree_EitherSo m_Cond_tree v_self) (fun r => ∀ (p : V) H', Sep H' ([imA p (r : Any), F] : List (Asn G)) → Q p H') (fun _ => False)
abbrev N_OfTwo_tree_EitherSo : List Str := ["self"]
theorem sc_OfTwo_tree_EitherSo : FnScope N_OfTwo_tree_EitherSo ["self"] (defScope s_OfTwo_tree) := ⟨rfl, rfl, rfl, by decide +kernel, rfl, by decide +kernel, by decide +kernel⟩
theorem ok_OfTwo_tree_EitherSo (T : Txt G mg) {lv : Nat} (hl : 1 ≤ lv) {m_Cond_tree : Cond → R Any} (R_Cond_tree : Dsp P w G.K mg base CX0 lv isC_Cond G.cl "tree" ["self"] (sp_Cond_tree G m_Cond_tree)) : FnOk P w G.K mg base CX0 (lv + 1) T.a_OfTwo_tree T.fd_OfTwo_tree ["self"] (sp_OfTwo_tree_EitherSo G m_Cond_tree) := by
  have nd := sc_OfTwo_tree_EitherSo.nd
  refine Fun.ok T.F_OfTwo_tree sc_OfTwo_tree_EitherSo (fun vs H Q E h => ?_) (fun cdv A outer s H vs Q E hr h => ?_)
  · obtain ⟨a_v_self, v_self, F, rfl, _⟩ := h; rfl
  · obtain ⟨a_v_self, v_self, F, rfl, him_v_self, hS, hm⟩ := h
    have hS := hS.addIm him_v_self
    refine ⟨_, (pss_one (ps_ret (pe_tup (pa_cons (pe_ix (ix_tupK G.K) (pe_meth0 (pv 0) T.cl_EitherSo T.m_EitherSo_sign (ok_EitherSo_sign T) (hr.mono (by omega)) T.b_EitherSo_sign .nil pass0) pe_int (fun _ _ => rfl)) (pa_cons (pe_methF0 (pe_fld (pv 0) rfl) R_Cond_tree (hr.mono (by omega)) pass0) (pa_cons (pe_methF0 (pe_fld (pv 0) rfl) R_Cond_tree (hr.mono (by omega)) pass0) pa_nil)))))), ?_⟩
    unfold m_OfTwo_tree_EitherSo at hm
    refine c_ret ?_
    refine c_tup ?_
    refine c_cons ?_
    refine c_op ?_
    refine c_meth ?_
    refine ev_to (ev_var rfl) ?_
    obtain ⟨d1, _, _, hO2, _, _⟩ := im_EitherSo (hS.im (i := 0) rfl)
    refine ⟨_, _, _, rfl, hO2, rfl, ?_⟩
    refine ea_to ea_nil ?_
    refine ⟨a_v_self, (v_self : EitherSo), star [imA (.ref a_v_self) (v_self : EitherSo), F], rfl, (hS.im (i := 0) rfl), Sep.unstar (M := []) (hS.sel [0, 1] (by decide) rfl : Sep H (([] ++ [imA (.ref a_v_self) (v_self : EitherSo), F] : List (Asn G)))), R.wp_mono (R.wp_bind hm) (fun r3 hm p4 H hS => ?_) (fun _ z => z)⟩
    have hS : Sep H ([imA (.ref p4) (r3 : (Str × Str)), imA (.ref a_v_self) (v_self : EitherSo), F] : List (Asn G)) := Sep.star (M := [imA (.ref p4) (r3 : (Str × Str))]) hS
    refine ev_to ev_c ?_
    obtain ⟨u6, u7, hT10, h8, h9⟩ := im2 (hS.im (i := 0) rfl)
    obtain rfl : u6 = (.str (r3.1)) := h8
    obtain rfl : u7 = (.str (r3.2)) := h9
    refine r_ixT hT10 rfl ?_
    refine c_cons ?_
    refine c_methF ?_
    obtain ⟨d11, u13, u14, hO12, h15, h16⟩ := im_EitherSo (hS.im (i := 1) rfl)
    obtain ⟨a17, rfl⟩ := isref h15
    refine ev_to (ev_fld (ev_var rfl) hO12 T.cl_EitherSo T.n_EitherSo_first rfl) ?_
    have hS := hS.addIm (v := (.ref a17)) (x := (v_self.first : Cond)) h15
    obtain ⟨dx19, fs20, hO21, hl22⟩ := cls_Cond (hS.im (i := 0) rfl)
    refine ⟨_, _, _, _, rfl, fam_Cond _, hO21, hl22 "tree" (by decide), ?_⟩
    refine ea_to ea_nil ?_
    refine ⟨a17, (v_self.first : Cond), star [imA (.ref a17) (v_self.first : Cond), imA (.ref p4) (r3 : (Str × Str)), imA (.ref a_v_self) (v_self : EitherSo), F], rfl, (hS.im (i := 0) rfl), rfl, Sep.unstar (M := []) (hS.sel [0, 1, 2, 3] (by decide) rfl : Sep H (([] ++ [imA (.ref a17) (v_self.first : Cond), imA (.ref p4) (r3 : (Str × Str)), imA (.ref a_v_self) (v_self : EitherSo), F] : List (Asn G)))), R.wp_mono (R.wp_bind hm) (fun r23 hm p24 H hS => ?_) (fun _ z => z)⟩
    have hS : Sep H ([imA p24 (r23 : Any), imA (.ref a17) (v_self.first : Cond), imA (.ref p4) (r3 : (Str × Str)), imA (.ref a_v_self) (v_self : EitherSo), F] : List (Asn G)) := Sep.star (M := [imA p24 (r23 : Any)]) hS
    refine c_cons ?_
    refine c_methF ?_
    obtain ⟨d26, u28, u29, hO27, h30, h31⟩ := im_EitherSo (hS.im (i := 3) rfl)
    obtain ⟨a32, rfl⟩ := isref h31
    refine ev_to (ev_fld (ev_var rfl) hO27 T.cl_EitherSo T.n_EitherSo_second rfl) ?_
    have hS := hS.addIm (v := (.ref a32)) (x := (v_self.second : Cond)) h31
    obtain ⟨dx34, fs35, hO36, hl37⟩ := cls_Cond (hS.im (i := 0) rfl)
    refine ⟨_, _, _, _, rfl, fam_Cond _, hO36, hl37 "tree" (by decide), ?_⟩
    refine ea_to ea_nil ?_
    refine ⟨a32, (v_self.second : Cond), star [imA (.ref a32) (v_self.second : Cond), imA p24 (r23 : Any), imA (.ref a17) (v_self.first : Cond), imA (.ref p4) (r3 : (Str × Str)), imA (.ref a_v_self) (v_self : EitherSo), F], rfl, (hS.im (i := 0) rfl), rfl, Sep.unstar (M := []) (hS.sel [0, 1, 2, 3, 4, 5] (by decide) rfl : Sep H (([] ++ [imA (.ref a32) (v_self.second : Cond), imA p24 (r23 : Any), imA (.ref a17) (v_self.first : Cond), imA (.ref p4) (r3 : (Str × Str)), imA (.ref a_v_self) (v_self : EitherSo), F] : List (Asn G)))), R.wp_mono (R.wp_bind hm) (fun r38 hm p39 H hS => ?_) (fun _ z => z)⟩
    have hS : Sep H ([imA p39 (r38 : Any), imA (.ref a32) (v_self.second : Cond), imA p24 (r23 : Any), imA (.ref a17) (v_self.first : Cond), imA (.ref p4) (r3 : (Str × Str)), imA (.ref a_v_self) (v_self : EitherSo), F] : List (Asn G)) := Sep.star (M := [imA p39 (r38 : Any)]) hS
    refine c_nil ?_
    refine k_tupA (vs := [(.str (r3.2)), p24, p39]) (xs := [(Any.str r3.2), r23, r38]) hS ⟨(any_str.mpr rfl), ⟨(hS.im (i := 2) rfl), ⟨(hS.im (i := 0) rfl), True.intro⟩⟩⟩ (by show 3 ≤ sizeLine; decide) fun p41 H hS => ?_
    exact hm _ _ (hS.sel [0, 7] (by decide) rfl)
theorem ok_Cond_tree (T : Txt G mg) : ∀ n : Nat, Dsp P w G.K mg base CX0 (3 + n) isC_Cond G.cl "tree" ["self"] (sp_Cond_tree G (m_Cond_tree n))
  | 0 => fun i hi => by
    have hi : i ∈ [1, 2, 3, 4, 5, 6, 7, 8, 9, 10, 11, 12] := by simpa [isC_Cond] using hi
    simp only [List.mem_cons, List.not_mem_nil, or_false] at hi
    rcases hi with rfl | rfl | rfl | rfl | rfl | rfl | rfl | rfl | rfl | rfl | rfl | rfl
    · exact ⟨T.a_Anything_tree, T.fd_Anything_tree, T.cl_Anything, T.m_Anything_tree, T.b_Anything_tree, fnOk_no fun vs H Q E h => by obtain ⟨a_v_self, v_self, F, _, him_v_self, _, _, hm⟩ := h; unfold m_Cond_tree at hm; exact hm⟩
    · exact ⟨T.a_OfWord_tree, T.fd_OfWord_tree, T.cl_HasWord, T.m_HasWord_tree, T.b_OfWord_tree, fnOk_no fun vs H Q E h => by obtain ⟨a_v_self, v_self, F, _, him_v_self, _, _, hm⟩ := h; unfold m_Cond_tree at hm; exact hm⟩
    · exact ⟨T.a_OfWord_tree, T.fd_OfWord_tree, T.cl_InTitle, T.m_InTitle_tree, T.b_OfWord_tree, fnOk_no fun vs H Q E h => by obtain ⟨a_v_self, v_self, F, _, him_v_self, _, _, hm⟩ := h; unfold m_Cond_tree at hm; exact hm⟩
    · exact ⟨T.a_OfWord_tree, T.fd_OfWord_tree, T.cl_FromSender, T.m_FromSender_tree, T.b_OfWord_tree, fnOk_no fun vs H Q E h => by obtain ⟨a_v_self, v_self, F, _, him_v_self, _, _, hm⟩ := h; unfold m_Cond_tree at hm; exact hm⟩
    · exact ⟨T.a_OfWord_tree, T.fd_OfWord_tree, T.cl_InFolder, T.m_InFolder_tree, T.b_OfWord_tree, fnOk_no fun vs H Q E h => by obtain ⟨a_v_self, v_self, F, _, him_v_self, _, _, hm⟩ := h; unfold m_Cond_tree at hm; exact hm⟩
    · exact ⟨T.a_OfWord_tree, T.fd_OfWord_tree, T.cl_IsMarked, T.m_IsMarked_tree, T.b_OfWord_tree, fnOk_no fun vs H Q E h => by obtain ⟨a_v_self, v_self, F, _, him_v_self, _, _, hm⟩ := h; unfold m_Cond_tree at hm; exact hm⟩
    · exact ⟨T.a_OnDays_tree, T.fd_OnDays_tree, T.cl_OnDays, T.m_OnDays_tree, T.b_OnDays_tree, fnOk_no fun vs H Q E h => by obtain ⟨a_v_self, v_self, F, _, him_v_self, _, _, hm⟩ := h; unfold m_Cond_tree at hm; exact hm⟩
    · exact ⟨T.a_IsAnswer_tree, T.fd_IsAnswer_tree, T.cl_IsAnswer, T.m_IsAnswer_tree, T.b_IsAnswer_tree, fnOk_no fun vs H Q E h => by obtain ⟨a_v_self, v_self, F, _, him_v_self, _, _, hm⟩ := h; unfold m_Cond_tree at hm; exact hm⟩
    · exact ⟨T.a_OfOne_tree, T.fd_OfOne_tree, T.cl_NotSo, T.m_NotSo_tree, T.b_OfOne_tree, fnOk_no fun vs H Q E h => by obtain ⟨a_v_self, v_self, F, _, him_v_self, _, _, hm⟩ := h; unfold m_Cond_tree at hm; exact hm⟩
    · exact ⟨T.a_OfOne_tree, T.fd_OfOne_tree, T.cl_InThread, T.m_InThread_tree, T.b_OfOne_tree, fnOk_no fun vs H Q E h => by obtain ⟨a_v_self, v_self, F, _, him_v_self, _, _, hm⟩ := h; unfold m_Cond_tree at hm; exact hm⟩
    · exact ⟨T.a_OfTwo_tree, T.fd_OfTwo_tree, T.cl_BothSo, T.m_BothSo_tree, T.b_OfTwo_tree, fnOk_no fun vs H Q E h => by obtain ⟨a_v_self, v_self, F, _, him_v_self, _, _, hm⟩ := h; unfold m_Cond_tree at hm; exact hm⟩
    · exact ⟨T.a_OfTwo_tree, T.fd_OfTwo_tree, T.cl_EitherSo, T.m_EitherSo_tree, T.b_OfTwo_tree, fnOk_no fun vs H Q E h => by obtain ⟨a_v_self, v_self, F, _, him_v_self, _, _, hm⟩ := h; unfold m_Cond_tree at hm; exact hm⟩
  | n + 1 => fun i hi => by
    have hi : i ∈ [1, 2, 3, 4, 5, 6, 7, 8, 9, 10, 11, 12] := by simpa [isC_Cond] using hi
    simp only [List.mem_cons, List.not_mem_nil, or_false] at hi
    rcases hi with rfl | rfl | rfl | rfl | rfl | rfl | rfl | rfl | rfl | rfl | rfl | rfl
    · refine ⟨T.a_Anything_tree, T.fd_Anything_tree, T.cl_Anything, T.m_Anything_tree, T.b_Anything_tree, (((ok_Anything_tree T).mono (Nat.le_add_right_of_le (by decide)))).imp fun vs H Q E h => ?_⟩
      obtain ⟨a_v_self, v_self, F, ev, him_v_self, hc, hS, hm⟩ := h
      cases v_self with
      | Anything => exact ⟨a_v_self, ⟨⟩, F, ev, (of_Anything him_v_self), hS, hm⟩
      | _ => simp [Cond.cls] at hc
    · refine ⟨T.a_OfWord_tree, T.fd_OfWord_tree, T.cl_HasWord, T.m_HasWord_tree, T.b_OfWord_tree, (((ok_OfWord_tree_HasWord T).mono (Nat.le_add_right_of_le (by decide)))).imp fun vs H Q E h => ?_⟩
      obtain ⟨a_v_self, v_self, F, ev, him_v_self, hc, hS, hm⟩ := h
      cases v_self with
      | HasWord word => exact ⟨a_v_self, ⟨word⟩, F, ev, (of_HasWord him_v_self), hS, hm⟩
      | _ => simp [Cond.cls] at hc
    · refine ⟨T.a_OfWord_tree, T.fd_OfWord_tree, T.cl_InTitle, T.m_InTitle_tree, T.b_OfWord_tree, (((ok_OfWord_tree_InTitle T).mono (Nat.le_add_right_of_le (by decide)))).imp fun vs H Q E h => ?_⟩
      obtain ⟨a_v_self, v_self, F, ev, him_v_self, hc, hS, hm⟩ := h
      cases v_self with
      | InTitle word => exact ⟨a_v_self, ⟨word⟩, F, ev, (of_InTitle him_v_self), hS, hm⟩
      | _ => simp [Cond.cls] at hc
    · refine ⟨T.a_OfWord_tree, T.fd_OfWord_tree, T.cl_FromSender, T.m_FromSender_tree, T.b_OfWord_tree, (((ok_OfWord_tree_FromSender T).mono (Nat.le_add_right_of_le (by decide)))).imp fun vs H Q E h => ?_⟩
      obtain ⟨a_v_self, v_self, F, ev, him_v_self, hc, hS, hm⟩ := h
      cases v_self with
      | FromSender word => exact ⟨a_v_self, ⟨word⟩, F, ev, (of_FromSender him_v_self), hS, hm⟩
      | _ => simp [Cond.cls] at hc
    · refine ⟨T.a_OfWord_tree, T.fd_OfWord_tree, T.cl_InFolder, T.m_InFolder_tree, T.b_OfWord_tree, (((ok_OfWord_tree_InFolder T).mono (Nat.le_add_right_of_le (by decide)))).imp fun vs H Q E h => ?_⟩
      obtain ⟨a_v_self, v_self, F, ev, him_v_self, hc, hS, hm⟩ := h
      cases v_self with
      | InFolder word => exact ⟨a_v_self, ⟨word⟩, F, ev, (of_InFolder him_v_self), hS, hm⟩
      | _ => simp [Cond.cls] at hc
    · refine ⟨T.a_OfWord_tree, T.fd_OfWord_tree, T.cl_IsMarked, T.m_IsMarked_tree, T.b_OfWord_tree, (((ok_OfWord_tree_IsMarked T).mono (Nat.le_add_right_of_le (by decide)))).imp fun vs H Q E h => ?_⟩
      obtain ⟨a_v_self, v_self, F, ev, him_v_self, hc, hS, hm⟩ := h
      cases v_self with
      | IsMarked word => exact ⟨a_v_self, ⟨word⟩, F, ev, (of_IsMarked him_v_self), hS, hm⟩
      | _ => simp [Cond.cls] at hc
    · refine ⟨T.a_OnDays_tree, T.fd_OnDays_tree, T.cl_OnDays, T.m_OnDays_tree, T.b_OnDays_tree, (((ok_OnDays_tree T).mono (Nat.le_add_right_of_le (by decide)))).imp fun vs H Q E h => ?_⟩
      obtain ⟨a_v_self, v_self, F, ev, him_v_self, hc, hS, hm⟩ := h
      cases v_self with
      | OnDays low high => exact ⟨a_v_self, ⟨low, high⟩, F, ev, (of_OnDays him_v_self), hS, hm⟩
      | _ => simp [Cond.cls] at hc
    · refine ⟨T.a_IsAnswer_tree, T.fd_IsAnswer_tree, T.cl_IsAnswer, T.m_IsAnswer_tree, T.b_IsAnswer_tree, (((ok_IsAnswer_tree T).mono (Nat.le_add_right_of_le (by decide)))).imp fun vs H Q E h => ?_⟩
      obtain ⟨a_v_self, v_self, F, ev, him_v_self, hc, hS, hm⟩ := h
      cases v_self with
      | IsAnswer => exact ⟨a_v_self, ⟨⟩, F, ev, (of_IsAnswer him_v_self), hS, hm⟩
      | _ => simp [Cond.cls] at hc
    · refine ⟨T.a_OfOne_tree, T.fd_OfOne_tree, T.cl_NotSo, T.m_NotSo_tree, T.b_OfOne_tree, ((ok_OfOne_tree_NotSo T (lv := 3 + n) (Nat.le_add_right_of_le (by decide)) (ok_Cond_tree T n))).imp fun vs H Q E h => ?_⟩
      obtain ⟨a_v_self, v_self, F, ev, him_v_self, hc, hS, hm⟩ := h
      cases v_self with
      | NotSo inner => exact ⟨a_v_self, ⟨inner⟩, F, ev, (of_NotSo him_v_self), hS, hm⟩
      | _ => simp [Cond.cls] at hc
    · refine ⟨T.a_OfOne_tree, T.fd_OfOne_tree, T.cl_InThread, T.m_InThread_tree, T.b_OfOne_tree, ((ok_OfOne_tree_InThread T (lv := 3 + n) (Nat.le_add_right_of_le (by decide)) (ok_Cond_tree T n))).imp fun vs H Q E h => ?_⟩
      obtain ⟨a_v_self, v_self, F, ev, him_v_self, hc, hS, hm⟩ := h
      cases v_self with
      | InThread inner => exact ⟨a_v_self, ⟨inner⟩, F, ev, (of_InThread him_v_self), hS, hm⟩
      | _ => simp [Cond.cls] at hc
    · refine ⟨T.a_OfTwo_tree, T.fd_OfTwo_tree, T.cl_BothSo, T.m_BothSo_tree, T.b_OfTwo_tree, ((ok_OfTwo_tree_BothSo T (lv := 3 + n) (Nat.le_add_right_of_le (by decide)) (ok_Cond_tree T n))).imp fun vs H Q E h => ?_⟩
      obtain ⟨a_v_self, v_self, F, ev, him_v_self, hc, hS, hm⟩ := h
      cases v_self with
      | BothSo first second => exact ⟨a_v_self, ⟨first, second⟩, F, ev, (of_BothSo him_v_self), hS, hm⟩
      | _ => simp [Cond.cls] at hc
    · refine ⟨T.a_OfTwo_tree, T.fd_OfTwo_tree, T.cl_EitherSo, T.m_EitherSo_tree, T.b_OfTwo_tree, ((ok_OfTwo_tree_EitherSo T (lv := 3 + n) (Nat.le_add_right_of_le (by decide)) (ok_Cond_tree T n))).imp fun vs H Q E h => ?_⟩
      obtain ⟨a_v_self, v_self, F, ev, him_v_self, hc, hS, hm⟩ := h
      cases v_self with
      | EitherSo first second => exact ⟨a_v_self, ⟨first, second⟩, F, ev, (of_EitherSo him_v_self), hS, hm⟩
      | _ => simp [Cond.cls] at hc
abbrev N_one_at : List Str := ["tokens", "at", "room", "sign", "found", "pair"]
theorem sc_one_at : FnScope N_one_at ["tokens", "at", "room"] (defScope s_one_at) := ⟨rfl, rfl, rfl, by decide +kernel, rfl, by decide +kernel, by decide +kernel⟩
theorem ok_one_at_b (T : Txt G mg) {lv : Nat} (hl : 3 ≤ lv) {m_one_at : (List Str) → Int → Int → R (Cond × Int)} (R_one_at : FnOk P w G.K mg base CX0 lv T.a_one_at T.fd_one_at ["tokens", "at", "room"] (sp_one_at G m_one_at)) : FnOk P w G.K mg base CX0 (lv + 3) T.a_one_at T.fd_one_at ["tokens", "at", "room"] (sp_one_at G (m_one_at_b m_one_at)) := by
  have nd := sc_one_at.nd
  refine Fun.ok T.F_one_at sc_one_at (fun vs H Q E h => ?_) (fun cdv A outer s H vs Q E hr h => ?_)
  · obtain ⟨a_v_tokens, v_tokens, v_at, v_room, F, rfl, _⟩ := h; rfl
  · obtain ⟨a_v_tokens, v_tokens, v_at, v_room, F, rfl, hS, hm⟩ := h
    refine ⟨_, (pss_cons (ps_set (i := 3) nd rfl (Or.inl rfl) (pe_call (ok_token_at T) (hr.mono (by omega)) rfl T.g_token_at T.kp_token_at T.b_token_at .nil pass0 (pa_cons (pe_fz (pv 0)) (pa_cons (pv 1) pa_nil))))
      (pss_cons (ps_if (pt_cmpR op_eq (pv 3) pe_str (nomark _)) (pss_one (ps_ret (pe_tup (pa_cons (pe_makeO T.ko_Anything rfl T.g_Anything) (pa_cons (pe_op op_add (pv 1) pe_int) pa_nil))))) pss_nil)
      (pss_cons (ps_if (pt_cmpR op_eq (pv 3) pe_str (nomark _)) (pss_one (ps_ret (pe_tup (pa_cons (pe_makeO T.ko_IsAnswer rfl T.g_IsAnswer) (pa_cons (pe_op op_add (pv 1) pe_int) pa_nil))))) pss_nil)
      (pss_cons (ps_if (pt_cmpR (inSqK G.K) (pv 3) (pe_tup (pa_cons pe_str (pa_cons pe_str (pa_cons pe_str pa_nil)))) (by rfl)) (pss_one (ps_ret (pe_call (ok_days_at T) (hr.mono (by omega)) rfl T.g_days_at T.kp_days_at T.b_days_at .nil pass0 (pa_cons (pe_fz (pv 0)) (pa_cons (pv 1) pa_nil))))) pss_nil)
      (pss_cons (ps_if (pt_cmpR (niSqK G.K) (pv 3) (pe_tup (pa_cons pe_str (pa_cons pe_str (pa_cons pe_str pa_nil)))) (by rfl)) (pss_cons (ps_set (i := 4) nd rfl (Or.inl rfl) (pe_call (ok_of_word T) (hr.mono (by omega)) rfl T.g_of_word T.kp_of_word T.b_of_word .nil pass0 (pa_cons (pv 3) (pa_cons (pe_call (ok_token_at T) (hr.mono (by omega)) rfl T.g_token_at T.kp_token_at T.b_token_at .nil pass0 (pa_cons (pe_fz (pv 0)) (pa_cons (pe_op op_add (pv 1) pe_int) pa_nil))) pa_nil))))
      (pss_cons (ps_if (pt_cmp (pc_isN (pv 4))) (pss_one ps_no) pss_nil)
      (pss_cons (ps_expr (pe_call (ok_word_at T) (hr.mono (by omega)) rfl T.g_word_at T.kp_word_at T.b_word_at .nil pass0 (pa_cons (pe_fz (pv 0)) (pa_cons (pe_op op_add (pv 1) pe_int) pa_nil))))
      (pss_one (ps_ret (pe_tup (pa_cons (pv 4) (pa_cons (pe_op op_add (pv 1) pe_int) pa_nil)))))))) pss_nil)
      (pss_cons (ps_if (pt_cmpR op_eq (pv 2) pe_int (nomark _)) (pss_one ps_no) pss_nil)
      (pss_cons (ps_if (pt_cmpR op_eq (pv 3) pe_str (nomark _)) (pss_cons (ps_set (i := 5) nd rfl (Or.inl rfl) (pe_call (ok_either_at T (Nat.le_trans (by decide) hl) R_one_at) (hr.mono (by omega)) rfl T.g_either_at T.kp_either_at T.b_either_at .nil pass0 (pa_cons (pe_fz (pv 0)) (pa_cons (pe_op op_add (pv 1) pe_int) (pa_cons (pe_op op_sub (pv 2) pe_int) pa_nil)))))
      (pss_cons (ps_if (pt_cmpR op_ne (pe_call (ok_token_at T) (hr.mono (by omega)) rfl T.g_token_at T.kp_token_at T.b_token_at .nil pass0 (pa_cons (pe_fz (pv 0)) (pa_cons (pe_ix (ix_tupK G.K) (pv 5) pe_int (fun _ _ => rfl)) pa_nil))) pe_str (nomark _)) (pss_one ps_no) pss_nil)
      (pss_one (ps_ret (pe_tup (pa_cons (pe_ix (ix_tupK G.K) (pv 5) pe_int (fun _ _ => rfl)) (pa_cons (pe_op op_add (pe_ix (ix_tupK G.K) (pv 5) pe_int (fun _ _ => rfl)) pe_int) pa_nil))))))) pss_nil)
      (pss_cons (ps_set (i := 5) nd rfl (Or.inl rfl) (pe_call R_one_at (hr.mono (by omega)) rfl T.g_one_at T.kp_one_at T.b_one_at .nil pass0 (pa_cons (pe_fz (pv 0)) (pa_cons (pe_op op_add (pv 1) pe_int) (pa_cons (pe_op op_sub (pv 2) pe_int) pa_nil)))))
      (pss_cons (ps_if (pt_cmpR op_eq (pv 3) pe_str (nomark _)) (pss_one (ps_ret (pe_tup (pa_cons (pe_make T.k_NotSo (ok_OfOne___init___NotSo T) (hr.mono (by omega)) rfl T.g_NotSo T.b_OfOne___init__ .nil pass0 (pa_cons (pe_ix (ix_tupK G.K) (pv 5) pe_int (fun _ _ => rfl)) pa_nil)) (pa_cons (pe_ix (ix_tupK G.K) (pv 5) pe_int (fun _ _ => rfl)) pa_nil))))) pss_nil)
      (pss_one (ps_ret (pe_tup (pa_cons (pe_make T.k_InThread (ok_OfOne___init___InThread T) (hr.mono (by omega)) rfl T.g_InThread T.b_OfOne___init__ .nil pass0 (pa_cons (pe_ix (ix_tupK G.K) (pv 5) pe_int (fun _ _ => rfl)) pa_nil)) (pa_cons (pe_ix (ix_tupK G.K) (pv 5) pe_int (fun _ _ => rfl)) pa_nil)))))))))))))), ?_⟩
    unfold m_one_at_b at hm
    refine f_seq ?_
    refine c_asg ?_
    refine c_call ?_
    refine ea_to (ea_cons (ev_fz (ev_var rfl)) (ea_cons (ev_var rfl) ea_nil)) ?_
    refine ⟨a_v_tokens, (v_tokens : (List Str)), v_at, star [F], rfl, Sep.unstar (M := [lstA a_v_tokens (v_tokens : (List Str))]) (hS.sel [0, 1] (by decide) rfl : Sep H (([lstA a_v_tokens (v_tokens : (List Str))] ++ [F] : List (Asn G)))), R.wp_mono (R.wp_bind hm) (fun r1 hm H hS => ?_) (fun _ z => z)⟩
    have hS : Sep H ([lstA a_v_tokens (v_tokens : (List Str)), F] : List (Asn G)) := Sep.star (M := [lstA a_v_tokens (v_tokens : (List Str))]) hS
    refine c_set (σ' := [some (.ref a_v_tokens), some (.int (v_at)), some (.int (v_room)), some (.str (r1)), none, none]) rfl ?_
    refine sq_nx ?_
    refine f_seq ?_
    refine f_if ?_
    refine et_to (et_test (ev_eqS (ev_var rfl) ev_c)) ?_
    refine ifK_2 (fun hb2 => ?_) (fun hb2 => ?_)
    · have hm := R.wp_ifY hm hb2
      refine c_ret ?_
      refine c_tup ?_
      refine c_cons ?_
      refine c_makeO ?_
      intro p3 d4 np nd ne
      have hS := hS.newI0 (C := G.cl 1) np nd ne T.fz_Anything
      have hS := hS.1.addIm (v := .ref p3) (x := (⟨⟩ : Anything)) ⟨_, _, rfl, T.fz_Anything, hS.2⟩
      have hS : Sep _ ([imA (.ref p3) ((⟨⟩ : Anything) : Anything), lstA a_v_tokens (v_tokens : (List Str)), F] : List (Asn G)) := hS
      refine c_cons ?_
      refine ev_to (ev_add (ev_var rfl) ev_c) ?_
      refine c_nil ?_
      refine k_tupP (x := (((Cond.Anything), v_at + 1) : (Cond × Int))) hS (fun H' p h s => mk2 (to_Anything (hS.im (i := 0) rfl)) rfl h s) (by show 2 ≤ sizeLine; decide) fun p6 H hS => ?_
      exact hm _ _ (hS.sel [0, 2, 3] (by decide) rfl)
    · have hm := R.wp_ifN hm (by first | (rw [hb2]; decide) | simpa using hb2)
      refine st_nx ?_
      refine sq_nx ?_
      refine f_seq ?_
      refine f_if ?_
      refine et_to (et_test (ev_eqS (ev_var rfl) ev_c)) ?_
      refine ifK_2 (fun hb8 => ?_) (fun hb8 => ?_)
      · have hm := R.wp_ifY hm hb8
        refine c_ret ?_
        refine c_tup ?_
        refine c_cons ?_
        refine c_makeO ?_
        intro p9 d10 np nd ne
        have hS := hS.newI0 (C := G.cl 8) np nd ne T.fz_IsAnswer
        have hS := hS.1.addIm (v := .ref p9) (x := (⟨⟩ : IsAnswer)) ⟨_, _, rfl, T.fz_IsAnswer, hS.2⟩
        have hS : Sep _ ([imA (.ref p9) ((⟨⟩ : IsAnswer) : IsAnswer), lstA a_v_tokens (v_tokens : (List Str)), F] : List (Asn G)) := hS
        refine c_cons ?_
        refine ev_to (ev_add (ev_var rfl) ev_c) ?_
        refine c_nil ?_
        refine k_tupP (x := (((Cond.IsAnswer), v_at + 1) : (Cond × Int))) hS (fun H' p h s => mk2 (to_IsAnswer (hS.im (i := 0) rfl)) rfl h s) (by show 2 ≤ sizeLine; decide) fun p12 H hS => ?_
        exact hm _ _ (hS.sel [0, 2, 3] (by decide) rfl)
      · have hm := R.wp_ifN hm (by first | (rw [hb8]; decide) | simpa using hb8)
        refine st_nx ?_
        refine sq_nx ?_
        refine f_seq ?_
        refine f_if ?_
        refine f_test ?_
        refine c_op ?_
        refine ev_to (ev_var rfl) ?_
        refine c_tup ?_
        refine ea_to (ea_cons ev_c (ea_cons ev_c (ea_cons ev_c ea_nil))) ?_
        refine k_tupP (x := ((⟨("day" : Str), ("before" : Str), ("after" : Str)⟩ : T3 _ _ _) : (T3 Str Str Str))) hS (fun H' p h s => mk3 rfl rfl rfl h s) (by show 3 ≤ sizeLine; decide) fun p14 H hS => ?_
        obtain ⟨u16, u17, u18, hT22, h19, h20, h21⟩ := im3 (hS.im (i := 0) rfl)
        obtain rfl : u16 = (.str ((⟨("day" : Str), ("before" : Str), ("after" : Str)⟩ : T3 _ _ _).a)) := h19
        obtain rfl : u17 = (.str ((⟨("day" : Str), ("before" : Str), ("after" : Str)⟩ : T3 _ _ _).b)) := h20
        obtain rfl : u18 = (.str ((⟨("day" : Str), ("before" : Str), ("after" : Str)⟩ : T3 _ _ _).c)) := h21
        refine ev_op2 (ev_inTs (ss := [(⟨("day" : Str), ("before" : Str), ("after" : Str)⟩ : T3 _ _ _).a, (⟨("day" : Str), ("before" : Str), ("after" : Str)⟩ : T3 _ _ _).b, (⟨("day" : Str), ("before" : Str), ("after" : Str)⟩ : T3 _ _ _).c]) (SqT.of hT22) ev_c ev_c) ?_
        refine f_bl ?_
        refine ifK_2 (fun hb23 => ?_) (fun hb23 => ?_)
        · have hm := R.wp_ifY hm hb23
          refine c_ret ?_
          refine c_call ?_
          refine ea_to (ea_cons (ev_fz (ev_var rfl)) (ea_cons (ev_var rfl) ea_nil)) ?_
          refine ⟨a_v_tokens, (v_tokens : (List Str)), v_at, star [imA (.ref p14) ((⟨("day" : Str), ("before" : Str), ("after" : Str)⟩ : T3 _ _ _) : (T3 Str Str Str)), F], rfl, Sep.unstar (M := [lstA a_v_tokens (v_tokens : (List Str))]) (hS.sel [1, 0, 2] (by decide) rfl : Sep H (([lstA a_v_tokens (v_tokens : (List Str))] ++ [imA (.ref p14) ((⟨("day" : Str), ("before" : Str), ("after" : Str)⟩ : T3 _ _ _) : (T3 Str Str Str)), F] : List (Asn G)))), R.wp_mono (R.wp_bind hm) (fun r24 hm p25 H hS => ?_) (fun _ z => z)⟩
          have hS : Sep H ([imA (.ref p25) (r24 : (Cond × Int)), lstA a_v_tokens (v_tokens : (List Str)), imA (.ref p14) ((⟨("day" : Str), ("before" : Str), ("after" : Str)⟩ : T3 _ _ _) : (T3 Str Str Str)), F] : List (Asn G)) := Sep.star (M := [imA (.ref p25) (r24 : (Cond × Int)), lstA a_v_tokens (v_tokens : (List Str))]) hS
          exact hm _ _ (hS.sel [0, 1, 3] (by decide) rfl)
        · have hm := R.wp_ifN hm (by first | (rw [hb23]; decide) | simpa using hb23)
          refine st_nx ?_
          refine sq_nx ?_
          refine f_seq ?_
          refine f_if ?_
          refine f_test ?_
          refine c_op ?_
          refine ev_to (ev_var rfl) ?_
          refine c_tup ?_
          refine ea_to (ea_cons ev_c (ea_cons ev_c (ea_cons ev_c ea_nil))) ?_
          refine k_tupP (x := ((⟨("(" : Str), ("not" : Str), ("thread" : Str)⟩ : T3 _ _ _) : (T3 Str Str Str))) hS (fun H' p h s => mk3 rfl rfl rfl h s) (by show 3 ≤ sizeLine; decide) fun p27 H hS => ?_
          obtain ⟨u29, u30, u31, hT35, h32, h33, h34⟩ := im3 (hS.im (i := 0) rfl)
          obtain rfl : u29 = (.str ((⟨("(" : Str), ("not" : Str), ("thread" : Str)⟩ : T3 _ _ _).a)) := h32
          obtain rfl : u30 = (.str ((⟨("(" : Str), ("not" : Str), ("thread" : Str)⟩ : T3 _ _ _).b)) := h33
          obtain rfl : u31 = (.str ((⟨("(" : Str), ("not" : Str), ("thread" : Str)⟩ : T3 _ _ _).c)) := h34
          refine ev_op2 (ev_niTs (ss := [(⟨("(" : Str), ("not" : Str), ("thread" : Str)⟩ : T3 _ _ _).a, (⟨("(" : Str), ("not" : Str), ("thread" : Str)⟩ : T3 _ _ _).b, (⟨("(" : Str), ("not" : Str), ("thread" : Str)⟩ : T3 _ _ _).c]) (SqT.of hT35) ev_c ev_c) ?_
          refine f_bl ?_
          refine ifK_2 (fun hb36 => ?_) (fun hb36 => ?_)
          · have hm := R.wp_ifY hm hb36
            refine f_seq ?_
            refine c_asg ?_
            refine c_call ?_
            refine c_cons ?_
            refine ev_to (ev_var rfl) ?_
            refine c_cons ?_
            refine c_call ?_
            refine ea_to (ea_cons (ev_fz (ev_var rfl)) (ea_cons (ev_add (ev_var rfl) ev_c) ea_nil)) ?_
            refine ⟨a_v_tokens, (v_tokens : (List Str)), (v_at + 1), star [imA (.ref p27) ((⟨("(" : Str), ("not" : Str), ("thread" : Str)⟩ : T3 _ _ _) : (T3 Str Str Str)), imA (.ref p14) ((⟨("day" : Str), ("before" : Str), ("after" : Str)⟩ : T3 _ _ _) : (T3 Str Str Str)), F], rfl, Sep.unstar (M := [lstA a_v_tokens (v_tokens : (List Str))]) (hS.sel [2, 0, 1, 3] (by decide) rfl : Sep H (([lstA a_v_tokens (v_tokens : (List Str))] ++ [imA (.ref p27) ((⟨("(" : Str), ("not" : Str), ("thread" : Str)⟩ : T3 _ _ _) : (T3 Str Str Str)), imA (.ref p14) ((⟨("day" : Str), ("before" : Str), ("after" : Str)⟩ : T3 _ _ _) : (T3 Str Str Str)), F] : List (Asn G)))), R.wp_mono (R.wp_bind hm) (fun r37 hm H hS => ?_) (fun _ z => z)⟩
            have hS : Sep H ([lstA a_v_tokens (v_tokens : (List Str)), imA (.ref p27) ((⟨("(" : Str), ("not" : Str), ("thread" : Str)⟩ : T3 _ _ _) : (T3 Str Str Str)), imA (.ref p14) ((⟨("day" : Str), ("before" : Str), ("after" : Str)⟩ : T3 _ _ _) : (T3 Str Str Str)), F] : List (Asn G)) := Sep.star (M := [lstA a_v_tokens (v_tokens : (List Str))]) hS
            refine c_nil ?_
            refine ⟨r1, r37, star [lstA a_v_tokens (v_tokens : (List Str)), imA (.ref p27) ((⟨("(" : Str), ("not" : Str), ("thread" : Str)⟩ : T3 _ _ _) : (T3 Str Str Str)), imA (.ref p14) ((⟨("day" : Str), ("before" : Str), ("after" : Str)⟩ : T3 _ _ _) : (T3 Str Str Str)), F], rfl, Sep.unstar (M := []) (hS.sel [0, 1, 2, 3] (by decide) rfl : Sep H (([] ++ [lstA a_v_tokens (v_tokens : (List Str)), imA (.ref p27) ((⟨("(" : Str), ("not" : Str), ("thread" : Str)⟩ : T3 _ _ _) : (T3 Str Str Str)), imA (.ref p14) ((⟨("day" : Str), ("before" : Str), ("after" : Str)⟩ : T3 _ _ _) : (T3 Str Str Str)), F] : List (Asn G)))), R.wp_mono (R.wp_bind hm) (fun r38 hm p39 H hS => ?_) (fun _ z => z)⟩
            have hS : Sep H ([imA (.ref p39) (r38 : Cond), lstA a_v_tokens (v_tokens : (List Str)), imA (.ref p27) ((⟨("(" : Str), ("not" : Str), ("thread" : Str)⟩ : T3 _ _ _) : (T3 Str Str Str)), imA (.ref p14) ((⟨("day" : Str), ("before" : Str), ("after" : Str)⟩ : T3 _ _ _) : (T3 Str Str Str)), F] : List (Asn G)) := Sep.star (M := [imA (.ref p39) (r38 : Cond)]) hS
            refine c_set (σ' := [some (.ref a_v_tokens), some (.int (v_at)), some (.int (v_room)), some (.str (r1)), some (.ref p39), none]) rfl ?_
            refine sq_nx ?_
            refine f_seq ?_
            refine f_if ?_
            refine et_to (et_B (ev_isNr (ev_var rfl))) ?_
            refine ifK_f ?_
            refine st_nx ?_
            refine sq_nx ?_
            refine f_seq ?_
            refine c_drop ?_
            refine c_call ?_
            refine ea_to (ea_cons (ev_fz (ev_var rfl)) (ea_cons (ev_add (ev_var rfl) ev_c) ea_nil)) ?_
            refine ⟨a_v_tokens, (v_tokens : (List Str)), (v_at + 1), star [imA (.ref p39) (r38 : Cond), imA (.ref p27) ((⟨("(" : Str), ("not" : Str), ("thread" : Str)⟩ : T3 _ _ _) : (T3 Str Str Str)), imA (.ref p14) ((⟨("day" : Str), ("before" : Str), ("after" : Str)⟩ : T3 _ _ _) : (T3 Str Str Str)), F], rfl, Sep.unstar (M := [lstA a_v_tokens (v_tokens : (List Str))]) (hS.sel [1, 0, 2, 3, 4] (by decide) rfl : Sep H (([lstA a_v_tokens (v_tokens : (List Str))] ++ [imA (.ref p39) (r38 : Cond), imA (.ref p27) ((⟨("(" : Str), ("not" : Str), ("thread" : Str)⟩ : T3 _ _ _) : (T3 Str Str Str)), imA (.ref p14) ((⟨("day" : Str), ("before" : Str), ("after" : Str)⟩ : T3 _ _ _) : (T3 Str Str Str)), F] : List (Asn G)))), R.wp_mono (R.wp_bind hm) (fun r41 hm H hS => ?_) (fun _ z => z)⟩
            have hS : Sep H ([lstA a_v_tokens (v_tokens : (List Str)), imA (.ref p39) (r38 : Cond), imA (.ref p27) ((⟨("(" : Str), ("not" : Str), ("thread" : Str)⟩ : T3 _ _ _) : (T3 Str Str Str)), imA (.ref p14) ((⟨("day" : Str), ("before" : Str), ("after" : Str)⟩ : T3 _ _ _) : (T3 Str Str Str)), F] : List (Asn G)) := Sep.star (M := [lstA a_v_tokens (v_tokens : (List Str))]) hS
            refine sq_nx ?_
            refine c_ret ?_
            refine c_tup ?_
            refine ea_to (ea_cons (ev_var rfl) (ea_cons (ev_add (ev_var rfl) ev_c) ea_nil)) ?_
            refine k_tupP (x := ((r38, v_at + 2) : (Cond × Int))) hS (fun H' p h s => mk2 (hS.im (i := 1) rfl) rfl h s) (by show 2 ≤ sizeLine; decide) fun p42 H hS => ?_
            exact hm _ _ (hS.sel [0, 1, 5] (by decide) rfl)
          · have hm := R.wp_ifN hm (by first | (rw [hb36]; decide) | simpa using hb36)
            refine st_nx ?_
            refine sq_nx ?_
            refine f_seq ?_
            refine f_if ?_
            refine et_to (et_test (ev_eqI (ev_var rfl) ev_c)) ?_
            refine ifK_2 (fun hb44 => ?_) (fun hb44 => ?_)
            · have hm := R.wp_ifY hm hb44
              exact (show False from hm).elim
            · have hm := R.wp_ifN hm (by first | (rw [hb44]; decide) | simpa using hb44)
              refine st_nx ?_
              refine sq_nx ?_
              refine f_seq ?_
              refine f_if ?_
              refine et_to (et_test (ev_eqS (ev_var rfl) ev_c)) ?_
              refine ifK_2 (fun hb45 => ?_) (fun hb45 => ?_)
              · have hm := R.wp_ifY hm hb45
                refine f_seq ?_
                refine c_asg ?_
                refine c_call ?_
                refine ea_to (ea_cons (ev_fz (ev_var rfl)) (ea_cons (ev_add (ev_var rfl) ev_c) (ea_cons (ev_sub (ev_var rfl) ev_c) ea_nil))) ?_
                refine ⟨a_v_tokens, (v_tokens : (List Str)), (v_at + 1), (v_room - 1), star [imA (.ref p27) ((⟨("(" : Str), ("not" : Str), ("thread" : Str)⟩ : T3 _ _ _) : (T3 Str Str Str)), imA (.ref p14) ((⟨("day" : Str), ("before" : Str), ("after" : Str)⟩ : T3 _ _ _) : (T3 Str Str Str)), F], rfl, Sep.unstar (M := [lstA a_v_tokens (v_tokens : (List Str))]) (hS.sel [2, 0, 1, 3] (by decide) rfl : Sep H (([lstA a_v_tokens (v_tokens : (List Str))] ++ [imA (.ref p27) ((⟨("(" : Str), ("not" : Str), ("thread" : Str)⟩ : T3 _ _ _) : (T3 Str Str Str)), imA (.ref p14) ((⟨("day" : Str), ("before" : Str), ("after" : Str)⟩ : T3 _ _ _) : (T3 Str Str Str)), F] : List (Asn G)))), R.wp_mono (R.wp_bind hm) (fun r46 hm p47 H hS => ?_) (fun _ z => z)⟩
                have hS : Sep H ([imA (.ref p47) (r46 : (Cond × Int)), lstA a_v_tokens (v_tokens : (List Str)), imA (.ref p27) ((⟨("(" : Str), ("not" : Str), ("thread" : Str)⟩ : T3 _ _ _) : (T3 Str Str Str)), imA (.ref p14) ((⟨("day" : Str), ("before" : Str), ("after" : Str)⟩ : T3 _ _ _) : (T3 Str Str Str)), F] : List (Asn G)) := Sep.star (M := [imA (.ref p47) (r46 : (Cond × Int)), lstA a_v_tokens (v_tokens : (List Str))]) hS
                refine c_set (σ' := [some (.ref a_v_tokens), some (.int (v_at)), some (.int (v_room)), some (.str (r1)), none, some (.ref p47)]) rfl ?_
                refine sq_nx ?_
                refine f_seq ?_
                refine f_if ?_
                refine f_test ?_
                refine c_op ?_
                refine c_call ?_
                obtain ⟨u49, u50, hT53, h51, h52⟩ := im2 (hS.im (i := 0) rfl)
                obtain ⟨a54, rfl⟩ := isref h51
                obtain rfl : u50 = (.int (r46.2)) := h52
                refine ea_to (ea_cons (ev_fz (ev_var rfl)) (ea_cons (ev_ixT (ev_var rfl) ev_c hT53 rfl) ea_nil)) ?_
                refine ⟨a_v_tokens, (v_tokens : (List Str)), r46.2, star [imA (.ref p47) (r46 : (Cond × Int)), imA (.ref p27) ((⟨("(" : Str), ("not" : Str), ("thread" : Str)⟩ : T3 _ _ _) : (T3 Str Str Str)), imA (.ref p14) ((⟨("day" : Str), ("before" : Str), ("after" : Str)⟩ : T3 _ _ _) : (T3 Str Str Str)), F], rfl, Sep.unstar (M := [lstA a_v_tokens (v_tokens : (List Str))]) (hS.sel [1, 0, 2, 3, 4] (by decide) rfl : Sep H (([lstA a_v_tokens (v_tokens : (List Str))] ++ [imA (.ref p47) (r46 : (Cond × Int)), imA (.ref p27) ((⟨("(" : Str), ("not" : Str), ("thread" : Str)⟩ : T3 _ _ _) : (T3 Str Str Str)), imA (.ref p14) ((⟨("day" : Str), ("before" : Str), ("after" : Str)⟩ : T3 _ _ _) : (T3 Str Str Str)), F] : List (Asn G)))), R.wp_mono (R.wp_bind hm) (fun r55 hm H hS => ?_) (fun _ z => z)⟩
                have hS : Sep H ([lstA a_v_tokens (v_tokens : (List Str)), imA (.ref p47) (r46 : (Cond × Int)), imA (.ref p27) ((⟨("(" : Str), ("not" : Str), ("thread" : Str)⟩ : T3 _ _ _) : (T3 Str Str Str)), imA (.ref p14) ((⟨("day" : Str), ("before" : Str), ("after" : Str)⟩ : T3 _ _ _) : (T3 Str Str Str)), F] : List (Asn G)) := Sep.star (M := [lstA a_v_tokens (v_tokens : (List Str))]) hS
                refine ev_to ev_c ?_
                refine ev_op2 (ev_neS ev_c ev_c) ?_
                refine f_bl ?_
                refine ifK_2 (fun hb56 => ?_) (fun hb56 => ?_)
                · have hm := R.wp_ifY hm hb56
                  exact (show False from hm).elim
                · have hm := R.wp_ifN hm (by first | (rw [hb56]; decide) | simpa using hb56)
                  refine st_nx ?_
                  refine sq_nx ?_
                  refine c_ret ?_
                  refine c_tup ?_
                  obtain ⟨u57, u58, hT61, h59, h60⟩ := im2 (hS.im (i := 1) rfl)
                  obtain ⟨a62, rfl⟩ := isref h59
                  obtain rfl : u58 = (.int (r46.2)) := h60
                  obtain ⟨u63, u64, hT67, h65, h66⟩ := im2 (hS.im (i := 1) rfl)
                  obtain ⟨a68, rfl⟩ := isref h65
                  obtain rfl : u64 = (.int (r46.2)) := h66
                  refine ea_to (ea_cons (ev_ixT (ev_var rfl) ev_c hT61 rfl) (ea_cons (ev_add (ev_ixT (ev_var rfl) ev_c hT67 rfl) ev_c) ea_nil)) ?_
                  have hS := hS.addIm (v := (.ref a62)) (x := (r46.1 : Cond)) h59
                  refine k_tupP (x := ((r46.1, r46.2 + 1) : (Cond × Int))) hS (fun H' p h s => mk2 (hS.im (i := 0) rfl) rfl h s) (by show 2 ≤ sizeLine; decide) fun p70 H hS => ?_
                  exact hm _ _ (hS.sel [0, 2, 6] (by decide) rfl)
              · have hm := R.wp_ifN hm (by first | (rw [hb45]; decide) | simpa using hb45)
                refine st_nx ?_
                refine sq_nx ?_
                refine f_seq ?_
                refine c_asg ?_
                refine c_call ?_
                refine ea_to (ea_cons (ev_fz (ev_var rfl)) (ea_cons (ev_add (ev_var rfl) ev_c) (ea_cons (ev_sub (ev_var rfl) ev_c) ea_nil))) ?_
                refine ⟨a_v_tokens, (v_tokens : (List Str)), (v_at + 1), (v_room - 1), star [imA (.ref p27) ((⟨("(" : Str), ("not" : Str), ("thread" : Str)⟩ : T3 _ _ _) : (T3 Str Str Str)), imA (.ref p14) ((⟨("day" : Str), ("before" : Str), ("after" : Str)⟩ : T3 _ _ _) : (T3 Str Str Str)), F], rfl, Sep.unstar (M := [lstA a_v_tokens (v_tokens : (List Str))]) (hS.sel [2, 0, 1, 3] (by decide) rfl : Sep H (([lstA a_v_tokens (v_tokens : (List Str))] ++ [imA (.ref p27) ((⟨("(" : Str), ("not" : Str), ("thread" : Str)⟩ : T3 _ _ _) : (T3 Str Str Str)), imA (.ref p14) ((⟨("day" : Str), ("before" : Str), ("after" : Str)⟩ : T3 _ _ _) : (T3 Str Str Str)), F] : List (Asn G)))), R.wp_mono (R.wp_bind hm) (fun r72 hm p73 H hS => ?_) (fun _ z => z)⟩
                have hS : Sep H ([imA (.ref p73) (r72 : (Cond × Int)), lstA a_v_tokens (v_tokens : (List Str)), imA (.ref p27) ((⟨("(" : Str), ("not" : Str), ("thread" : Str)⟩ : T3 _ _ _) : (T3 Str Str Str)), imA (.ref p14) ((⟨("day" : Str), ("before" : Str), ("after" : Str)⟩ : T3 _ _ _) : (T3 Str Str Str)), F] : List (Asn G)) := Sep.star (M := [imA (.ref p73) (r72 : (Cond × Int)), lstA a_v_tokens (v_tokens : (List Str))]) hS
                refine c_set (σ' := [some (.ref a_v_tokens), some (.int (v_at)), some (.int (v_room)), some (.str (r1)), none, some (.ref p73)]) rfl ?_
                refine sq_nx ?_
                refine f_seq ?_
                refine f_if ?_
                refine et_to (et_test (ev_eqS (ev_var rfl) ev_c)) ?_
                refine ifK_2 (fun hb75 => ?_) (fun hb75 => ?_)
                · have hm := R.wp_ifY hm hb75
                  refine c_ret ?_
                  refine c_tup ?_
                  refine c_cons ?_
                  refine c_make ?_
                  obtain ⟨u76, u77, hT80, h78, h79⟩ := im2 (hS.im (i := 0) rfl)
                  obtain ⟨a81, rfl⟩ := isref h78
                  obtain rfl : u77 = (.int (r72.2)) := h79
                  refine ea_to (ea_cons (ev_ixT (ev_var rfl) ev_c hT80 rfl) ea_nil) ?_
                  have hS := hS.addIm (v := (.ref a81)) (x := (r72.1 : Cond)) h78
                  intro p83 d84 np nd ne
                  have hS := hS.newI (C := G.cl 9) np nd ne (by rw [T.fz_NotSo]; decide)
                  refine ⟨p83, d84, a81, (r72.1 : Cond), star [imA (.ref a81) (r72.1 : Cond), imA (.ref p73) (r72 : (Cond × Int)), lstA a_v_tokens (v_tokens : (List Str)), imA (.ref p27) ((⟨("(" : Str), ("not" : Str), ("thread" : Str)⟩ : T3 _ _ _) : (T3 Str Str Str)), imA (.ref p14) ((⟨("day" : Str), ("before" : Str), ("after" : Str)⟩ : T3 _ _ _) : (T3 Str Str Str)), F], rfl, (hS.im (i := 1) rfl), Sep.unstar (M := [cell p83 (.ins (G.cl 9) d84 [])]) (hS.sel [0, 1, 2, 3, 4, 5, 6] (by decide) rfl : Sep _ (([cell p83 (.ins (G.cl 9) d84 [])] ++ [imA (.ref a81) (r72.1 : Cond), imA (.ref p73) (r72 : (Cond × Int)), lstA a_v_tokens (v_tokens : (List Str)), imA (.ref p27) ((⟨("(" : Str), ("not" : Str), ("thread" : Str)⟩ : T3 _ _ _) : (T3 Str Str Str)), imA (.ref p14) ((⟨("day" : Str), ("before" : Str), ("after" : Str)⟩ : T3 _ _ _) : (T3 Str Str Str)), F] : List (Asn G)))), R.wp_mono (R.wp_bind hm) (fun r85 hm H hS => ⟨rfl, ?_⟩) (fun _ z => z)⟩
                  have hS : Sep H ([imA (.ref p83) (r85 : NotSo), imA (.ref a81) (r72.1 : Cond), imA (.ref p73) (r72 : (Cond × Int)), lstA a_v_tokens (v_tokens : (List Str)), imA (.ref p27) ((⟨("(" : Str), ("not" : Str), ("thread" : Str)⟩ : T3 _ _ _) : (T3 Str Str Str)), imA (.ref p14) ((⟨("day" : Str), ("before" : Str), ("after" : Str)⟩ : T3 _ _ _) : (T3 Str Str Str)), F] : List (Asn G)) := Sep.star (M := [imA (.ref p83) (r85 : NotSo)]) hS
                  refine c_cons ?_
                  obtain ⟨u87, u88, hT91, h89, h90⟩ := im2 (hS.im (i := 2) rfl)
                  obtain ⟨a92, rfl⟩ := isref h89
                  obtain rfl : u88 = (.int (r72.2)) := h90
                  refine ev_to (ev_ixT (ev_var rfl) ev_c hT91 rfl) ?_
                  refine c_nil ?_
                  refine k_tupP (x := (((Cond.NotSo r85.inner), r72.2) : (Cond × Int))) hS (fun H' p h s => mk2 (to_NotSo (hS.im (i := 0) rfl)) rfl h s) (by show 2 ≤ sizeLine; decide) fun p93 H hS => ?_
                  exact hm _ _ (hS.sel [0, 4, 7] (by decide) rfl)
                · have hm := R.wp_ifN hm (by first | (rw [hb75]; decide) | simpa using hb75)
                  refine st_nx ?_
                  refine sq_nx ?_
                  refine c_ret ?_
                  refine c_tup ?_
                  refine c_cons ?_
                  refine c_make ?_
                  obtain ⟨u95, u96, hT99, h97, h98⟩ := im2 (hS.im (i := 0) rfl)
                  obtain ⟨a100, rfl⟩ := isref h97
                  obtain rfl : u96 = (.int (r72.2)) := h98
                  refine ea_to (ea_cons (ev_ixT (ev_var rfl) ev_c hT99 rfl) ea_nil) ?_
                  have hS := hS.addIm (v := (.ref a100)) (x := (r72.1 : Cond)) h97
                  intro p102 d103 np nd ne
                  have hS := hS.newI (C := G.cl 10) np nd ne (by rw [T.fz_InThread]; decide)
                  refine ⟨p102, d103, a100, (r72.1 : Cond), star [imA (.ref a100) (r72.1 : Cond), imA (.ref p73) (r72 : (Cond × Int)), lstA a_v_tokens (v_tokens : (List Str)), imA (.ref p27) ((⟨("(" : Str), ("not" : Str), ("thread" : Str)⟩ : T3 _ _ _) : (T3 Str Str Str)), imA (.ref p14) ((⟨("day" : Str), ("before" : Str), ("after" : Str)⟩ : T3 _ _ _) : (T3 Str Str Str)), F], rfl, (hS.im (i := 1) rfl), Sep.unstar (M := [cell p102 (.ins (G.cl 10) d103 [])]) (hS.sel [0, 1, 2, 3, 4, 5, 6] (by decide) rfl : Sep _ (([cell p102 (.ins (G.cl 10) d103 [])] ++ [imA (.ref a100) (r72.1 : Cond), imA (.ref p73) (r72 : (Cond × Int)), lstA a_v_tokens (v_tokens : (List Str)), imA (.ref p27) ((⟨("(" : Str), ("not" : Str), ("thread" : Str)⟩ : T3 _ _ _) : (T3 Str Str Str)), imA (.ref p14) ((⟨("day" : Str), ("before" : Str), ("after" : Str)⟩ : T3 _ _ _) : (T3 Str Str Str)), F] : List (Asn G)))), R.wp_mono (R.wp_bind hm) (fun r104 hm H hS => ⟨rfl, ?_⟩) (fun _ z => z)⟩
                  have hS : Sep H ([imA (.ref p102) (r104 : InThread), imA (.ref a100) (r72.1 : Cond), imA (.ref p73) (r72 : (Cond × Int)), lstA a_v_tokens (v_tokens : (List Str)), imA (.ref p27) ((⟨("(" : Str), ("not" : Str), ("thread" : Str)⟩ : T3 _ _ _) : (T3 Str Str Str)), imA (.ref p14) ((⟨("day" : Str), ("before" : Str), ("after" : Str)⟩ : T3 _ _ _) : (T3 Str Str Str)), F] : List (Asn G)) := Sep.star (M := [imA (.ref p102) (r104 : InThread)]) hS
                  refine c_cons ?_
                  obtain ⟨u106, u107, hT110, h108, h109⟩ := im2 (hS.im (i := 2) rfl)
                  obtain ⟨a111, rfl⟩ := isref h108
                  obtain rfl : u107 = (.int (r72.2)) := h109
                  refine ev_to (ev_ixT (ev_var rfl) ev_c hT110 rfl) ?_
                  refine c_nil ?_
                  refine k_tupP (x := (((Cond.InThread r104.inner), r72.2) : (Cond × Int))) hS (fun H' p h s => mk2 (to_InThread (hS.im (i := 0) rfl)) rfl h s) (by show 2 ≤ sizeLine; decide) fun p112 H hS => ?_
                  exact hm _ _ (hS.sel [0, 4, 7] (by decide) rfl)
theorem ok_one_at (T : Txt G mg) : ∀ n : Nat, FnOk P w G.K mg base CX0 (4 + 3 * n) T.a_one_at T.fd_one_at ["tokens", "at", "room"] (sp_one_at G (m_one_at n))
  | 0 => fnOk_no fun vs H Q E h => by obtain ⟨a_v_tokens, v_tokens, v_at, v_room, F, _, _, hm⟩ := h; exact hm
  | n + 1 => ok_one_at_b T (Nat.le_add_right_of_le (by decide)) (ok_one_at T n)
def sp_whole_at (G : Gx) : Sp := fun vs H Q E => ∃ (a_v_tokens : Addr) (v_tokens : (List Str)) (v_at : Int) (F : Asn G), vs = [.ref a_v_tokens, (.int (v_at))] ∧ Sep H ([lstA a_v_tokens (v_tokens : (List Str)), F] : List (Asn G)) ∧ R.wp (m_whole_at v_tokens v_at) (fun r => ∀ (p : Addr) H', Sep H' ([imA (.ref p) (r : (Cond × Int)), lstA a_v_tokens (v_tokens : (List Str)), F] : List (Asn G)) → Q (.ref p) H') (fun _ => False)
abbrev N_whole_at : List Str := ["tokens", "at", "pair", "tree"]
theorem sc_whole_at : FnScope N_whole_at ["tokens", "at"] (defScope s_whole_at) := ⟨rfl, rfl, rfl, by decide +kernel, rfl, by decide +kernel, by decide +kernel⟩
theorem ok_whole_at (T : Txt G mg) : FnOk P w G.K mg base CX0 142 T.a_whole_at T.fd_whole_at ["tokens", "at"] (sp_whole_at G) := by
  have nd := sc_whole_at.nd
  refine Fun.ok T.F_whole_at sc_whole_at (fun vs H Q E h => ?_) (fun cdv A outer s H vs Q E hr h => ?_)
  · obtain ⟨a_v_tokens, v_tokens, v_at, F, rfl, _⟩ := h; rfl
  · obtain ⟨a_v_tokens, v_tokens, v_at, F, rfl, hS, hm⟩ := h
    refine ⟨_, (pss_cons (ps_set (i := 2) nd rfl (Or.inl rfl) (pe_call (ok_either_at T (by decide) (ok_one_at T 45)) (hr.mono (by decide)) rfl T.g_either_at T.kp_either_at T.b_either_at .nil pass0 (pa_cons (pe_fz (pv 0)) (pa_cons (pv 1) (pa_cons (pe_glob (v := .int 40) rfl T.c_MOST_OPEN ⟨_, rfl⟩) pa_nil)))))
      (pss_cons (ps_set (i := 3) nd rfl (Or.inl rfl) (pe_methF0 (pe_ix (ix_tupK G.K) (pv 2) pe_int (fun _ _ => rfl)) (ok_Cond_tree T 34) (hr.mono (by decide)) pass0))
      (pss_cons (ps_if (PW.pt (pw_or (pt_cmpR op_gt (pe_call (ok_deep T 34) (hr.mono (by decide)) rfl T.g_deep T.kp_deep T.b_deep .nil pass0 (pa_cons (pv 3) pa_nil)) (pe_glob (v := .int 30) rfl T.c_MOST_DEEP ⟨_, rfl⟩) (nomark _)) (pw_or1 (pt_cmpR op_gt (pe_call (ok_threads_deep T 34) (hr.mono (by decide)) rfl T.g_threads_deep T.kp_threads_deep T.b_threads_deep .nil pass0 (pa_cons (pv 3) pa_nil)) (pe_glob (v := .int 2) rfl T.c_MOST_THREADS ⟨_, rfl⟩) (nomark _))))) (pss_one ps_no) pss_nil)
      (pss_one (ps_ret (pv 2)))))), ?_⟩
    unfold m_whole_at at hm
    refine f_seq ?_
    refine c_asg ?_
    refine c_call ?_
    refine ea_to (ea_cons (ev_fz (ev_var rfl)) (ea_cons (ev_var rfl) (ea_cons ev_c ea_nil))) ?_
    refine ⟨a_v_tokens, (v_tokens : (List Str)), v_at, 40, star [F], rfl, Sep.unstar (M := [lstA a_v_tokens (v_tokens : (List Str))]) (hS.sel [0, 1] (by decide) rfl : Sep H (([lstA a_v_tokens (v_tokens : (List Str))] ++ [F] : List (Asn G)))), R.wp_mono (R.wp_bind hm) (fun r1 hm p2 H hS => ?_) (fun _ z => z)⟩
    have hS : Sep H ([imA (.ref p2) (r1 : (Cond × Int)), lstA a_v_tokens (v_tokens : (List Str)), F] : List (Asn G)) := Sep.star (M := [imA (.ref p2) (r1 : (Cond × Int)), lstA a_v_tokens (v_tokens : (List Str))]) hS
    refine c_set (σ' := [some (.ref a_v_tokens), some (.int (v_at)), some (.ref p2), none]) rfl ?_
    refine sq_nx ?_
    refine f_seq ?_
    refine c_asg ?_
    refine c_methF ?_
    obtain ⟨u4, u5, hT8, h6, h7⟩ := im2 (hS.im (i := 0) rfl)
    obtain ⟨a9, rfl⟩ := isref h6
    obtain rfl : u5 = (.int (r1.2)) := h7
    refine ev_to (ev_ixT (ev_var rfl) ev_c hT8 rfl) ?_
    have hS := hS.addIm (v := (.ref a9)) (x := (r1.1 : Cond)) h6
    obtain ⟨dx11, fs12, hO13, hl14⟩ := cls_Cond (hS.im (i := 0) rfl)
    refine ⟨_, _, _, _, rfl, fam_Cond _, hO13, hl14 "tree" (by decide), ?_⟩
    refine ea_to ea_nil ?_
    refine ⟨a9, (r1.1 : Cond), star [imA (.ref a9) (r1.1 : Cond), imA (.ref p2) (r1 : (Cond × Int)), lstA a_v_tokens (v_tokens : (List Str)), F], rfl, (hS.im (i := 0) rfl), rfl, Sep.unstar (M := []) (hS.sel [0, 1, 2, 3] (by decide) rfl : Sep H (([] ++ [imA (.ref a9) (r1.1 : Cond), imA (.ref p2) (r1 : (Cond × Int)), lstA a_v_tokens (v_tokens : (List Str)), F] : List (Asn G)))), R.wp_mono (R.wp_bind hm) (fun r15 hm p16 H hS => ?_) (fun _ z => z)⟩
    have hS : Sep H ([imA p16 (r15 : Any), imA (.ref a9) (r1.1 : Cond), imA (.ref p2) (r1 : (Cond × Int)), lstA a_v_tokens (v_tokens : (List Str)), F] : List (Asn G)) := Sep.star (M := [imA p16 (r15 : Any)]) hS
    refine c_set (σ' := [some (.ref a_v_tokens), some (.int (v_at)), some (.ref p2), some p16]) rfl ?_
    refine sq_nx ?_
    refine f_seq ?_
    refine f_if ?_
    refine f_or ?_
    refine f_test ?_
    refine c_op ?_
    refine c_call ?_
    refine ea_to (ea_cons (ev_var rfl) ea_nil) ?_
    refine ⟨p16, (r15 : Any), star [imA p16 (r15 : Any), imA (.ref a9) (r1.1 : Cond), imA (.ref p2) (r1 : (Cond × Int)), lstA a_v_tokens (v_tokens : (List Str)), F], rfl, (hS.im (i := 0) rfl), Sep.unstar (M := []) (hS.sel [0, 1, 2, 3, 4] (by decide) rfl : Sep H (([] ++ [imA p16 (r15 : Any), imA (.ref a9) (r1.1 : Cond), imA (.ref p2) (r1 : (Cond × Int)), lstA a_v_tokens (v_tokens : (List Str)), F] : List (Asn G)))), R.wp_mono (R.wp_bind hm) (fun r18 hm H hS => ?_) (fun _ z => z)⟩
    have hS : Sep H ([imA p16 (r15 : Any), imA (.ref a9) (r1.1 : Cond), imA (.ref p2) (r1 : (Cond × Int)), lstA a_v_tokens (v_tokens : (List Str)), F] : List (Asn G)) := Sep.star (M := []) hS
    refine ev_to ev_c ?_
    refine ev_op2 (ev_i0 ev_c ev_c) ?_
    refine f_bl ?_
    refine orK_J hm hS (fun hb q hm nx => ?_) (fun b19 H hm hS => ?_)
    ·
      refine f_test ?_
      refine c_op ?_
      refine c_call ?_
      refine ea_to (ea_cons (ev_var rfl) ea_nil) ?_
      refine ⟨p16, (r15 : Any), star [imA p16 (r15 : Any), imA (.ref a9) (r1.1 : Cond), imA (.ref p2) (r1 : (Cond × Int)), lstA a_v_tokens (v_tokens : (List Str)), F], rfl, (hS.im (i := 0) rfl), Sep.unstar (M := []) (hS.sel [0, 1, 2, 3, 4] (by decide) rfl : Sep H (([] ++ [imA p16 (r15 : Any), imA (.ref a9) (r1.1 : Cond), imA (.ref p2) (r1 : (Cond × Int)), lstA a_v_tokens (v_tokens : (List Str)), F] : List (Asn G)))), R.wp_mono (R.wp_bind hm) (fun r20 hm H hS => ?_) (fun _ z => z)⟩
      have hS : Sep H ([imA p16 (r15 : Any), imA (.ref a9) (r1.1 : Cond), imA (.ref p2) (r1 : (Cond × Int)), lstA a_v_tokens (v_tokens : (List Str)), F] : List (Asn G)) := Sep.star (M := []) hS
      refine ev_to ev_c ?_
      refine ev_op2 (ev_i0 ev_c ev_c) ?_
      refine f_bl ?_
      exact nx _ _ hm (hS.sel [0, 1, 2, 3, 4] (by decide) rfl)
    ·
      refine ifK_2 (fun hb21 => ?_) (fun hb21 => ?_)
      · have hm := R.wp_ifY hm hb21
        exact (show False from hm).elim
      · have hm := R.wp_ifN hm (by first | (rw [hb21]; decide) | simpa using hb21)
        refine st_nx ?_
        refine sq_nx ?_
        refine c_ret ?_
        refine ev_to (ev_var rfl) ?_
        exact hm _ _ (hS.sel [2, 3, 4] (by decide) rfl)
def sp_read_condition (G : Gx) : Sp := fun vs H Q E => ∃ (v_text : Str) (F : Asn G), vs = [(.str (v_text))] ∧ Sep H ([F] : List (Asn G)) ∧ R.wp (m_read_condition v_text) (fun r => ∀ (p : Addr) H', Sep H' ([imA (.ref p) (r : Cond), F] : List (Asn G)) → Q (.ref p) H') (fun _ => False)
abbrev N_read_condition : List Str := ["text", "tokens", "pair"]
theorem sc_read_condition : FnScope N_read_condition ["text"] (defScope s_read_condition) := ⟨rfl, rfl, rfl, by decide +kernel, rfl, by decide +kernel, by decide +kernel⟩
theorem ok_read_condition (T : Txt G mg) : FnOk P w G.K mg base CX0 143 T.a_read_condition T.fd_read_condition ["text"] (sp_read_condition G) := by
  have nd := sc_read_condition.nd
  refine Fun.ok T.F_read_condition sc_read_condition (fun vs H Q E h => ?_) (fun cdv A outer s H vs Q E hr h => ?_)
  · obtain ⟨v_text, F, rfl, _⟩ := h; rfl
  · obtain ⟨v_text, F, rfl, hS, hm⟩ := h
    refine ⟨_, (pss_cons (ps_set (i := 1) nd rfl (Or.inl rfl) (pe_fz (pe_call (ok_tokens_of T) (hr.mono (by decide)) rfl T.g_tokens_of T.kp_tokens_of T.b_tokens_of .nil pass0 (pa_cons (pv 0) pa_nil))))
      (pss_cons (ps_set (i := 2) nd rfl (Or.inl rfl) (pe_call (ok_whole_at T) (hr.mono (by decide)) rfl T.g_whole_at T.kp_whole_at T.b_whole_at .nil pass0 (pa_cons (pe_fz (pv 1)) (pa_cons pe_int pa_nil))))
      (pss_cons (ps_if (pt_cmpR op_ne (pe_ix (ix_tupK G.K) (pv 2) pe_int (fun _ _ => rfl)) (pe_callB (lenSqK G.K) (by rfl) T.z_len PySem.boot_len (pa_cons (pe_fz (pv 1)) pa_nil)) (nomark _)) (pss_one ps_no) pss_nil)
      (pss_one (ps_ret (pe_ix (ix_tupK G.K) (pv 2) pe_int (fun _ _ => rfl))))))), ?_⟩
    unfold m_read_condition at hm
    refine f_seq ?_
    refine c_asg ?_
    refine c_fz ?_
    refine c_call ?_
    refine ea_to (ea_cons (ev_var rfl) ea_nil) ?_
    refine ⟨v_text, star [F], rfl, Sep.unstar (M := []) (hS.sel [0] (by decide) rfl : Sep H (([] ++ [F] : List (Asn G)))), R.wp_mono (R.wp_bind hm) (fun r1 hm p2 H hS => ?_) (fun _ z => z)⟩
    have hS : Sep H ([lstA p2 (r1 : (List Str)), F] : List (Asn G)) := Sep.star (M := [lstA p2 (r1 : (List Str))]) hS
    refine fz_no ?_
    refine c_set (σ' := [some (.str (v_text)), some (.ref p2), none]) rfl ?_
    refine sq_nx ?_
    refine f_seq ?_
    refine c_asg ?_
    refine c_call ?_
    refine ea_to (ea_cons (ev_fz (ev_var rfl)) (ea_cons ev_c ea_nil)) ?_
    refine ⟨p2, (r1 : (List Str)), 0, star [F], rfl, Sep.unstar (M := [lstA p2 (r1 : (List Str))]) (hS.sel [0, 1] (by decide) rfl : Sep H (([lstA p2 (r1 : (List Str))] ++ [F] : List (Asn G)))), R.wp_mono (R.wp_bind hm) (fun r3 hm p4 H hS => ?_) (fun _ z => z)⟩
    have hS : Sep H ([imA (.ref p4) (r3 : (Cond × Int)), lstA p2 (r1 : (List Str)), F] : List (Asn G)) := Sep.star (M := [imA (.ref p4) (r3 : (Cond × Int)), lstA p2 (r1 : (List Str))]) hS
    refine c_set (σ' := [some (.str (v_text)), some (.ref p2), some (.ref p4)]) rfl ?_
    refine sq_nx ?_
    refine f_seq ?_
    refine f_if ?_
    obtain ⟨u6, u7, hT10, h8, h9⟩ := im2 (hS.im (i := 0) rfl)
    obtain ⟨a11, rfl⟩ := isref h8
    obtain rfl : u7 = (.int (r3.2)) := h9
    refine et_to (et_test (ev_neI (ev_ixT (ev_var rfl) ev_c hT10 rfl) (ev_lenLm (ev_fz (ev_var rfl)) (hS.sqF (i := 1) rfl)))) ?_
    refine ifK_2 (fun hb12 => ?_) (fun hb12 => ?_)
    · have hm := R.wp_ifY hm hb12
      exact (show False from hm).elim
    · have hm := R.wp_ifN hm (by first | (rw [hb12]; decide) | simpa using hb12)
      refine st_nx ?_
      refine sq_nx ?_
      refine c_ret ?_
      obtain ⟨u13, u14, hT17, h15, h16⟩ := im2 (hS.im (i := 0) rfl)
      obtain ⟨a18, rfl⟩ := isref h15
      obtain rfl : u14 = (.int (r3.2)) := h16
      refine ev_to (ev_ixT (ev_var rfl) ev_c hT17 rfl) ?_
      have hS := hS.addIm (v := (.ref a18)) (x := (r3.1 : Cond)) h15
      exact hm _ _ (hS.sel [0, 3] (by decide) rfl)
def sp_law (G : Gx) : Sp := fun vs H Q E => ∃ (a_v_law_script : V) (v_law_script : Script) (F : Asn G), vs = [a_v_law_script] ∧ Im.im G H a_v_law_script v_law_script ∧ Sep H ([F] : List (Asn G)) ∧ R.wp (m_law v_law_script) (fun r => ∀ H', Sep H' ([F] : List (Asn G)) → Q (.bl (r)) H') (fun _ => False)
abbrev N_law : List Str := ["_law_script", "_law_cells", "_law_shape", "_law_tree", "_law_text"]
theorem sc_law : FnScope N_law ["_law_script"] (defScope s_law) := ⟨rfl, rfl, rfl, by decide +kernel, rfl, by decide +kernel, by decide +kernel⟩
theorem ok_law (T : Txt G mg) : FnOk P w G.K mg base CX0 144 T.a_law T.fd_law ["_law_script"] (sp_law G) := by
  have nd := sc_law.nd
  refine Fun.ok T.F_law sc_law (fun vs H Q E h => ?_) (fun cdv A outer s H vs Q E hr h => ?_)
  · obtain ⟨a_v_law_script, v_law_script, F, rfl, _⟩ := h; rfl
  · obtain ⟨a_v_law_script, v_law_script, F, rfl, him_v_law_script, hS, hm⟩ := h
    obtain ⟨ad_v_law_script, rfl, _⟩ := im_script him_v_law_script
    have hS := hS.addIm him_v_law_script
    refine ⟨_, (pss_cons (ps_set (i := 1) nd rfl (Or.inl rfl) (pe_fz (pe_call (ok_law_mixed T) (hr.mono (by decide)) rfl T.g_law_mixed T.kp_law_mixed T.b_law_mixed .nil pass0 (pa_cons (pv 0) (pa_cons pe_int (pa_cons pe_int pa_nil))))))
      (pss_cons (ps_set (i := 2) nd rfl (Or.inl rfl) (pe_ix (ix_listK G.K) (pe_fz (pv 1)) pe_int (fun _ _ => rfl)))
      (pss_cons (ps_set (i := 3) nd rfl (Or.inl rfl) (pe_call (ok_law_tree_by T) (hr.mono (by decide)) rfl T.g_law_tree_by T.kp_law_tree_by T.b_law_tree_by .nil pass0 (pa_cons (pv 2) (pa_cons (pe_fz (pe_slice (sl_listK G.K) (pe_fz (pv 1)) po_none (po_some (pe_op op_add pe_int (pe_op op_mod (pe_ix (ix_listK G.K) (pe_fz (pv 1)) pe_int (fun _ _ => rfl)) pe_int))))) pa_nil))))
      (pss_cons (ps_set (i := 4) nd rfl (Or.inl rfl) (pe_op op_catS (pe_call (ok_law_joined T) (hr.mono (by decide)) rfl T.g_law_joined T.kp_law_joined T.b_law_joined .nil pass0 (pa_cons (pe_fz (pe_call (ok_law_tokens T 12) (hr.mono (by decide)) rfl T.g_law_tokens T.kp_law_tokens T.b_law_tokens .nil pass0 (pa_cons (pv 3) (pa_cons pe_int (pa_cons (pe_fz (pv 1)) (pa_cons pe_int pa_nil)))))) (pa_cons (pe_fz (pe_slice (sl_listK G.K) (pe_fz (pv 1)) (po_some pe_int) (po_some pe_int))) pa_nil))) (pe_op op_repS pe_str (pe_op op_mod (pe_op op_fdiv (pe_ix (ix_listK G.K) (pe_fz (pv 1)) pe_int (fun _ _ => rfl)) pe_int) pe_int))))
      (pss_cons (ps_if (pt_not (pt_val (pe_callB (isiK G.K) (by rfl) T.z_isinstance (by decide +kernel) (pa_cons (pe_call (ok_read_condition T) (hr.mono (by decide)) rfl T.g_read_condition T.kp_read_condition T.b_read_condition .nil pass0 (pa_cons (pv 4) pa_nil)) (pa_cons (pe_glob (v := .ref (G.cl 0)) rfl T.g_Condition rfl) pa_nil))))) (pss_one (ps_ret pe_bl)) pss_nil)
      (pss_one (ps_ret (pe_and (pe_cmpR (eqDK G.K hr.units) (pe_methF0 (pe_call (ok_read_condition T) (hr.mono (by decide)) rfl T.g_read_condition T.kp_read_condition T.b_read_condition .nil pass0 (pa_cons (pv 4) pa_nil)) (ok_Cond_tree T 34) (hr.mono (by decide)) pass0) (pv 3) (nomark _)) (pe_one (pe_cmpR (eqDK G.K hr.units) (pe_methF0 (pe_call (ok_read_condition T) (hr.mono (by decide)) rfl T.g_read_condition T.kp_read_condition T.b_read_condition .nil pass0 (pa_cons (pe_op op_catS pe_str (pv 4)) pa_nil)) (ok_Cond_tree T 34) (hr.mono (by decide)) pass0) (pv 3) (nomark _))))))))))), ?_⟩
    unfold m_law at hm
    refine f_seq ?_
    refine c_asg ?_
    refine c_fz ?_
    refine c_call ?_
    refine ea_to (ea_cons (ev_var rfl) (ea_cons ev_c (ea_cons ev_c ea_nil))) ?_
    refine ⟨_, v_law_script, 0, 22, star [imA (.ref ad_v_law_script) v_law_script, F], rfl, (hS.im (i := 0) rfl), Sep.unstar (M := []) (hS.sel [0, 1] (by decide) rfl : Sep H (([] ++ [imA (.ref ad_v_law_script) v_law_script, F] : List (Asn G)))), R.wp_mono (R.wp_bind hm) (fun r1 hm p2 H hS => ?_) (fun _ z => z)⟩
    have hS : Sep H ([lstA p2 (r1 : (List Int)), imA (.ref ad_v_law_script) v_law_script, F] : List (Asn G)) := Sep.star (M := [lstA p2 (r1 : (List Int))]) hS
    refine fz_no ?_
    refine c_set (σ' := [some (.ref ad_v_law_script), some (.ref p2), none, none, none]) rfl ?_
    refine sq_nx ?_
    refine f_seq ?_
    refine c_asg ?_
    obtain ⟨x3, hx3, hm⟩ := wp_idx hm
    refine ev_to (ev_ixSq (ev_fz (ev_var rfl)) ev_c (hS.sqF (i := 0) rfl) (atI_map hx3)) ?_
    refine c_set (σ' := [some (.ref ad_v_law_script), some (.ref p2), some (.int (x3)), none, none]) rfl ?_
    refine sq_nx ?_
    refine f_seq ?_
    refine c_asg ?_
    refine c_call ?_
    refine c_cons ?_
    refine ev_to (ev_var rfl) ?_
    refine c_cons ?_
    refine c_fz ?_
    refine c_sl ?_
    refine ev_to (ev_fz (ev_var rfl)) ?_
    obtain ⟨x4, hx4, hm⟩ := wp_idx hm
    refine eo_to eo_no ?_
    refine eo_to (eo_some (ev_add ev_c (ev_mod (ev_ixSq (ev_fz (ev_var rfl)) ev_c (hS.sqF (i := 0) rfl) (atI_map hx4)) ev_c (by decide)))) ?_
    refine k_slG hS (hS.sq (i := 0) rfl) fun p5 H hS => ?_
    refine fz_no ?_
    refine c_nil ?_
    refine ⟨x3, p5, (cutL r1 none (some (1 + (x4 % 10))) : (List Int)), star [lstA p2 (r1 : (List Int)), imA (.ref ad_v_law_script) v_law_script, F], rfl, Sep.unstar (M := [lstA p5 (cutL r1 none (some (1 + (x4 % 10))) : (List Int))]) (hS.sel [0, 1, 2, 3] (by decide) rfl : Sep H (([lstA p5 (cutL r1 none (some (1 + (x4 % 10))) : (List Int))] ++ [lstA p2 (r1 : (List Int)), imA (.ref ad_v_law_script) v_law_script, F] : List (Asn G)))), R.wp_mono (R.wp_bind hm) (fun r6 hm p7 H hS => ?_) (fun _ z => z)⟩
    have hS : Sep H ([imA p7 (r6 : Any), lstA p5 (cutL r1 none (some (1 + (x4 % 10))) : (List Int)), lstA p2 (r1 : (List Int)), imA (.ref ad_v_law_script) v_law_script, F] : List (Asn G)) := Sep.star (M := [imA p7 (r6 : Any), lstA p5 (cutL r1 none (some (1 + (x4 % 10))) : (List Int))]) hS
    refine c_set (σ' := [some (.ref ad_v_law_script), some (.ref p2), some (.int (x3)), some p7, none]) rfl ?_
    refine sq_nx ?_
    refine f_seq ?_
    refine c_asg ?_
    refine c_op ?_
    refine c_call ?_
    refine c_cons ?_
    refine c_fz ?_
    refine c_call ?_
    refine ea_to (ea_cons (ev_var rfl) (ea_cons ev_c (ea_cons (ev_fz (ev_var rfl)) (ea_cons ev_c ea_nil)))) ?_
    refine ⟨p7, (r6 : Any), 0, p2, (r1 : (List Int)), 0, star [imA p7 (r6 : Any), lstA p5 (cutL r1 none (some (1 + (x4 % 10))) : (List Int)), imA (.ref ad_v_law_script) v_law_script, F], rfl, (hS.im (i := 0) rfl), Sep.unstar (M := [lstA p2 (r1 : (List Int))]) (hS.sel [2, 0, 1, 3, 4] (by decide) rfl : Sep H (([lstA p2 (r1 : (List Int))] ++ [imA p7 (r6 : Any), lstA p5 (cutL r1 none (some (1 + (x4 % 10))) : (List Int)), imA (.ref ad_v_law_script) v_law_script, F] : List (Asn G)))), R.wp_mono (R.wp_bind hm) (fun r9 hm p10 H hS => ?_) (fun _ z => z)⟩
    have hS : Sep H ([lstA p10 (r9 : (List Str)), lstA p2 (r1 : (List Int)), imA p7 (r6 : Any), lstA p5 (cutL r1 none (some (1 + (x4 % 10))) : (List Int)), imA (.ref ad_v_law_script) v_law_script, F] : List (Asn G)) := Sep.star (M := [lstA p10 (r9 : (List Str)), lstA p2 (r1 : (List Int))]) hS
    refine fz_no ?_
    refine c_cons ?_
    refine c_fz ?_
    refine c_sl ?_
    refine ev_to (ev_fz (ev_var rfl)) ?_
    refine eo_to (eo_some ev_c) ?_
    refine eo_to (eo_some ev_c) ?_
    refine k_slG hS (hS.sq (i := 1) rfl) fun p11 H hS => ?_
    refine fz_no ?_
    refine c_nil ?_
    refine ⟨p10, (r9 : (List Str)), p11, (cutL r1 (some (3)) (some (20)) : (List Int)), star [lstA p2 (r1 : (List Int)), imA p7 (r6 : Any), lstA p5 (cutL r1 none (some (1 + (x4 % 10))) : (List Int)), imA (.ref ad_v_law_script) v_law_script, F], rfl, Sep.unstar (M := [lstA p10 (r9 : (List Str)), lstA p11 (cutL r1 (some (3)) (some (20)) : (List Int))]) (hS.sel [1, 0, 2, 3, 4, 5, 6] (by decide) rfl : Sep H (([lstA p10 (r9 : (List Str)), lstA p11 (cutL r1 (some (3)) (some (20)) : (List Int))] ++ [lstA p2 (r1 : (List Int)), imA p7 (r6 : Any), lstA p5 (cutL r1 none (some (1 + (x4 % 10))) : (List Int)), imA (.ref ad_v_law_script) v_law_script, F] : List (Asn G)))), R.wp_mono (R.wp_bind hm) (fun r12 hm H hS => ?_) (fun _ z => z)⟩
    have hS : Sep H ([lstA p10 (r9 : (List Str)), lstA p11 (cutL r1 (some (3)) (some (20)) : (List Int)), lstA p2 (r1 : (List Int)), imA p7 (r6 : Any), lstA p5 (cutL r1 none (some (1 + (x4 % 10))) : (List Int)), imA (.ref ad_v_law_script) v_law_script, F] : List (Asn G)) := Sep.star (M := [lstA p10 (r9 : (List Str)), lstA p11 (cutL r1 (some (3)) (some (20)) : (List Int))]) hS
    obtain ⟨x13, hx13, hm⟩ := wp_idx hm
    obtain ⟨h14, hm⟩ := R.wp_need hm
    refine ev_to (ev_repS ev_c (ev_mod (ev_fdiv (ev_ixSq (ev_fz (ev_var rfl)) ev_c (hS.sqF (i := 2) rfl) (atI_map hx13)) ev_c ⟨by decide, by decide⟩) ev_c (by decide)) h14) ?_
    obtain ⟨h15, hm⟩ := R.wp_need hm
    refine r_catS h15 _ ?_
    obtain ⟨y16, hy16, hm⟩ := wp_let hm
    refine n_is (w := (.str (y16))) (by rw [hy16]) ?_
    refine c_set (σ' := [some (.ref ad_v_law_script), some (.ref p2), some (.int (x3)), some p7, some (.str (y16))]) rfl ?_
    refine sq_nx ?_
    refine f_seq ?_
    refine f_if ?_
    refine f_not ?_
    refine f_B ?_
    refine c_cb ?_
    refine c_cons ?_
    refine c_call ?_
    refine ea_to (ea_cons (ev_var rfl) ea_nil) ?_
    refine ⟨y16, star [lstA p10 (r9 : (List Str)), lstA p11 (cutL r1 (some (3)) (some (20)) : (List Int)), lstA p2 (r1 : (List Int)), imA p7 (r6 : Any), lstA p5 (cutL r1 none (some (1 + (x4 % 10))) : (List Int)), imA (.ref ad_v_law_script) v_law_script, F], rfl, Sep.unstar (M := []) (hS.sel [0, 1, 2, 3, 4, 5, 6] (by decide) rfl : Sep H (([] ++ [lstA p10 (r9 : (List Str)), lstA p11 (cutL r1 (some (3)) (some (20)) : (List Int)), lstA p2 (r1 : (List Int)), imA p7 (r6 : Any), lstA p5 (cutL r1 none (some (1 + (x4 % 10))) : (List Int)), imA (.ref ad_v_law_script) v_law_script, F] : List (Asn G)))), R.wp_mono (R.wp_bind hm) (fun r17 hm p18 H hS => ?_) (fun _ z => z)⟩
    have hS : Sep H ([imA (.ref p18) (r17 : Cond), lstA p10 (r9 : (List Str)), lstA p11 (cutL r1 (some (3)) (some (20)) : (List Int)), lstA p2 (r1 : (List Int)), imA p7 (r6 : Any), lstA p5 (cutL r1 none (some (1 + (x4 % 10))) : (List Int)), imA (.ref ad_v_law_script) v_law_script, F] : List (Asn G)) := Sep.star (M := [imA (.ref p18) (r17 : Cond)]) hS
    refine c_cons ?_
    refine ev_to ev_c ?_
    refine c_nil ?_
    obtain ⟨d20, fs21, hc22⟩ := any_of_cls (cls_Cond (hS.im (i := 0) rfl))
    refine ev_cb2 (ev_isD (σ := []) ev_c ev_c hc22 (T.tc_Cond_Condition (fam_Cond _))) ?_
    refine f_bl ?_
    refine f_nK ?_
    refine ifK_f ?_
    refine st_nx ?_
    refine sq_nx ?_
    refine c_ret ?_
    refine f_andV ?_
    refine c_op ?_
    refine c_methF ?_
    refine c_call ?_
    refine ea_to (ea_cons (ev_var rfl) ea_nil) ?_
    refine ⟨y16, star [imA (.ref p18) (r17 : Cond), lstA p10 (r9 : (List Str)), lstA p11 (cutL r1 (some (3)) (some (20)) : (List Int)), lstA p2 (r1 : (List Int)), imA p7 (r6 : Any), lstA p5 (cutL r1 none (some (1 + (x4 % 10))) : (List Int)), imA (.ref ad_v_law_script) v_law_script, F], rfl, Sep.unstar (M := []) (hS.sel [0, 1, 2, 3, 4, 5, 6, 7] (by decide) rfl : Sep H (([] ++ [imA (.ref p18) (r17 : Cond), lstA p10 (r9 : (List Str)), lstA p11 (cutL r1 (some (3)) (some (20)) : (List Int)), lstA p2 (r1 : (List Int)), imA p7 (r6 : Any), lstA p5 (cutL r1 none (some (1 + (x4 % 10))) : (List Int)), imA (.ref ad_v_law_script) v_law_script, F] : List (Asn G)))), R.wp_mono (R.wp_bind hm) (fun r23 hm p24 H hS => ?_) (fun _ z => z)⟩
    have hS : Sep H ([imA (.ref p24) (r23 : Cond), imA (.ref p18) (r17 : Cond), lstA p10 (r9 : (List Str)), lstA p11 (cutL r1 (some (3)) (some (20)) : (List Int)), lstA p2 (r1 : (List Int)), imA p7 (r6 : Any), lstA p5 (cutL r1 none (some (1 + (x4 % 10))) : (List Int)), imA (.ref ad_v_law_script) v_law_script, F] : List (Asn G)) := Sep.star (M := [imA (.ref p24) (r23 : Cond)]) hS
    obtain ⟨dx26, fs27, hO28, hl29⟩ := cls_Cond (hS.im (i := 0) rfl)
    refine ⟨_, _, _, _, rfl, fam_Cond _, hO28, hl29 "tree" (by decide), ?_⟩
    refine ea_to ea_nil ?_
    refine ⟨p24, (r23 : Cond), star [imA (.ref p24) (r23 : Cond), imA (.ref p18) (r17 : Cond), lstA p10 (r9 : (List Str)), lstA p11 (cutL r1 (some (3)) (some (20)) : (List Int)), lstA p2 (r1 : (List Int)), imA p7 (r6 : Any), lstA p5 (cutL r1 none (some (1 + (x4 % 10))) : (List Int)), imA (.ref ad_v_law_script) v_law_script, F], rfl, (hS.im (i := 0) rfl), rfl, Sep.unstar (M := []) (hS.sel [0, 1, 2, 3, 4, 5, 6, 7, 8] (by decide) rfl : Sep H (([] ++ [imA (.ref p24) (r23 : Cond), imA (.ref p18) (r17 : Cond), lstA p10 (r9 : (List Str)), lstA p11 (cutL r1 (some (3)) (some (20)) : (List Int)), lstA p2 (r1 : (List Int)), imA p7 (r6 : Any), lstA p5 (cutL r1 none (some (1 + (x4 % 10))) : (List Int)), imA (.ref ad_v_law_script) v_law_script, F] : List (Asn G)))), R.wp_mono (R.wp_bind hm) (fun r30 hm p31 H hS => ?_) (fun _ z => z)⟩
    have hS : Sep H ([imA p31 (r30 : Any), imA (.ref p24) (r23 : Cond), imA (.ref p18) (r17 : Cond), lstA p10 (r9 : (List Str)), lstA p11 (cutL r1 (some (3)) (some (20)) : (List Int)), lstA p2 (r1 : (List Int)), imA p7 (r6 : Any), lstA p5 (cutL r1 none (some (1 + (x4 % 10))) : (List Int)), imA (.ref ad_v_law_script) v_law_script, F] : List (Asn G)) := Sep.star (M := [imA p31 (r30 : Any)]) hS
    refine ev_to (ev_var rfl) ?_
    obtain ⟨b33, hb33, hm⟩ := wp_eqA hm
    refine ev_op2 (ev_eqA ev_c ev_c (hS.im (i := 0) rfl) (hS.im (i := 6) rfl) hb33) ?_
    refine andVK_J hm hS (fun hb q hm nx => ?_) (fun b34 H hm hS => ?_)
    ·
      refine c_op ?_
      refine c_methF ?_
      refine c_call ?_
      obtain ⟨h35, hm⟩ := R.wp_need hm
      refine ea_to (ea_cons (ev_catS ev_c (ev_var rfl) h35) ea_nil) ?_
      refine ⟨((" " : Str) ++ y16), star [imA p31 (r30 : Any), imA (.ref p24) (r23 : Cond), imA (.ref p18) (r17 : Cond), lstA p10 (r9 : (List Str)), lstA p11 (cutL r1 (some (3)) (some (20)) : (List Int)), lstA p2 (r1 : (List Int)), imA p7 (r6 : Any), lstA p5 (cutL r1 none (some (1 + (x4 % 10))) : (List Int)), imA (.ref ad_v_law_script) v_law_script, F], rfl, Sep.unstar (M := []) (hS.sel [0, 1, 2, 3, 4, 5, 6, 7, 8, 9] (by decide) rfl : Sep H (([] ++ [imA p31 (r30 : Any), imA (.ref p24) (r23 : Cond), imA (.ref p18) (r17 : Cond), lstA p10 (r9 : (List Str)), lstA p11 (cutL r1 (some (3)) (some (20)) : (List Int)), lstA p2 (r1 : (List Int)), imA p7 (r6 : Any), lstA p5 (cutL r1 none (some (1 + (x4 % 10))) : (List Int)), imA (.ref ad_v_law_script) v_law_script, F] : List (Asn G)))), R.wp_mono (R.wp_bind hm) (fun r36 hm p37 H hS => ?_) (fun _ z => z)⟩
      have hS : Sep H ([imA (.ref p37) (r36 : Cond), imA p31 (r30 : Any), imA (.ref p24) (r23 : Cond), imA (.ref p18) (r17 : Cond), lstA p10 (r9 : (List Str)), lstA p11 (cutL r1 (some (3)) (some (20)) : (List Int)), lstA p2 (r1 : (List Int)), imA p7 (r6 : Any), lstA p5 (cutL r1 none (some (1 + (x4 % 10))) : (List Int)), imA (.ref ad_v_law_script) v_law_script, F] : List (Asn G)) := Sep.star (M := [imA (.ref p37) (r36 : Cond)]) hS
      obtain ⟨dx39, fs40, hO41, hl42⟩ := cls_Cond (hS.im (i := 0) rfl)
      refine ⟨_, _, _, _, rfl, fam_Cond _, hO41, hl42 "tree" (by decide), ?_⟩
      refine ea_to ea_nil ?_
      refine ⟨p37, (r36 : Cond), star [imA (.ref p37) (r36 : Cond), imA p31 (r30 : Any), imA (.ref p24) (r23 : Cond), imA (.ref p18) (r17 : Cond), lstA p10 (r9 : (List Str)), lstA p11 (cutL r1 (some (3)) (some (20)) : (List Int)), lstA p2 (r1 : (List Int)), imA p7 (r6 : Any), lstA p5 (cutL r1 none (some (1 + (x4 % 10))) : (List Int)), imA (.ref ad_v_law_script) v_law_script, F], rfl, (hS.im (i := 0) rfl), rfl, Sep.unstar (M := []) (hS.sel [0, 1, 2, 3, 4, 5, 6, 7, 8, 9, 10] (by decide) rfl : Sep H (([] ++ [imA (.ref p37) (r36 : Cond), imA p31 (r30 : Any), imA (.ref p24) (r23 : Cond), imA (.ref p18) (r17 : Cond), lstA p10 (r9 : (List Str)), lstA p11 (cutL r1 (some (3)) (some (20)) : (List Int)), lstA p2 (r1 : (List Int)), imA p7 (r6 : Any), lstA p5 (cutL r1 none (some (1 + (x4 % 10))) : (List Int)), imA (.ref ad_v_law_script) v_law_script, F] : List (Asn G)))), R.wp_mono (R.wp_bind hm) (fun r43 hm p44 H hS => ?_) (fun _ z => z)⟩
      have hS : Sep H ([imA p44 (r43 : Any), imA (.ref p37) (r36 : Cond), imA p31 (r30 : Any), imA (.ref p24) (r23 : Cond), imA (.ref p18) (r17 : Cond), lstA p10 (r9 : (List Str)), lstA p11 (cutL r1 (some (3)) (some (20)) : (List Int)), lstA p2 (r1 : (List Int)), imA p7 (r6 : Any), lstA p5 (cutL r1 none (some (1 + (x4 % 10))) : (List Int)), imA (.ref ad_v_law_script) v_law_script, F] : List (Asn G)) := Sep.star (M := [imA p44 (r43 : Any)]) hS
      refine ev_to (ev_var rfl) ?_
      obtain ⟨b46, hb46, hm⟩ := wp_eqA hm
      refine ev_op2 (ev_eqA ev_c ev_c (hS.im (i := 0) rfl) (hS.im (i := 8) rfl) hb46) ?_
      exact nx _ _ hm (hS.sel [2, 3, 4, 5, 6, 7, 8, 9, 10, 11] (by decide) rfl)
    ·
      exact hm _ (hS.sel [9] (by decide) rfl)
end
end Lw
namespace Lw
open PySem PySem.Spec PyProof.Rows L2 Ml
def sp_top (K : PySem.W.Frag) : Sp := fun vs H Q E => ∃ (a : Addr) (ns : List Int), vs = [.ref a] ∧ SqL K H a (ns.map V.int) ∧ Only H ∧ ns.length ≤ 63 ∧ ∀ H', Q (.bl true) H'
theorem all_mk {l : PySem.W.OpenLaw} {w : World} {K : PySem.W.Frag} {h : Heap} {mg : Str → Option Value} {fa : Addr} (X : K.In h) (H : h.Ns mainGlobals mg) (hfa : mg "law" = some (.ref fa))
    {c0 : Addr}
    {c1 : Addr}
    {c2 : Addr}
    {c3 : Addr}
    {c4 : Addr}
    {c5 : Addr}
    {c6 : Addr}
    {c7 : Addr}
    {c8 : Addr}
    {c9 : Addr}
    {c10 : Addr}
    {c11 : Addr}
    {c12 : Addr}
    {c13 : Addr}
    {c14 : Addr}
    {f0 : Addr} {od0 an0 : Option Addr} {sl0 : Array (Option Value)} {oc0 kV0 dc0 pm0 cd0 ct0 : Value}
    {f1 : Addr} {od1 an1 : Option Addr} {sl1 : Array (Option Value)} {oc1 kV1 dc1 pm1 cd1 ct1 : Value}
    {f2 : Addr} {od2 an2 : Option Addr} {sl2 : Array (Option Value)} {oc2 kV2 dc2 pm2 cd2 ct2 : Value}
    {f3 : Addr} {od3 an3 : Option Addr} {sl3 : Array (Option Value)} {oc3 kV3 dc3 pm3 cd3 ct3 : Value}
    {f4 : Addr} {od4 an4 : Option Addr} {sl4 : Array (Option Value)} {oc4 kV4 dc4 pm4 cd4 ct4 : Value}
    {f5 : Addr} {od5 an5 : Option Addr} {sl5 : Array (Option Value)} {oc5 kV5 dc5 pm5 cd5 ct5 : Value}
    {f6 : Addr} {od6 an6 : Option Addr} {sl6 : Array (Option Value)} {oc6 kV6 dc6 pm6 cd6 ct6 : Value}
    {f7 : Addr} {od7 an7 : Option Addr} {sl7 : Array (Option Value)} {oc7 kV7 dc7 pm7 cd7 ct7 : Value}
    {f8 : Addr} {od8 an8 : Option Addr} {sl8 : Array (Option Value)} {oc8 kV8 dc8 pm8 cd8 ct8 : Value}
    {f9 : Addr} {od9 an9 : Option Addr} {sl9 : Array (Option Value)} {oc9 kV9 dc9 pm9 cd9 ct9 : Value}
    {f10 : Addr} {od10 an10 : Option Addr} {sl10 : Array (Option Value)} {oc10 kV10 dc10 pm10 cd10 ct10 : Value}
    {f11 : Addr} {od11 an11 : Option Addr} {sl11 : Array (Option Value)} {oc11 kV11 dc11 pm11 cd11 ct11 : Value}
    {f12 : Addr} {od12 an12 : Option Addr} {sl12 : Array (Option Value)} {oc12 kV12 dc12 pm12 cd12 ct12 : Value}
    {f13 : Addr} {od13 an13 : Option Addr} {sl13 : Array (Option Value)} {oc13 kV13 dc13 pm13 cd13 ct13 : Value}
    {f14 : Addr} {od14 an14 : Option Addr} {sl14 : Array (Option Value)} {oc14 kV14 dc14 pm14 cd14 ct14 : Value}
    {f15 : Addr} {od15 an15 : Option Addr} {sl15 : Array (Option Value)} {oc15 kV15 dc15 pm15 cd15 ct15 : Value}
    {f16 : Addr} {od16 an16 : Option Addr} {sl16 : Array (Option Value)} {oc16 kV16 dc16 pm16 cd16 ct16 : Value}
    {f17 : Addr} {od17 an17 : Option Addr} {sl17 : Array (Option Value)} {oc17 kV17 dc17 pm17 cd17 ct17 : Value}
    {f18 : Addr} {od18 an18 : Option Addr} {sl18 : Array (Option Value)} {oc18 kV18 dc18 pm18 cd18 ct18 : Value}
    {f19 : Addr} {od19 an19 : Option Addr} {sl19 : Array (Option Value)} {oc19 kV19 dc19 pm19 cd19 ct19 : Value}
    {f20 : Addr} {od20 an20 : Option Addr} {sl20 : Array (Option Value)} {oc20 kV20 dc20 pm20 cd20 ct20 : Value}
    {f21 : Addr} {od21 an21 : Option Addr} {sl21 : Array (Option Value)} {oc21 kV21 dc21 pm21 cd21 ct21 : Value}
    {f22 : Addr} {od22 an22 : Option Addr} {sl22 : Array (Option Value)} {oc22 kV22 dc22 pm22 cd22 ct22 : Value}
    {f23 : Addr} {od23 an23 : Option Addr} {sl23 : Array (Option Value)} {oc23 kV23 dc23 pm23 cd23 ct23 : Value}
    {f24 : Addr} {od24 an24 : Option Addr} {sl24 : Array (Option Value)} {oc24 kV24 dc24 pm24 cd24 ct24 : Value}
    {f25 : Addr} {od25 an25 : Option Addr} {sl25 : Array (Option Value)} {oc25 kV25 dc25 pm25 cd25 ct25 : Value}
    {f26 : Addr} {od26 an26 : Option Addr} {sl26 : Array (Option Value)} {oc26 kV26 dc26 pm26 cd26 ct26 : Value}
    {f27 : Addr} {od27 an27 : Option Addr} {sl27 : Array (Option Value)} {oc27 kV27 dc27 pm27 cd27 ct27 : Value}
    {f28 : Addr} {od28 an28 : Option Addr} {sl28 : Array (Option Value)} {oc28 kV28 dc28 pm28 cd28 ct28 : Value}
    {f29 : Addr} {od29 an29 : Option Addr} {sl29 : Array (Option Value)} {oc29 kV29 dc29 pm29 cd29 ct29 : Value}
    {f30 : Addr} {od30 an30 : Option Addr} {sl30 : Array (Option Value)} {oc30 kV30 dc30 pm30 cd30 ct30 : Value}
    {f31 : Addr} {od31 an31 : Option Addr} {sl31 : Array (Option Value)} {oc31 kV31 dc31 pm31 cd31 ct31 : Value}
    {f32 : Addr} {od32 an32 : Option Addr} {sl32 : Array (Option Value)} {oc32 kV32 dc32 pm32 cd32 ct32 : Value}
    {f33 : Addr} {od33 an33 : Option Addr} {sl33 : Array (Option Value)} {oc33 kV33 dc33 pm33 cd33 ct33 : Value}
    {f34 : Addr} {od34 an34 : Option Addr} {sl34 : Array (Option Value)} {oc34 kV34 dc34 pm34 cd34 ct34 : Value}
    {f35 : Addr} {od35 an35 : Option Addr} {sl35 : Array (Option Value)} {oc35 kV35 dc35 pm35 cd35 ct35 : Value}
    {f36 : Addr} {od36 an36 : Option Addr} {sl36 : Array (Option Value)} {oc36 kV36 dc36 pm36 cd36 ct36 : Value}
    {f37 : Addr} {od37 an37 : Option Addr} {sl37 : Array (Option Value)} {oc37 kV37 dc37 pm37 cd37 ct37 : Value}
    {f38 : Addr} {od38 an38 : Option Addr} {sl38 : Array (Option Value)} {oc38 kV38 dc38 pm38 cd38 ct38 : Value}
    {f39 : Addr} {od39 an39 : Option Addr} {sl39 : Array (Option Value)} {oc39 kV39 dc39 pm39 cd39 ct39 : Value}
    {f40 : Addr} {od40 an40 : Option Addr} {sl40 : Array (Option Value)} {oc40 kV40 dc40 pm40 cd40 ct40 : Value}
    {f41 : Addr} {od41 an41 : Option Addr} {sl41 : Array (Option Value)} {oc41 kV41 dc41 pm41 cd41 ct41 : Value}
    {f42 : Addr} {od42 an42 : Option Addr} {sl42 : Array (Option Value)} {oc42 kV42 dc42 pm42 cd42 ct42 : Value}
    {f43 : Addr} {od43 an43 : Option Addr} {sl43 : Array (Option Value)} {oc43 kV43 dc43 pm43 cd43 ct43 : Value}
    {f44 : Addr} {od44 an44 : Option Addr} {sl44 : Array (Option Value)} {oc44 kV44 dc44 pm44 cd44 ct44 : Value}
    {t_FIGURES_reading : Tok}
    {t_FIGURES_words : Tok}
    {t_LAST_DAY : Tok}
    {t_MOST_DEEP : Tok}
    {t_MOST_OPEN : Tok}
    {t_MOST_SIGNS : Tok}
    {t_MOST_THREADS : Tok}
    {t_SMALL : Tok}
    (ac0 : PySem.W.nsIn K mainGlobals "Condition" = some (some (.ref c0)))
    (ac1 : PySem.W.nsIn K mainGlobals "Anything" = some (some (.ref c1)))
    (ac2 : PySem.W.nsIn K mainGlobals "HasWord" = some (some (.ref c2)))
    (ac3 : PySem.W.nsIn K mainGlobals "InTitle" = some (some (.ref c3)))
    (ac4 : PySem.W.nsIn K mainGlobals "FromSender" = some (some (.ref c4)))
    (ac5 : PySem.W.nsIn K mainGlobals "InFolder" = some (some (.ref c5)))
    (ac6 : PySem.W.nsIn K mainGlobals "IsMarked" = some (some (.ref c6)))
    (ac7 : PySem.W.nsIn K mainGlobals "OnDays" = some (some (.ref c7)))
    (ac8 : PySem.W.nsIn K mainGlobals "IsAnswer" = some (some (.ref c8)))
    (ac9 : PySem.W.nsIn K mainGlobals "NotSo" = some (some (.ref c9)))
    (ac10 : PySem.W.nsIn K mainGlobals "InThread" = some (some (.ref c10)))
    (ac11 : PySem.W.nsIn K mainGlobals "BothSo" = some (some (.ref c11)))
    (ac12 : PySem.W.nsIn K mainGlobals "EitherSo" = some (some (.ref c12)))
    (ac13 : PySem.W.nsIn K mainGlobals "MailError" = some (some (.ref c13)))
    (ac14 : PySem.W.nsIn K mainGlobals "NoRule" = some (some (.ref c14)))
    (a0_1 : PySem.W.findIn K (.ref c1) "tree" = some (some (.ref f0)))
    (i0 : PySem.W.isFn K (.ref f0) = true)
    (l0 : K.lookup f0 = some ⟨oc0, od0, .func (PySem.W.fnOf "tree" "Anything.tree" (defArgs s_Anything_tree) (defBody s_Anything_tree) (defScope s_Anything_tree) .none kV0 dc0 pm0 an0 cd0 ct0), sl0⟩)
    (cc0 : PySem.W.codeIn K cd0 "Anything.tree" = true)
    (k0 : PySem.W.keepIn K (.ref f0) = true)
    (a1_2 : PySem.W.findIn K (.ref c2) "__init__" = some (some (.ref f1)))
    (a1_3 : PySem.W.findIn K (.ref c3) "__init__" = some (some (.ref f1)))
    (a1_4 : PySem.W.findIn K (.ref c4) "__init__" = some (some (.ref f1)))
    (a1_5 : PySem.W.findIn K (.ref c5) "__init__" = some (some (.ref f1)))
    (a1_6 : PySem.W.findIn K (.ref c6) "__init__" = some (some (.ref f1)))
    (i1 : PySem.W.isFn K (.ref f1) = true)
    (l1 : K.lookup f1 = some ⟨oc1, od1, .func (PySem.W.fnOf "__init__" "OfWord.__init__" (defArgs s_OfWord___init__) (defBody s_OfWord___init__) (defScope s_OfWord___init__) .none kV1 dc1 pm1 an1 cd1 ct1), sl1⟩)
    (cc1 : PySem.W.codeIn K cd1 "OfWord.__init__" = true)
    (k1 : PySem.W.keepIn K (.ref f1) = true)
    (mk2 : PySem.W.makesIn K c2 = true)
    (kc2 : PySem.W.keepIn K (.ref c2) = true)
    (mk3 : PySem.W.makesIn K c3 = true)
    (kc3 : PySem.W.keepIn K (.ref c3) = true)
    (mk4 : PySem.W.makesIn K c4 = true)
    (kc4 : PySem.W.keepIn K (.ref c4) = true)
    (mk5 : PySem.W.makesIn K c5 = true)
    (kc5 : PySem.W.keepIn K (.ref c5) = true)
    (mk6 : PySem.W.makesIn K c6 = true)
    (kc6 : PySem.W.keepIn K (.ref c6) = true)
    (a2_2 : PySem.W.findIn K (.ref c2) "sign" = some (some (.ref f2)))
    (i2 : PySem.W.isFn K (.ref f2) = true)
    (l2 : K.lookup f2 = some ⟨oc2, od2, .func (PySem.W.fnOf "sign" "OfWord.sign" (defArgs s_OfWord_sign) (defBody s_OfWord_sign) (defScope s_OfWord_sign) .none kV2 dc2 pm2 an2 cd2 ct2), sl2⟩)
    (cc2 : PySem.W.codeIn K cd2 "OfWord.sign" = true)
    (k2 : PySem.W.keepIn K (.ref f2) = true)
    (a3_2 : PySem.W.findIn K (.ref c2) "tree" = some (some (.ref f3)))
    (a3_3 : PySem.W.findIn K (.ref c3) "tree" = some (some (.ref f3)))
    (a3_4 : PySem.W.findIn K (.ref c4) "tree" = some (some (.ref f3)))
    (a3_5 : PySem.W.findIn K (.ref c5) "tree" = some (some (.ref f3)))
    (a3_6 : PySem.W.findIn K (.ref c6) "tree" = some (some (.ref f3)))
    (i3 : PySem.W.isFn K (.ref f3) = true)
    (l3 : K.lookup f3 = some ⟨oc3, od3, .func (PySem.W.fnOf "tree" "OfWord.tree" (defArgs s_OfWord_tree) (defBody s_OfWord_tree) (defScope s_OfWord_tree) .none kV3 dc3 pm3 an3 cd3 ct3), sl3⟩)
    (cc3 : PySem.W.codeIn K cd3 "OfWord.tree" = true)
    (k3 : PySem.W.keepIn K (.ref f3) = true)
    (a4_3 : PySem.W.findIn K (.ref c3) "sign" = some (some (.ref f4)))
    (i4 : PySem.W.isFn K (.ref f4) = true)
    (l4 : K.lookup f4 = some ⟨oc4, od4, .func (PySem.W.fnOf "sign" "InTitle.sign" (defArgs s_InTitle_sign) (defBody s_InTitle_sign) (defScope s_InTitle_sign) .none kV4 dc4 pm4 an4 cd4 ct4), sl4⟩)
    (cc4 : PySem.W.codeIn K cd4 "InTitle.sign" = true)
    (k4 : PySem.W.keepIn K (.ref f4) = true)
    (a5_4 : PySem.W.findIn K (.ref c4) "sign" = some (some (.ref f5)))
    (i5 : PySem.W.isFn K (.ref f5) = true)
    (l5 : K.lookup f5 = some ⟨oc5, od5, .func (PySem.W.fnOf "sign" "FromSender.sign" (defArgs s_FromSender_sign) (defBody s_FromSender_sign) (defScope s_FromSender_sign) .none kV5 dc5 pm5 an5 cd5 ct5), sl5⟩)
    (cc5 : PySem.W.codeIn K cd5 "FromSender.sign" = true)
    (k5 : PySem.W.keepIn K (.ref f5) = true)
    (a6_5 : PySem.W.findIn K (.ref c5) "sign" = some (some (.ref f6)))
    (i6 : PySem.W.isFn K (.ref f6) = true)
    (l6 : K.lookup f6 = some ⟨oc6, od6, .func (PySem.W.fnOf "sign" "InFolder.sign" (defArgs s_InFolder_sign) (defBody s_InFolder_sign) (defScope s_InFolder_sign) .none kV6 dc6 pm6 an6 cd6 ct6), sl6⟩)
    (cc6 : PySem.W.codeIn K cd6 "InFolder.sign" = true)
    (k6 : PySem.W.keepIn K (.ref f6) = true)
    (a7_6 : PySem.W.findIn K (.ref c6) "sign" = some (some (.ref f7)))
    (i7 : PySem.W.isFn K (.ref f7) = true)
    (l7 : K.lookup f7 = some ⟨oc7, od7, .func (PySem.W.fnOf "sign" "IsMarked.sign" (defArgs s_IsMarked_sign) (defBody s_IsMarked_sign) (defScope s_IsMarked_sign) .none kV7 dc7 pm7 an7 cd7 ct7), sl7⟩)
    (cc7 : PySem.W.codeIn K cd7 "IsMarked.sign" = true)
    (k7 : PySem.W.keepIn K (.ref f7) = true)
    (a8_7 : PySem.W.findIn K (.ref c7) "__init__" = some (some (.ref f8)))
    (i8 : PySem.W.isFn K (.ref f8) = true)
    (l8 : K.lookup f8 = some ⟨oc8, od8, .func (PySem.W.fnOf "__init__" "OnDays.__init__" (defArgs s_OnDays___init__) (defBody s_OnDays___init__) (defScope s_OnDays___init__) .none kV8 dc8 pm8 an8 cd8 ct8), sl8⟩)
    (cc8 : PySem.W.codeIn K cd8 "OnDays.__init__" = true)
    (k8 : PySem.W.keepIn K (.ref f8) = true)
    (mk7 : PySem.W.makesIn K c7 = true)
    (kc7 : PySem.W.keepIn K (.ref c7) = true)
    (a9_7 : PySem.W.findIn K (.ref c7) "tree" = some (some (.ref f9)))
    (i9 : PySem.W.isFn K (.ref f9) = true)
    (l9 : K.lookup f9 = some ⟨oc9, od9, .func (PySem.W.fnOf "tree" "OnDays.tree" (defArgs s_OnDays_tree) (defBody s_OnDays_tree) (defScope s_OnDays_tree) .none kV9 dc9 pm9 an9 cd9 ct9), sl9⟩)
    (cc9 : PySem.W.codeIn K cd9 "OnDays.tree" = true)
    (k9 : PySem.W.keepIn K (.ref f9) = true)
    (a10_8 : PySem.W.findIn K (.ref c8) "tree" = some (some (.ref f10)))
    (i10 : PySem.W.isFn K (.ref f10) = true)
    (l10 : K.lookup f10 = some ⟨oc10, od10, .func (PySem.W.fnOf "tree" "IsAnswer.tree" (defArgs s_IsAnswer_tree) (defBody s_IsAnswer_tree) (defScope s_IsAnswer_tree) .none kV10 dc10 pm10 an10 cd10 ct10), sl10⟩)
    (cc10 : PySem.W.codeIn K cd10 "IsAnswer.tree" = true)
    (k10 : PySem.W.keepIn K (.ref f10) = true)
    (a11_9 : PySem.W.findIn K (.ref c9) "__init__" = some (some (.ref f11)))
    (a11_10 : PySem.W.findIn K (.ref c10) "__init__" = some (some (.ref f11)))
    (i11 : PySem.W.isFn K (.ref f11) = true)
    (l11 : K.lookup f11 = some ⟨oc11, od11, .func (PySem.W.fnOf "__init__" "OfOne.__init__" (defArgs s_OfOne___init__) (defBody s_OfOne___init__) (defScope s_OfOne___init__) .none kV11 dc11 pm11 an11 cd11 ct11), sl11⟩)
    (cc11 : PySem.W.codeIn K cd11 "OfOne.__init__" = true)
    (k11 : PySem.W.keepIn K (.ref f11) = true)
    (mk9 : PySem.W.makesIn K c9 = true)
    (kc9 : PySem.W.keepIn K (.ref c9) = true)
    (mk10 : PySem.W.makesIn K c10 = true)
    (kc10 : PySem.W.keepIn K (.ref c10) = true)
    (a12_9 : PySem.W.findIn K (.ref c9) "sign" = some (some (.ref f12)))
    (i12 : PySem.W.isFn K (.ref f12) = true)
    (l12 : K.lookup f12 = some ⟨oc12, od12, .func (PySem.W.fnOf "sign" "OfOne.sign" (defArgs s_OfOne_sign) (defBody s_OfOne_sign) (defScope s_OfOne_sign) .none kV12 dc12 pm12 an12 cd12 ct12), sl12⟩)
    (cc12 : PySem.W.codeIn K cd12 "OfOne.sign" = true)
    (k12 : PySem.W.keepIn K (.ref f12) = true)
    (a13_9 : PySem.W.findIn K (.ref c9) "tree" = some (some (.ref f13)))
    (a13_10 : PySem.W.findIn K (.ref c10) "tree" = some (some (.ref f13)))
    (i13 : PySem.W.isFn K (.ref f13) = true)
    (l13 : K.lookup f13 = some ⟨oc13, od13, .func (PySem.W.fnOf "tree" "OfOne.tree" (defArgs s_OfOne_tree) (defBody s_OfOne_tree) (defScope s_OfOne_tree) .none kV13 dc13 pm13 an13 cd13 ct13), sl13⟩)
    (cc13 : PySem.W.codeIn K cd13 "OfOne.tree" = true)
    (k13 : PySem.W.keepIn K (.ref f13) = true)
    (a14_10 : PySem.W.findIn K (.ref c10) "sign" = some (some (.ref f14)))
    (i14 : PySem.W.isFn K (.ref f14) = true)
    (l14 : K.lookup f14 = some ⟨oc14, od14, .func (PySem.W.fnOf "sign" "InThread.sign" (defArgs s_InThread_sign) (defBody s_InThread_sign) (defScope s_InThread_sign) .none kV14 dc14 pm14 an14 cd14 ct14), sl14⟩)
    (cc14 : PySem.W.codeIn K cd14 "InThread.sign" = true)
    (k14 : PySem.W.keepIn K (.ref f14) = true)
    (a15_11 : PySem.W.findIn K (.ref c11) "__init__" = some (some (.ref f15)))
    (a15_12 : PySem.W.findIn K (.ref c12) "__init__" = some (some (.ref f15)))
    (i15 : PySem.W.isFn K (.ref f15) = true)
    (l15 : K.lookup f15 = some ⟨oc15, od15, .func (PySem.W.fnOf "__init__" "OfTwo.__init__" (defArgs s_OfTwo___init__) (defBody s_OfTwo___init__) (defScope s_OfTwo___init__) .none kV15 dc15 pm15 an15 cd15 ct15), sl15⟩)
    (cc15 : PySem.W.codeIn K cd15 "OfTwo.__init__" = true)
    (k15 : PySem.W.keepIn K (.ref f15) = true)
    (mk11 : PySem.W.makesIn K c11 = true)
    (kc11 : PySem.W.keepIn K (.ref c11) = true)
    (mk12 : PySem.W.makesIn K c12 = true)
    (kc12 : PySem.W.keepIn K (.ref c12) = true)
    (a16_11 : PySem.W.findIn K (.ref c11) "sign" = some (some (.ref f16)))
    (i16 : PySem.W.isFn K (.ref f16) = true)
    (l16 : K.lookup f16 = some ⟨oc16, od16, .func (PySem.W.fnOf "sign" "OfTwo.sign" (defArgs s_OfTwo_sign) (defBody s_OfTwo_sign) (defScope s_OfTwo_sign) .none kV16 dc16 pm16 an16 cd16 ct16), sl16⟩)
    (cc16 : PySem.W.codeIn K cd16 "OfTwo.sign" = true)
    (k16 : PySem.W.keepIn K (.ref f16) = true)
    (a17_11 : PySem.W.findIn K (.ref c11) "tree" = some (some (.ref f17)))
    (a17_12 : PySem.W.findIn K (.ref c12) "tree" = some (some (.ref f17)))
    (i17 : PySem.W.isFn K (.ref f17) = true)
    (l17 : K.lookup f17 = some ⟨oc17, od17, .func (PySem.W.fnOf "tree" "OfTwo.tree" (defArgs s_OfTwo_tree) (defBody s_OfTwo_tree) (defScope s_OfTwo_tree) .none kV17 dc17 pm17 an17 cd17 ct17), sl17⟩)
    (cc17 : PySem.W.codeIn K cd17 "OfTwo.tree" = true)
    (k17 : PySem.W.keepIn K (.ref f17) = true)
    (a18_12 : PySem.W.findIn K (.ref c12) "sign" = some (some (.ref f18)))
    (i18 : PySem.W.isFn K (.ref f18) = true)
    (l18 : K.lookup f18 = some ⟨oc18, od18, .func (PySem.W.fnOf "sign" "EitherSo.sign" (defArgs s_EitherSo_sign) (defBody s_EitherSo_sign) (defScope s_EitherSo_sign) .none kV18 dc18 pm18 an18 cd18 ct18), sl18⟩)
    (cc18 : PySem.W.codeIn K cd18 "EitherSo.sign" = true)
    (k18 : PySem.W.keepIn K (.ref f18) = true)
    (a19 : PySem.W.nsIn K mainGlobals "of_word" = some (some (.ref f19)))
    (l19 : K.lookup f19 = some ⟨oc19, od19, .func (PySem.W.fnOf "of_word" "of_word" (defArgs s_of_word) (defBody s_of_word) (defScope s_of_word) .none kV19 dc19 pm19 an19 cd19 ct19), sl19⟩)
    (cc19 : PySem.W.codeIn K cd19 "of_word" = true)
    (k19 : PySem.W.keepIn K (.ref f19) = true)
    (a20 : PySem.W.nsIn K mainGlobals "deep" = some (some (.ref f20)))
    (l20 : K.lookup f20 = some ⟨oc20, od20, .func (PySem.W.fnOf "deep" "deep" (defArgs s_deep) (defBody s_deep) (defScope s_deep) .none kV20 dc20 pm20 an20 cd20 ct20), sl20⟩)
    (cc20 : PySem.W.codeIn K cd20 "deep" = true)
    (k20 : PySem.W.keepIn K (.ref f20) = true)
    (a21 : PySem.W.nsIn K mainGlobals "threads_deep" = some (some (.ref f21)))
    (l21 : K.lookup f21 = some ⟨oc21, od21, .func (PySem.W.fnOf "threads_deep" "threads_deep" (defArgs s_threads_deep) (defBody s_threads_deep) (defScope s_threads_deep) .none kV21 dc21 pm21 an21 cd21 ct21), sl21⟩)
    (cc21 : PySem.W.codeIn K cd21 "threads_deep" = true)
    (k21 : PySem.W.keepIn K (.ref f21) = true)
    (a22 : PySem.W.nsIn K mainGlobals "is_sign" = some (some (.ref f22)))
    (l22 : K.lookup f22 = some ⟨oc22, od22, .func (PySem.W.fnOf "is_sign" "is_sign" (defArgs s_is_sign) (defBody s_is_sign) (defScope s_is_sign) .none kV22 dc22 pm22 an22 cd22 ct22), sl22⟩)
    (cc22 : PySem.W.codeIn K cd22 "is_sign" = true)
    (k22 : PySem.W.keepIn K (.ref f22) = true)
    (a23 : PySem.W.nsIn K mainGlobals "is_word" = some (some (.ref f23)))
    (l23 : K.lookup f23 = some ⟨oc23, od23, .func (PySem.W.fnOf "is_word" "is_word" (defArgs s_is_word) (defBody s_is_word) (defScope s_is_word) .none kV23 dc23 pm23 an23 cd23 ct23), sl23⟩)
    (cc23 : PySem.W.codeIn K cd23 "is_word" = true)
    (k23 : PySem.W.keepIn K (.ref f23) = true)
    (a24 : PySem.W.nsIn K mainGlobals "tokens_of" = some (some (.ref f24)))
    (l24 : K.lookup f24 = some ⟨oc24, od24, .func (PySem.W.fnOf "tokens_of" "tokens_of" (defArgs s_tokens_of) (defBody s_tokens_of) (defScope s_tokens_of) .none kV24 dc24 pm24 an24 cd24 ct24), sl24⟩)
    (cc24 : PySem.W.codeIn K cd24 "tokens_of" = true)
    (k24 : PySem.W.keepIn K (.ref f24) = true)
    (a25 : PySem.W.nsIn K mainGlobals "token_at" = some (some (.ref f25)))
    (l25 : K.lookup f25 = some ⟨oc25, od25, .func (PySem.W.fnOf "token_at" "token_at" (defArgs s_token_at) (defBody s_token_at) (defScope s_token_at) .none kV25 dc25 pm25 an25 cd25 ct25), sl25⟩)
    (cc25 : PySem.W.codeIn K cd25 "token_at" = true)
    (k25 : PySem.W.keepIn K (.ref f25) = true)
    (a26 : PySem.W.nsIn K mainGlobals "word_at" = some (some (.ref f26)))
    (l26 : K.lookup f26 = some ⟨oc26, od26, .func (PySem.W.fnOf "word_at" "word_at" (defArgs s_word_at) (defBody s_word_at) (defScope s_word_at) .none kV26 dc26 pm26 an26 cd26 ct26), sl26⟩)
    (cc26 : PySem.W.codeIn K cd26 "word_at" = true)
    (k26 : PySem.W.keepIn K (.ref f26) = true)
    (a27 : PySem.W.nsIn K mainGlobals "number_at" = some (some (.ref f27)))
    (l27 : K.lookup f27 = some ⟨oc27, od27, .func (PySem.W.fnOf "number_at" "number_at" (defArgs s_number_at) (defBody s_number_at) (defScope s_number_at) .none kV27 dc27 pm27 an27 cd27 ct27), sl27⟩)
    (cc27 : PySem.W.codeIn K cd27 "number_at" = true)
    (k27 : PySem.W.keepIn K (.ref f27) = true)
    (a28 : PySem.W.nsIn K mainGlobals "days_at" = some (some (.ref f28)))
    (l28 : K.lookup f28 = some ⟨oc28, od28, .func (PySem.W.fnOf "days_at" "days_at" (defArgs s_days_at) (defBody s_days_at) (defScope s_days_at) .none kV28 dc28 pm28 an28 cd28 ct28), sl28⟩)
    (cc28 : PySem.W.codeIn K cd28 "days_at" = true)
    (k28 : PySem.W.keepIn K (.ref f28) = true)
    (a29 : PySem.W.nsIn K mainGlobals "both_at" = some (some (.ref f29)))
    (l29 : K.lookup f29 = some ⟨oc29, od29, .func (PySem.W.fnOf "both_at" "both_at" (defArgs s_both_at) (defBody s_both_at) (defScope s_both_at) .none kV29 dc29 pm29 an29 cd29 ct29), sl29⟩)
    (cc29 : PySem.W.codeIn K cd29 "both_at" = true)
    (k29 : PySem.W.keepIn K (.ref f29) = true)
    (a30 : PySem.W.nsIn K mainGlobals "either_at" = some (some (.ref f30)))
    (l30 : K.lookup f30 = some ⟨oc30, od30, .func (PySem.W.fnOf "either_at" "either_at" (defArgs s_either_at) (defBody s_either_at) (defScope s_either_at) .none kV30 dc30 pm30 an30 cd30 ct30), sl30⟩)
    (cc30 : PySem.W.codeIn K cd30 "either_at" = true)
    (k30 : PySem.W.keepIn K (.ref f30) = true)
    (a31 : PySem.W.nsIn K mainGlobals "_law_cell_at" = some (some (.ref f31)))
    (l31 : K.lookup f31 = some ⟨oc31, od31, .func (PySem.W.fnOf "_law_cell_at" "_law_cell_at" (defArgs s_law_cell_at) (defBody s_law_cell_at) (defScope s_law_cell_at) .none kV31 dc31 pm31 an31 cd31 ct31), sl31⟩)
    (cc31 : PySem.W.codeIn K cd31 "_law_cell_at" = true)
    (k31 : PySem.W.keepIn K (.ref f31) = true)
    (a32 : PySem.W.nsIn K mainGlobals "_law_mixed" = some (some (.ref f32)))
    (l32 : K.lookup f32 = some ⟨oc32, od32, .func (PySem.W.fnOf "_law_mixed" "_law_mixed" (defArgs s_law_mixed) (defBody s_law_mixed) (defScope s_law_mixed) .none kV32 dc32 pm32 an32 cd32 ct32), sl32⟩)
    (cc32 : PySem.W.codeIn K cd32 "_law_mixed" = true)
    (k32 : PySem.W.keepIn K (.ref f32) = true)
    (a33 : PySem.W.nsIn K mainGlobals "_law_word_by" = some (some (.ref f33)))
    (l33 : K.lookup f33 = some ⟨oc33, od33, .func (PySem.W.fnOf "_law_word_by" "_law_word_by" (defArgs s_law_word_by) (defBody s_law_word_by) (defScope s_law_word_by) .none kV33 dc33 pm33 an33 cd33 ct33), sl33⟩)
    (cc33 : PySem.W.codeIn K cd33 "_law_word_by" = true)
    (k33 : PySem.W.keepIn K (.ref f33) = true)
    (a34 : PySem.W.nsIn K mainGlobals "_law_leaf_by" = some (some (.ref f34)))
    (l34 : K.lookup f34 = some ⟨oc34, od34, .func (PySem.W.fnOf "_law_leaf_by" "_law_leaf_by" (defArgs s_law_leaf_by) (defBody s_law_leaf_by) (defScope s_law_leaf_by) .none kV34 dc34 pm34 an34 cd34 ct34), sl34⟩)
    (cc34 : PySem.W.codeIn K cd34 "_law_leaf_by" = true)
    (k34 : PySem.W.keepIn K (.ref f34) = true)
    (a35 : PySem.W.nsIn K mainGlobals "_law_threads" = some (some (.ref f35)))
    (l35 : K.lookup f35 = some ⟨oc35, od35, .func (PySem.W.fnOf "_law_threads" "_law_threads" (defArgs s_law_threads) (defBody s_law_threads) (defScope s_law_threads) .none kV35 dc35 pm35 an35 cd35 ct35), sl35⟩)
    (cc35 : PySem.W.codeIn K cd35 "_law_threads" = true)
    (k35 : PySem.W.keepIn K (.ref f35) = true)
    (a36 : PySem.W.nsIn K mainGlobals "_law_tree_by" = some (some (.ref f36)))
    (l36 : K.lookup f36 = some ⟨oc36, od36, .func (PySem.W.fnOf "_law_tree_by" "_law_tree_by" (defArgs s_law_tree_by) (defBody s_law_tree_by) (defScope s_law_tree_by) .none kV36 dc36 pm36 an36 cd36 ct36), sl36⟩)
    (cc36 : PySem.W.codeIn K cd36 "_law_tree_by" = true)
    (k36 : PySem.W.keepIn K (.ref f36) = true)
    (a37 : PySem.W.nsIn K mainGlobals "_law_number" = some (some (.ref f37)))
    (l37 : K.lookup f37 = some ⟨oc37, od37, .func (PySem.W.fnOf "_law_number" "_law_number" (defArgs s_law_number) (defBody s_law_number) (defScope s_law_number) .none kV37 dc37 pm37 an37 cd37 ct37), sl37⟩)
    (cc37 : PySem.W.codeIn K cd37 "_law_number" = true)
    (k37 : PySem.W.keepIn K (.ref f37) = true)
    (a38 : PySem.W.nsIn K mainGlobals "_law_day_tokens" = some (some (.ref f38)))
    (l38 : K.lookup f38 = some ⟨oc38, od38, .func (PySem.W.fnOf "_law_day_tokens" "_law_day_tokens" (defArgs s_law_day_tokens) (defBody s_law_day_tokens) (defScope s_law_day_tokens) .none kV38 dc38 pm38 an38 cd38 ct38), sl38⟩)
    (cc38 : PySem.W.codeIn K cd38 "_law_day_tokens" = true)
    (k38 : PySem.W.keepIn K (.ref f38) = true)
    (a39 : PySem.W.nsIn K mainGlobals "_law_tokens" = some (some (.ref f39)))
    (l39 : K.lookup f39 = some ⟨oc39, od39, .func (PySem.W.fnOf "_law_tokens" "_law_tokens" (defArgs s_law_tokens) (defBody s_law_tokens) (defScope s_law_tokens) .none kV39 dc39 pm39 an39 cd39 ct39), sl39⟩)
    (cc39 : PySem.W.codeIn K cd39 "_law_tokens" = true)
    (k39 : PySem.W.keepIn K (.ref f39) = true)
    (a40 : PySem.W.nsIn K mainGlobals "_law_joined" = some (some (.ref f40)))
    (l40 : K.lookup f40 = some ⟨oc40, od40, .func (PySem.W.fnOf "_law_joined" "_law_joined" (defArgs s_law_joined) (defBody s_law_joined) (defScope s_law_joined) .none kV40 dc40 pm40 an40 cd40 ct40), sl40⟩)
    (cc40 : PySem.W.codeIn K cd40 "_law_joined" = true)
    (k40 : PySem.W.keepIn K (.ref f40) = true)
    (a41 : PySem.W.nsIn K mainGlobals "one_at" = some (some (.ref f41)))
    (l41 : K.lookup f41 = some ⟨oc41, od41, .func (PySem.W.fnOf "one_at" "one_at" (defArgs s_one_at) (defBody s_one_at) (defScope s_one_at) .none kV41 dc41 pm41 an41 cd41 ct41), sl41⟩)
    (cc41 : PySem.W.codeIn K cd41 "one_at" = true)
    (k41 : PySem.W.keepIn K (.ref f41) = true)
    (a42 : PySem.W.nsIn K mainGlobals "whole_at" = some (some (.ref f42)))
    (l42 : K.lookup f42 = some ⟨oc42, od42, .func (PySem.W.fnOf "whole_at" "whole_at" (defArgs s_whole_at) (defBody s_whole_at) (defScope s_whole_at) .none kV42 dc42 pm42 an42 cd42 ct42), sl42⟩)
    (cc42 : PySem.W.codeIn K cd42 "whole_at" = true)
    (k42 : PySem.W.keepIn K (.ref f42) = true)
    (a43 : PySem.W.nsIn K mainGlobals "read_condition" = some (some (.ref f43)))
    (l43 : K.lookup f43 = some ⟨oc43, od43, .func (PySem.W.fnOf "read_condition" "read_condition" (defArgs s_read_condition) (defBody s_read_condition) (defScope s_read_condition) .none kV43 dc43 pm43 an43 cd43 ct43), sl43⟩)
    (cc43 : PySem.W.codeIn K cd43 "read_condition" = true)
    (k43 : PySem.W.keepIn K (.ref f43) = true)
    (a44 : PySem.W.nsIn K mainGlobals "law" = some (some (.ref f44)))
    (l44 : K.lookup f44 = some ⟨oc44, od44, .func (PySem.W.fnOf "law" "law" (defArgs s_law) (defBody s_law) (defScope s_law) .none kV44 dc44 pm44 an44 cd44 ct44), sl44⟩)
    (cc44 : PySem.W.codeIn K cd44 "law" = true)
    (k44 : PySem.W.keepIn K (.ref f44) = true)
    (mo1 : PySem.W.makesIn K c1 = true)
    (io1 : PySem.W.findIn K (.ref c1) "__init__" = some (some (.builtin "object.__init__")))
    (to1 : PySem.W.mroIn K c1 (.type "object") = some true)
    (ko1 : PySem.W.keepIn K (.ref c1) = true)
    (mo8 : PySem.W.makesIn K c8 = true)
    (io8 : PySem.W.findIn K (.ref c8) "__init__" = some (some (.builtin "object.__init__")))
    (to8 : PySem.W.mroIn K c8 (.type "object") = some true)
    (ko8 : PySem.W.keepIn K (.ref c8) = true)
    (pg1 : PySem.W.plainGet K c1 Str.empty = true)
    (hd1 : PySem.W.hasDictIn K c1 = true)
    (po1 : PySem.W.plainOver K c1 = true)
    (sa1 : PySem.W.findIn K (.ref c1) "__setattr__" = some (some (.builtin "object.__setattr__")))
    (pg2 : PySem.W.plainGet K c2 Str.empty = true)
    (hd2 : PySem.W.hasDictIn K c2 = true)
    (po2 : PySem.W.plainOver K c2 = true)
    (sa2 : PySem.W.findIn K (.ref c2) "__setattr__" = some (some (.builtin "object.__setattr__")))
    (nf2_0 : PySem.W.findIn K (.ref c2) "word" = some none)
    (pg3 : PySem.W.plainGet K c3 Str.empty = true)
    (hd3 : PySem.W.hasDictIn K c3 = true)
    (po3 : PySem.W.plainOver K c3 = true)
    (sa3 : PySem.W.findIn K (.ref c3) "__setattr__" = some (some (.builtin "object.__setattr__")))
    (nf3_0 : PySem.W.findIn K (.ref c3) "word" = some none)
    (pg4 : PySem.W.plainGet K c4 Str.empty = true)
    (hd4 : PySem.W.hasDictIn K c4 = true)
    (po4 : PySem.W.plainOver K c4 = true)
    (sa4 : PySem.W.findIn K (.ref c4) "__setattr__" = some (some (.builtin "object.__setattr__")))
    (nf4_0 : PySem.W.findIn K (.ref c4) "word" = some none)
    (pg5 : PySem.W.plainGet K c5 Str.empty = true)
    (hd5 : PySem.W.hasDictIn K c5 = true)
    (po5 : PySem.W.plainOver K c5 = true)
    (sa5 : PySem.W.findIn K (.ref c5) "__setattr__" = some (some (.builtin "object.__setattr__")))
    (nf5_0 : PySem.W.findIn K (.ref c5) "word" = some none)
    (pg6 : PySem.W.plainGet K c6 Str.empty = true)
    (hd6 : PySem.W.hasDictIn K c6 = true)
    (po6 : PySem.W.plainOver K c6 = true)
    (sa6 : PySem.W.findIn K (.ref c6) "__setattr__" = some (some (.builtin "object.__setattr__")))
    (nf6_0 : PySem.W.findIn K (.ref c6) "word" = some none)
    (pg7 : PySem.W.plainGet K c7 Str.empty = true)
    (hd7 : PySem.W.hasDictIn K c7 = true)
    (po7 : PySem.W.plainOver K c7 = true)
    (sa7 : PySem.W.findIn K (.ref c7) "__setattr__" = some (some (.builtin "object.__setattr__")))
    (nf7_0 : PySem.W.findIn K (.ref c7) "low" = some none)
    (nf7_1 : PySem.W.findIn K (.ref c7) "high" = some none)
    (pg8 : PySem.W.plainGet K c8 Str.empty = true)
    (hd8 : PySem.W.hasDictIn K c8 = true)
    (po8 : PySem.W.plainOver K c8 = true)
    (sa8 : PySem.W.findIn K (.ref c8) "__setattr__" = some (some (.builtin "object.__setattr__")))
    (pg9 : PySem.W.plainGet K c9 Str.empty = true)
    (hd9 : PySem.W.hasDictIn K c9 = true)
    (po9 : PySem.W.plainOver K c9 = true)
    (sa9 : PySem.W.findIn K (.ref c9) "__setattr__" = some (some (.builtin "object.__setattr__")))
    (nf9_0 : PySem.W.findIn K (.ref c9) "inner" = some none)
    (pg10 : PySem.W.plainGet K c10 Str.empty = true)
    (hd10 : PySem.W.hasDictIn K c10 = true)
    (po10 : PySem.W.plainOver K c10 = true)
    (sa10 : PySem.W.findIn K (.ref c10) "__setattr__" = some (some (.builtin "object.__setattr__")))
    (nf10_0 : PySem.W.findIn K (.ref c10) "inner" = some none)
    (pg11 : PySem.W.plainGet K c11 Str.empty = true)
    (hd11 : PySem.W.hasDictIn K c11 = true)
    (po11 : PySem.W.plainOver K c11 = true)
    (sa11 : PySem.W.findIn K (.ref c11) "__setattr__" = some (some (.builtin "object.__setattr__")))
    (nf11_0 : PySem.W.findIn K (.ref c11) "first" = some none)
    (nf11_1 : PySem.W.findIn K (.ref c11) "second" = some none)
    (pg12 : PySem.W.plainGet K c12 Str.empty = true)
    (hd12 : PySem.W.hasDictIn K c12 = true)
    (po12 : PySem.W.plainOver K c12 = true)
    (sa12 : PySem.W.findIn K (.ref c12) "__setattr__" = some (some (.builtin "object.__setattr__")))
    (nf12_0 : PySem.W.findIn K (.ref c12) "first" = some none)
    (nf12_1 : PySem.W.findIn K (.ref c12) "second" = some none)
    (ee : PySem.W.specialIn K (.builtin "object.__class__") "__get__" = some (some (.builtin "getset_descriptor.__get__")))
    (ef : PySem.W.takesIn K (.builtin "object.__class__") = some true)
    (hdE0 : PySem.W.hasDictIn K c0 = true)
    (tyE0 : PySem.W.typeIn K (.ref c0) = some (.type "type"))
    (dc1 : PySem.W.findIn K (.ref c1) "__class__" = some (some (.builtin "object.__class__")))
    (dm1 : PySem.W.mroIn K c1 (.type "object") = some true)
    (ds1_0 : PySem.W.subIn K (.ref c1) (.ref c0) = some true)
    (dc2 : PySem.W.findIn K (.ref c2) "__class__" = some (some (.builtin "object.__class__")))
    (dm2 : PySem.W.mroIn K c2 (.type "object") = some true)
    (ds2_0 : PySem.W.subIn K (.ref c2) (.ref c0) = some true)
    (dc3 : PySem.W.findIn K (.ref c3) "__class__" = some (some (.builtin "object.__class__")))
    (dm3 : PySem.W.mroIn K c3 (.type "object") = some true)
    (ds3_0 : PySem.W.subIn K (.ref c3) (.ref c0) = some true)
    (dc4 : PySem.W.findIn K (.ref c4) "__class__" = some (some (.builtin "object.__class__")))
    (dm4 : PySem.W.mroIn K c4 (.type "object") = some true)
    (ds4_0 : PySem.W.subIn K (.ref c4) (.ref c0) = some true)
    (dc5 : PySem.W.findIn K (.ref c5) "__class__" = some (some (.builtin "object.__class__")))
    (dm5 : PySem.W.mroIn K c5 (.type "object") = some true)
    (ds5_0 : PySem.W.subIn K (.ref c5) (.ref c0) = some true)
    (dc6 : PySem.W.findIn K (.ref c6) "__class__" = some (some (.builtin "object.__class__")))
    (dm6 : PySem.W.mroIn K c6 (.type "object") = some true)
    (ds6_0 : PySem.W.subIn K (.ref c6) (.ref c0) = some true)
    (dc7 : PySem.W.findIn K (.ref c7) "__class__" = some (some (.builtin "object.__class__")))
    (dm7 : PySem.W.mroIn K c7 (.type "object") = some true)
    (ds7_0 : PySem.W.subIn K (.ref c7) (.ref c0) = some true)
    (dc8 : PySem.W.findIn K (.ref c8) "__class__" = some (some (.builtin "object.__class__")))
    (dm8 : PySem.W.mroIn K c8 (.type "object") = some true)
    (ds8_0 : PySem.W.subIn K (.ref c8) (.ref c0) = some true)
    (dc9 : PySem.W.findIn K (.ref c9) "__class__" = some (some (.builtin "object.__class__")))
    (dm9 : PySem.W.mroIn K c9 (.type "object") = some true)
    (ds9_0 : PySem.W.subIn K (.ref c9) (.ref c0) = some true)
    (dc10 : PySem.W.findIn K (.ref c10) "__class__" = some (some (.builtin "object.__class__")))
    (dm10 : PySem.W.mroIn K c10 (.type "object") = some true)
    (ds10_0 : PySem.W.subIn K (.ref c10) (.ref c0) = some true)
    (dc11 : PySem.W.findIn K (.ref c11) "__class__" = some (some (.builtin "object.__class__")))
    (dm11 : PySem.W.mroIn K c11 (.type "object") = some true)
    (ds11_0 : PySem.W.subIn K (.ref c11) (.ref c0) = some true)
    (dc12 : PySem.W.findIn K (.ref c12) "__class__" = some (some (.builtin "object.__class__")))
    (dm12 : PySem.W.mroIn K c12 (.type "object") = some true)
    (ds12_0 : PySem.W.subIn K (.ref c12) (.ref c0) = some true)
    (z_all : PySem.W.nsIn K mainGlobals "all" = some none)
    (z_int : PySem.W.nsIn K mainGlobals "int" = some none)
    (z_isinstance : PySem.W.nsIn K mainGlobals "isinstance" = some none)
    (z_len : PySem.W.nsIn K mainGlobals "len" = some none)
    (z_list : PySem.W.nsIn K mainGlobals "list" = some none)
    (z_max : PySem.W.nsIn K mainGlobals "max" = some none)
    (z_range : PySem.W.nsIn K mainGlobals "range" = some none)
    (z_str : PySem.W.nsIn K mainGlobals "str" = some none)
    (z_tuple : PySem.W.nsIn K mainGlobals "tuple" = some none)
    (v_FIGURES_reading : PySem.W.nsIn K mainGlobals "FIGURES_reading" = some (some (.str ("0123456789" : Str) t_FIGURES_reading)))
    (v_FIGURES_words : PySem.W.nsIn K mainGlobals "FIGURES_words" = some (some (.str ("0123456789" : Str) t_FIGURES_words)))
    (v_LAST_DAY : PySem.W.nsIn K mainGlobals "LAST_DAY" = some (some (.int 9999 t_LAST_DAY)))
    (v_MOST_DEEP : PySem.W.nsIn K mainGlobals "MOST_DEEP" = some (some (.int 30 t_MOST_DEEP)))
    (v_MOST_OPEN : PySem.W.nsIn K mainGlobals "MOST_OPEN" = some (some (.int 40 t_MOST_OPEN)))
    (v_MOST_SIGNS : PySem.W.nsIn K mainGlobals "MOST_SIGNS" = some (some (.int 20 t_MOST_SIGNS)))
    (v_MOST_THREADS : PySem.W.nsIn K mainGlobals "MOST_THREADS" = some (some (.int 2 t_MOST_THREADS)))
    (v_SMALL : PySem.W.nsIn K mainGlobals "SMALL" = some (some (.str ("abcdefghijklmnopqrstuvwxyz" : Str) t_SMALL)))
    (ne2_1 : ¬ c2 = c1)
    (ne3_1 : ¬ c3 = c1)
    (ne3_2 : ¬ c3 = c2)
    (ne4_1 : ¬ c4 = c1)
    (ne4_2 : ¬ c4 = c2)
    (ne4_3 : ¬ c4 = c3)
    (ne5_1 : ¬ c5 = c1)
    (ne5_2 : ¬ c5 = c2)
    (ne5_3 : ¬ c5 = c3)
    (ne5_4 : ¬ c5 = c4)
    (ne6_1 : ¬ c6 = c1)
    (ne6_2 : ¬ c6 = c2)
    (ne6_3 : ¬ c6 = c3)
    (ne6_4 : ¬ c6 = c4)
    (ne6_5 : ¬ c6 = c5)
    (ne7_1 : ¬ c7 = c1)
    (ne7_2 : ¬ c7 = c2)
    (ne7_3 : ¬ c7 = c3)
    (ne7_4 : ¬ c7 = c4)
    (ne7_5 : ¬ c7 = c5)
    (ne7_6 : ¬ c7 = c6)
    (ne8_1 : ¬ c8 = c1)
    (ne8_2 : ¬ c8 = c2)
    (ne8_3 : ¬ c8 = c3)
    (ne8_4 : ¬ c8 = c4)
    (ne8_5 : ¬ c8 = c5)
    (ne8_6 : ¬ c8 = c6)
    (ne8_7 : ¬ c8 = c7)
    (ne9_1 : ¬ c9 = c1)
    (ne9_2 : ¬ c9 = c2)
    (ne9_3 : ¬ c9 = c3)
    (ne9_4 : ¬ c9 = c4)
    (ne9_5 : ¬ c9 = c5)
    (ne9_6 : ¬ c9 = c6)
    (ne9_7 : ¬ c9 = c7)
    (ne9_8 : ¬ c9 = c8)
    (ne10_1 : ¬ c10 = c1)
    (ne10_2 : ¬ c10 = c2)
    (ne10_3 : ¬ c10 = c3)
    (ne10_4 : ¬ c10 = c4)
    (ne10_5 : ¬ c10 = c5)
    (ne10_6 : ¬ c10 = c6)
    (ne10_7 : ¬ c10 = c7)
    (ne10_8 : ¬ c10 = c8)
    (ne10_9 : ¬ c10 = c9)
    (ne11_1 : ¬ c11 = c1)
    (ne11_2 : ¬ c11 = c2)
    (ne11_3 : ¬ c11 = c3)
    (ne11_4 : ¬ c11 = c4)
    (ne11_5 : ¬ c11 = c5)
    (ne11_6 : ¬ c11 = c6)
    (ne11_7 : ¬ c11 = c7)
    (ne11_8 : ¬ c11 = c8)
    (ne11_9 : ¬ c11 = c9)
    (ne11_10 : ¬ c11 = c10)
    (ne12_1 : ¬ c12 = c1)
    (ne12_2 : ¬ c12 = c2)
    (ne12_3 : ¬ c12 = c3)
    (ne12_4 : ¬ c12 = c4)
    (ne12_5 : ¬ c12 = c5)
    (ne12_6 : ¬ c12 = c6)
    (ne12_7 : ¬ c12 = c7)
    (ne12_8 : ¬ c12 = c8)
    (ne12_9 : ¬ c12 = c9)
    (ne12_10 : ¬ c12 = c10)
    (ne12_11 : ¬ c12 = c11)
    : ∃ fd : FuncData, (∀ (s : Shared) (v : Value), BindsTo s fd ⟨[v], []⟩ [("_law_script", v)]) ∧ ∀ base : Heap, K.In base → base.Ns mainGlobals mg → FnOk l.prog w K mg base CX0 144 fa fd ["_law_script"] (sp_top K) := by
  have e := hfa.symm.trans (PySem.W.mg_of X H a44)
  cases e
  have F0 := fun_mk (st := s_Anything_tree) l0 cc0 k0
  have b0 := F0.binds (ps := ["self"]) fun _ _ _ _ _ _ us hl => match us, hl with | [_], _ => rfl
  have F1 := fun_mk (st := s_OfWord___init__) l1 cc1 k1
  have b1 := F1.binds (ps := ["self", "word"]) fun _ _ _ _ _ _ us hl => match us, hl with | [_, _], _ => rfl
  have F2 := fun_mk (st := s_OfWord_sign) l2 cc2 k2
  have b2 := F2.binds (ps := ["self"]) fun _ _ _ _ _ _ us hl => match us, hl with | [_], _ => rfl
  have F3 := fun_mk (st := s_OfWord_tree) l3 cc3 k3
  have b3 := F3.binds (ps := ["self"]) fun _ _ _ _ _ _ us hl => match us, hl with | [_], _ => rfl
  have F4 := fun_mk (st := s_InTitle_sign) l4 cc4 k4
  have b4 := F4.binds (ps := ["self"]) fun _ _ _ _ _ _ us hl => match us, hl with | [_], _ => rfl
  have F5 := fun_mk (st := s_FromSender_sign) l5 cc5 k5
  have b5 := F5.binds (ps := ["self"]) fun _ _ _ _ _ _ us hl => match us, hl with | [_], _ => rfl
  have F6 := fun_mk (st := s_InFolder_sign) l6 cc6 k6
  have b6 := F6.binds (ps := ["self"]) fun _ _ _ _ _ _ us hl => match us, hl with | [_], _ => rfl
  have F7 := fun_mk (st := s_IsMarked_sign) l7 cc7 k7
  have b7 := F7.binds (ps := ["self"]) fun _ _ _ _ _ _ us hl => match us, hl with | [_], _ => rfl
  have F8 := fun_mk (st := s_OnDays___init__) l8 cc8 k8
  have b8 := F8.binds (ps := ["self", "low", "high"]) fun _ _ _ _ _ _ us hl => match us, hl with | [_, _, _], _ => rfl
  have F9 := fun_mk (st := s_OnDays_tree) l9 cc9 k9
  have b9 := F9.binds (ps := ["self"]) fun _ _ _ _ _ _ us hl => match us, hl with | [_], _ => rfl
  have F10 := fun_mk (st := s_IsAnswer_tree) l10 cc10 k10
  have b10 := F10.binds (ps := ["self"]) fun _ _ _ _ _ _ us hl => match us, hl with | [_], _ => rfl
  have F11 := fun_mk (st := s_OfOne___init__) l11 cc11 k11
  have b11 := F11.binds (ps := ["self", "inner"]) fun _ _ _ _ _ _ us hl => match us, hl with | [_, _], _ => rfl
  have F12 := fun_mk (st := s_OfOne_sign) l12 cc12 k12
  have b12 := F12.binds (ps := ["self"]) fun _ _ _ _ _ _ us hl => match us, hl with | [_], _ => rfl
  have F13 := fun_mk (st := s_OfOne_tree) l13 cc13 k13
  have b13 := F13.binds (ps := ["self"]) fun _ _ _ _ _ _ us hl => match us, hl with | [_], _ => rfl
  have F14 := fun_mk (st := s_InThread_sign) l14 cc14 k14
  have b14 := F14.binds (ps := ["self"]) fun _ _ _ _ _ _ us hl => match us, hl with | [_], _ => rfl
  have F15 := fun_mk (st := s_OfTwo___init__) l15 cc15 k15
  have b15 := F15.binds (ps := ["self", "first", "second"]) fun _ _ _ _ _ _ us hl => match us, hl with | [_, _, _], _ => rfl
  have F16 := fun_mk (st := s_OfTwo_sign) l16 cc16 k16
  have b16 := F16.binds (ps := ["self"]) fun _ _ _ _ _ _ us hl => match us, hl with | [_], _ => rfl
  have F17 := fun_mk (st := s_OfTwo_tree) l17 cc17 k17
  have b17 := F17.binds (ps := ["self"]) fun _ _ _ _ _ _ us hl => match us, hl with | [_], _ => rfl
  have F18 := fun_mk (st := s_EitherSo_sign) l18 cc18 k18
  have b18 := F18.binds (ps := ["self"]) fun _ _ _ _ _ _ us hl => match us, hl with | [_], _ => rfl
  have F19 := fun_mk (st := s_of_word) l19 cc19 k19
  have b19 := F19.binds (ps := ["sign", "word"]) fun _ _ _ _ _ _ us hl => match us, hl with | [_, _], _ => rfl
  have F20 := fun_mk (st := s_deep) l20 cc20 k20
  have b20 := F20.binds (ps := ["tree"]) fun _ _ _ _ _ _ us hl => match us, hl with | [_], _ => rfl
  have F21 := fun_mk (st := s_threads_deep) l21 cc21 k21
  have b21 := F21.binds (ps := ["tree"]) fun _ _ _ _ _ _ us hl => match us, hl with | [_], _ => rfl
  have F22 := fun_mk (st := s_is_sign) l22 cc22 k22
  have b22 := F22.binds (ps := ["sign"]) fun _ _ _ _ _ _ us hl => match us, hl with | [_], _ => rfl
  have F23 := fun_mk (st := s_is_word) l23 cc23 k23
  have b23 := F23.binds (ps := ["thing"]) fun _ _ _ _ _ _ us hl => match us, hl with | [_], _ => rfl
  have F24 := fun_mk (st := s_tokens_of) l24 cc24 k24
  have b24 := F24.binds (ps := ["text"]) fun _ _ _ _ _ _ us hl => match us, hl with | [_], _ => rfl
  have F25 := fun_mk (st := s_token_at) l25 cc25 k25
  have b25 := F25.binds (ps := ["tokens", "at"]) fun _ _ _ _ _ _ us hl => match us, hl with | [_, _], _ => rfl
  have F26 := fun_mk (st := s_word_at) l26 cc26 k26
  have b26 := F26.binds (ps := ["tokens", "at"]) fun _ _ _ _ _ _ us hl => match us, hl with | [_, _], _ => rfl
  have F27 := fun_mk (st := s_number_at) l27 cc27 k27
  have b27 := F27.binds (ps := ["tokens", "at"]) fun _ _ _ _ _ _ us hl => match us, hl with | [_, _], _ => rfl
  have F28 := fun_mk (st := s_days_at) l28 cc28 k28
  have b28 := F28.binds (ps := ["tokens", "at"]) fun _ _ _ _ _ _ us hl => match us, hl with | [_, _], _ => rfl
  have F29 := fun_mk (st := s_both_at) l29 cc29 k29
  have b29 := F29.binds (ps := ["tokens", "at", "room"]) fun _ _ _ _ _ _ us hl => match us, hl with | [_, _, _], _ => rfl
  have F30 := fun_mk (st := s_either_at) l30 cc30 k30
  have b30 := F30.binds (ps := ["tokens", "at", "room"]) fun _ _ _ _ _ _ us hl => match us, hl with | [_, _, _], _ => rfl
  have F31 := fun_mk (st := s_law_cell_at) l31 cc31 k31
  have b31 := F31.binds (ps := ["_law_script", "_law_k"]) fun _ _ _ _ _ _ us hl => match us, hl with | [_, _], _ => rfl
  have F32 := fun_mk (st := s_law_mixed) l32 cc32 k32
  have b32 := F32.binds (ps := ["_law_script", "_law_start", "_law_many"]) fun _ _ _ _ _ _ us hl => match us, hl with | [_, _, _], _ => rfl
  have F33 := fun_mk (st := s_law_word_by) l33 cc33 k33
  have b33 := F33.binds (ps := ["_law_shape", "_law_k"]) fun _ _ _ _ _ _ us hl => match us, hl with | [_, _], _ => rfl
  have F34 := fun_mk (st := s_law_leaf_by) l34 cc34 k34
  have b34 := F34.binds (ps := ["_law_shape", "_law_cell"]) fun _ _ _ _ _ _ us hl => match us, hl with | [_, _], _ => rfl
  have F35 := fun_mk (st := s_law_threads) l35 cc35 k35
  have b35 := F35.binds (ps := ["_law_tree"]) fun _ _ _ _ _ _ us hl => match us, hl with | [_], _ => rfl
  have F36 := fun_mk (st := s_law_tree_by) l36 cc36 k36
  have b36 := F36.binds (ps := ["_law_shape", "_law_cells"]) fun _ _ _ _ _ _ us hl => match us, hl with | [_, _], _ => rfl
  have F37 := fun_mk (st := s_law_number) l37 cc37 k37
  have b37 := F37.binds (ps := ["_law_number_here", "_law_cell"]) fun _ _ _ _ _ _ us hl => match us, hl with | [_, _], _ => rfl
  have F38 := fun_mk (st := s_law_day_tokens) l38 cc38 k38
  have b38 := F38.binds (ps := ["_law_tree", "_law_cell"]) fun _ _ _ _ _ _ us hl => match us, hl with | [_, _], _ => rfl
  have F39 := fun_mk (st := s_law_tokens) l39 cc39 k39
  have b39 := F39.binds (ps := ["_law_tree", "_law_close", "_law_cells", "_law_at"]) fun _ _ _ _ _ _ us hl => match us, hl with | [_, _, _, _], _ => rfl
  have F40 := fun_mk (st := s_law_joined) l40 cc40 k40
  have b40 := F40.binds (ps := ["_law_tokens_here", "_law_cells"]) fun _ _ _ _ _ _ us hl => match us, hl with | [_, _], _ => rfl
  have F41 := fun_mk (st := s_one_at) l41 cc41 k41
  have b41 := F41.binds (ps := ["tokens", "at", "room"]) fun _ _ _ _ _ _ us hl => match us, hl with | [_, _, _], _ => rfl
  have F42 := fun_mk (st := s_whole_at) l42 cc42 k42
  have b42 := F42.binds (ps := ["tokens", "at"]) fun _ _ _ _ _ _ us hl => match us, hl with | [_, _], _ => rfl
  have F43 := fun_mk (st := s_read_condition) l43 cc43 k43
  have b43 := F43.binds (ps := ["text"]) fun _ _ _ _ _ _ us hl => match us, hl with | [_], _ => rfl
  have F44 := fun_mk (st := s_law) l44 cc44 k44
  have b44 := F44.binds (ps := ["_law_script"]) fun _ _ _ _ _ _ us hl => match us, hl with | [_], _ => rfl
  let G : Gx := ⟨K, fun a => if a = c1 then some 0 else if a = c2 then some 1 else if a = c3 then some 1 else if a = c4 then some 1 else if a = c5 then some 1 else if a = c6 then some 1 else if a = c7 then some 2 else if a = c8 then some 0 else if a = c9 then some 1 else if a = c10 then some 1 else if a = c11 then some 2 else if a = c12 then some 2 else none, fun i => ([c0, c1, c2, c3, c4, c5, c6, c7, c8, c9, c10, c11, c12, c13, c14] : List Addr).getD i 0⟩
  have hfz1 : G.fz (G.cl 1) = some 0 := by show (if c1 = c1 then some 0 else if c1 = c2 then some 1 else if c1 = c3 then some 1 else if c1 = c4 then some 1 else if c1 = c5 then some 1 else if c1 = c6 then some 1 else if c1 = c7 then some 2 else if c1 = c8 then some 0 else if c1 = c9 then some 1 else if c1 = c10 then some 1 else if c1 = c11 then some 2 else if c1 = c12 then some 2 else none) = some 0; rw [if_pos rfl]
  have hfz2 : G.fz (G.cl 2) = some 1 := by show (if c2 = c1 then some 0 else if c2 = c2 then some 1 else if c2 = c3 then some 1 else if c2 = c4 then some 1 else if c2 = c5 then some 1 else if c2 = c6 then some 1 else if c2 = c7 then some 2 else if c2 = c8 then some 0 else if c2 = c9 then some 1 else if c2 = c10 then some 1 else if c2 = c11 then some 2 else if c2 = c12 then some 2 else none) = some 1; rw [if_neg ne2_1, if_pos rfl]
  have hfz3 : G.fz (G.cl 3) = some 1 := by show (if c3 = c1 then some 0 else if c3 = c2 then some 1 else if c3 = c3 then some 1 else if c3 = c4 then some 1 else if c3 = c5 then some 1 else if c3 = c6 then some 1 else if c3 = c7 then some 2 else if c3 = c8 then some 0 else if c3 = c9 then some 1 else if c3 = c10 then some 1 else if c3 = c11 then some 2 else if c3 = c12 then some 2 else none) = some 1; rw [if_neg ne3_1, if_neg ne3_2, if_pos rfl]
  have hfz4 : G.fz (G.cl 4) = some 1 := by show (if c4 = c1 then some 0 else if c4 = c2 then some 1 else if c4 = c3 then some 1 else if c4 = c4 then some 1 else if c4 = c5 then some 1 else if c4 = c6 then some 1 else if c4 = c7 then some 2 else if c4 = c8 then some 0 else if c4 = c9 then some 1 else if c4 = c10 then some 1 else if c4 = c11 then some 2 else if c4 = c12 then some 2 else none) = some 1; rw [if_neg ne4_1, if_neg ne4_2, if_neg ne4_3, if_pos rfl]
  have hfz5 : G.fz (G.cl 5) = some 1 := by show (if c5 = c1 then some 0 else if c5 = c2 then some 1 else if c5 = c3 then some 1 else if c5 = c4 then some 1 else if c5 = c5 then some 1 else if c5 = c6 then some 1 else if c5 = c7 then some 2 else if c5 = c8 then some 0 else if c5 = c9 then some 1 else if c5 = c10 then some 1 else if c5 = c11 then some 2 else if c5 = c12 then some 2 else none) = some 1; rw [if_neg ne5_1, if_neg ne5_2, if_neg ne5_3, if_neg ne5_4, if_pos rfl]
  have hfz6 : G.fz (G.cl 6) = some 1 := by show (if c6 = c1 then some 0 else if c6 = c2 then some 1 else if c6 = c3 then some 1 else if c6 = c4 then some 1 else if c6 = c5 then some 1 else if c6 = c6 then some 1 else if c6 = c7 then some 2 else if c6 = c8 then some 0 else if c6 = c9 then some 1 else if c6 = c10 then some 1 else if c6 = c11 then some 2 else if c6 = c12 then some 2 else none) = some 1; rw [if_neg ne6_1, if_neg ne6_2, if_neg ne6_3, if_neg ne6_4, if_neg ne6_5, if_pos rfl]
  have hfz7 : G.fz (G.cl 7) = some 2 := by show (if c7 = c1 then some 0 else if c7 = c2 then some 1 else if c7 = c3 then some 1 else if c7 = c4 then some 1 else if c7 = c5 then some 1 else if c7 = c6 then some 1 else if c7 = c7 then some 2 else if c7 = c8 then some 0 else if c7 = c9 then some 1 else if c7 = c10 then some 1 else if c7 = c11 then some 2 else if c7 = c12 then some 2 else none) = some 2; rw [if_neg ne7_1, if_neg ne7_2, if_neg ne7_3, if_neg ne7_4, if_neg ne7_5, if_neg ne7_6, if_pos rfl]
  have hfz8 : G.fz (G.cl 8) = some 0 := by show (if c8 = c1 then some 0 else if c8 = c2 then some 1 else if c8 = c3 then some 1 else if c8 = c4 then some 1 else if c8 = c5 then some 1 else if c8 = c6 then some 1 else if c8 = c7 then some 2 else if c8 = c8 then some 0 else if c8 = c9 then some 1 else if c8 = c10 then some 1 else if c8 = c11 then some 2 else if c8 = c12 then some 2 else none) = some 0; rw [if_neg ne8_1, if_neg ne8_2, if_neg ne8_3, if_neg ne8_4, if_neg ne8_5, if_neg ne8_6, if_neg ne8_7, if_pos rfl]
  have hfz9 : G.fz (G.cl 9) = some 1 := by show (if c9 = c1 then some 0 else if c9 = c2 then some 1 else if c9 = c3 then some 1 else if c9 = c4 then some 1 else if c9 = c5 then some 1 else if c9 = c6 then some 1 else if c9 = c7 then some 2 else if c9 = c8 then some 0 else if c9 = c9 then some 1 else if c9 = c10 then some 1 else if c9 = c11 then some 2 else if c9 = c12 then some 2 else none) = some 1; rw [if_neg ne9_1, if_neg ne9_2, if_neg ne9_3, if_neg ne9_4, if_neg ne9_5, if_neg ne9_6, if_neg ne9_7, if_neg ne9_8, if_pos rfl]
  have hfz10 : G.fz (G.cl 10) = some 1 := by show (if c10 = c1 then some 0 else if c10 = c2 then some 1 else if c10 = c3 then some 1 else if c10 = c4 then some 1 else if c10 = c5 then some 1 else if c10 = c6 then some 1 else if c10 = c7 then some 2 else if c10 = c8 then some 0 else if c10 = c9 then some 1 else if c10 = c10 then some 1 else if c10 = c11 then some 2 else if c10 = c12 then some 2 else none) = some 1; rw [if_neg ne10_1, if_neg ne10_2, if_neg ne10_3, if_neg ne10_4, if_neg ne10_5, if_neg ne10_6, if_neg ne10_7, if_neg ne10_8, if_neg ne10_9, if_pos rfl]
  have hfz11 : G.fz (G.cl 11) = some 2 := by show (if c11 = c1 then some 0 else if c11 = c2 then some 1 else if c11 = c3 then some 1 else if c11 = c4 then some 1 else if c11 = c5 then some 1 else if c11 = c6 then some 1 else if c11 = c7 then some 2 else if c11 = c8 then some 0 else if c11 = c9 then some 1 else if c11 = c10 then some 1 else if c11 = c11 then some 2 else if c11 = c12 then some 2 else none) = some 2; rw [if_neg ne11_1, if_neg ne11_2, if_neg ne11_3, if_neg ne11_4, if_neg ne11_5, if_neg ne11_6, if_neg ne11_7, if_neg ne11_8, if_neg ne11_9, if_neg ne11_10, if_pos rfl]
  have hfz12 : G.fz (G.cl 12) = some 2 := by show (if c12 = c1 then some 0 else if c12 = c2 then some 1 else if c12 = c3 then some 1 else if c12 = c4 then some 1 else if c12 = c5 then some 1 else if c12 = c6 then some 1 else if c12 = c7 then some 2 else if c12 = c8 then some 0 else if c12 = c9 then some 1 else if c12 = c10 then some 1 else if c12 = c11 then some 2 else if c12 = c12 then some 2 else none) = some 2; rw [if_neg ne12_1, if_neg ne12_2, if_neg ne12_3, if_neg ne12_4, if_neg ne12_5, if_neg ne12_6, if_neg ne12_7, if_neg ne12_8, if_neg ne12_9, if_neg ne12_10, if_neg ne12_11, if_pos rfl]
  let T : Txt G mg := {
    a_Anything_tree := f0,
    fd_Anything_tree := _,
    F_Anything_tree := F0,
    b_Anything_tree := b0,
    kp_Anything_tree := k0,
    m_Anything_tree := ⟨a0_1, i0, k0⟩,
    a_OfWord___init__ := f1,
    fd_OfWord___init__ := _,
    F_OfWord___init__ := F1,
    b_OfWord___init__ := b1,
    kp_OfWord___init__ := k1,
    k_HasWord := ⟨mk2, a1_2, i1, kc2⟩,
    k_InTitle := ⟨mk3, a1_3, i1, kc3⟩,
    k_FromSender := ⟨mk4, a1_4, i1, kc4⟩,
    k_InFolder := ⟨mk5, a1_5, i1, kc5⟩,
    k_IsMarked := ⟨mk6, a1_6, i1, kc6⟩,
    a_OfWord_sign := f2,
    fd_OfWord_sign := _,
    F_OfWord_sign := F2,
    b_OfWord_sign := b2,
    kp_OfWord_sign := k2,
    m_HasWord_sign := ⟨a2_2, i2, k2⟩,
    a_OfWord_tree := f3,
    fd_OfWord_tree := _,
    F_OfWord_tree := F3,
    b_OfWord_tree := b3,
    kp_OfWord_tree := k3,
    m_HasWord_tree := ⟨a3_2, i3, k3⟩,
    m_InTitle_tree := ⟨a3_3, i3, k3⟩,
    m_FromSender_tree := ⟨a3_4, i3, k3⟩,
    m_InFolder_tree := ⟨a3_5, i3, k3⟩,
    m_IsMarked_tree := ⟨a3_6, i3, k3⟩,
    a_InTitle_sign := f4,
    fd_InTitle_sign := _,
    F_InTitle_sign := F4,
    b_InTitle_sign := b4,
    kp_InTitle_sign := k4,
    m_InTitle_sign := ⟨a4_3, i4, k4⟩,
    a_FromSender_sign := f5,
    fd_FromSender_sign := _,
    F_FromSender_sign := F5,
    b_FromSender_sign := b5,
    kp_FromSender_sign := k5,
    m_FromSender_sign := ⟨a5_4, i5, k5⟩,
    a_InFolder_sign := f6,
    fd_InFolder_sign := _,
    F_InFolder_sign := F6,
    b_InFolder_sign := b6,
    kp_InFolder_sign := k6,
    m_InFolder_sign := ⟨a6_5, i6, k6⟩,
    a_IsMarked_sign := f7,
    fd_IsMarked_sign := _,
    F_IsMarked_sign := F7,
    b_IsMarked_sign := b7,
    kp_IsMarked_sign := k7,
    m_IsMarked_sign := ⟨a7_6, i7, k7⟩,
    a_OnDays___init__ := f8,
    fd_OnDays___init__ := _,
    F_OnDays___init__ := F8,
    b_OnDays___init__ := b8,
    kp_OnDays___init__ := k8,
    k_OnDays := ⟨mk7, a8_7, i8, kc7⟩,
    a_OnDays_tree := f9,
    fd_OnDays_tree := _,
    F_OnDays_tree := F9,
    b_OnDays_tree := b9,
    kp_OnDays_tree := k9,
    m_OnDays_tree := ⟨a9_7, i9, k9⟩,
    a_IsAnswer_tree := f10,
    fd_IsAnswer_tree := _,
    F_IsAnswer_tree := F10,
    b_IsAnswer_tree := b10,
    kp_IsAnswer_tree := k10,
    m_IsAnswer_tree := ⟨a10_8, i10, k10⟩,
    a_OfOne___init__ := f11,
    fd_OfOne___init__ := _,
    F_OfOne___init__ := F11,
    b_OfOne___init__ := b11,
    kp_OfOne___init__ := k11,
    k_NotSo := ⟨mk9, a11_9, i11, kc9⟩,
    k_InThread := ⟨mk10, a11_10, i11, kc10⟩,
    a_OfOne_sign := f12,
    fd_OfOne_sign := _,
    F_OfOne_sign := F12,
    b_OfOne_sign := b12,
    kp_OfOne_sign := k12,
    m_NotSo_sign := ⟨a12_9, i12, k12⟩,
    a_OfOne_tree := f13,
    fd_OfOne_tree := _,
    F_OfOne_tree := F13,
    b_OfOne_tree := b13,
    kp_OfOne_tree := k13,
    m_NotSo_tree := ⟨a13_9, i13, k13⟩,
    m_InThread_tree := ⟨a13_10, i13, k13⟩,
    a_InThread_sign := f14,
    fd_InThread_sign := _,
    F_InThread_sign := F14,
    b_InThread_sign := b14,
    kp_InThread_sign := k14,
    m_InThread_sign := ⟨a14_10, i14, k14⟩,
    a_OfTwo___init__ := f15,
    fd_OfTwo___init__ := _,
    F_OfTwo___init__ := F15,
    b_OfTwo___init__ := b15,
    kp_OfTwo___init__ := k15,
    k_BothSo := ⟨mk11, a15_11, i15, kc11⟩,
    k_EitherSo := ⟨mk12, a15_12, i15, kc12⟩,
    a_OfTwo_sign := f16,
    fd_OfTwo_sign := _,
    F_OfTwo_sign := F16,
    b_OfTwo_sign := b16,
    kp_OfTwo_sign := k16,
    m_BothSo_sign := ⟨a16_11, i16, k16⟩,
    a_OfTwo_tree := f17,
    fd_OfTwo_tree := _,
    F_OfTwo_tree := F17,
    b_OfTwo_tree := b17,
    kp_OfTwo_tree := k17,
    m_BothSo_tree := ⟨a17_11, i17, k17⟩,
    m_EitherSo_tree := ⟨a17_12, i17, k17⟩,
    a_EitherSo_sign := f18,
    fd_EitherSo_sign := _,
    F_EitherSo_sign := F18,
    b_EitherSo_sign := b18,
    kp_EitherSo_sign := k18,
    m_EitherSo_sign := ⟨a18_12, i18, k18⟩,
    a_of_word := f19,
    fd_of_word := _,
    F_of_word := F19,
    b_of_word := b19,
    kp_of_word := k19,
    g_of_word := PySem.W.mg_of X H a19,
    a_deep := f20,
    fd_deep := _,
    F_deep := F20,
    b_deep := b20,
    kp_deep := k20,
    g_deep := PySem.W.mg_of X H a20,
    a_threads_deep := f21,
    fd_threads_deep := _,
    F_threads_deep := F21,
    b_threads_deep := b21,
    kp_threads_deep := k21,
    g_threads_deep := PySem.W.mg_of X H a21,
    a_is_sign := f22,
    fd_is_sign := _,
    F_is_sign := F22,
    b_is_sign := b22,
    kp_is_sign := k22,
    g_is_sign := PySem.W.mg_of X H a22,
    a_is_word := f23,
    fd_is_word := _,
    F_is_word := F23,
    b_is_word := b23,
    kp_is_word := k23,
    g_is_word := PySem.W.mg_of X H a23,
    a_tokens_of := f24,
    fd_tokens_of := _,
    F_tokens_of := F24,
    b_tokens_of := b24,
    kp_tokens_of := k24,
    g_tokens_of := PySem.W.mg_of X H a24,
    a_token_at := f25,
    fd_token_at := _,
    F_token_at := F25,
    b_token_at := b25,
    kp_token_at := k25,
    g_token_at := PySem.W.mg_of X H a25,
    a_word_at := f26,
    fd_word_at := _,
    F_word_at := F26,
    b_word_at := b26,
    kp_word_at := k26,
    g_word_at := PySem.W.mg_of X H a26,
    a_number_at := f27,
    fd_number_at := _,
    F_number_at := F27,
    b_number_at := b27,
    kp_number_at := k27,
    g_number_at := PySem.W.mg_of X H a27,
    a_days_at := f28,
    fd_days_at := _,
    F_days_at := F28,
    b_days_at := b28,
    kp_days_at := k28,
    g_days_at := PySem.W.mg_of X H a28,
    a_both_at := f29,
    fd_both_at := _,
    F_both_at := F29,
    b_both_at := b29,
    kp_both_at := k29,
    g_both_at := PySem.W.mg_of X H a29,
    a_either_at := f30,
    fd_either_at := _,
    F_either_at := F30,
    b_either_at := b30,
    kp_either_at := k30,
    g_either_at := PySem.W.mg_of X H a30,
    a_law_cell_at := f31,
    fd_law_cell_at := _,
    F_law_cell_at := F31,
    b_law_cell_at := b31,
    kp_law_cell_at := k31,
    g_law_cell_at := PySem.W.mg_of X H a31,
    a_law_mixed := f32,
    fd_law_mixed := _,
    F_law_mixed := F32,
    b_law_mixed := b32,
    kp_law_mixed := k32,
    g_law_mixed := PySem.W.mg_of X H a32,
    a_law_word_by := f33,
    fd_law_word_by := _,
    F_law_word_by := F33,
    b_law_word_by := b33,
    kp_law_word_by := k33,
    g_law_word_by := PySem.W.mg_of X H a33,
    a_law_leaf_by := f34,
    fd_law_leaf_by := _,
    F_law_leaf_by := F34,
    b_law_leaf_by := b34,
    kp_law_leaf_by := k34,
    g_law_leaf_by := PySem.W.mg_of X H a34,
    a_law_threads := f35,
    fd_law_threads := _,
    F_law_threads := F35,
    b_law_threads := b35,
    kp_law_threads := k35,
    g_law_threads := PySem.W.mg_of X H a35,
    a_law_tree_by := f36,
    fd_law_tree_by := _,
    F_law_tree_by := F36,
    b_law_tree_by := b36,
    kp_law_tree_by := k36,
    g_law_tree_by := PySem.W.mg_of X H a36,
    a_law_number := f37,
    fd_law_number := _,
    F_law_number := F37,
    b_law_number := b37,
    kp_law_number := k37,
    g_law_number := PySem.W.mg_of X H a37,
    a_law_day_tokens := f38,
    fd_law_day_tokens := _,
    F_law_day_tokens := F38,
    b_law_day_tokens := b38,
    kp_law_day_tokens := k38,
    g_law_day_tokens := PySem.W.mg_of X H a38,
    a_law_tokens := f39,
    fd_law_tokens := _,
    F_law_tokens := F39,
    b_law_tokens := b39,
    kp_law_tokens := k39,
    g_law_tokens := PySem.W.mg_of X H a39,
    a_law_joined := f40,
    fd_law_joined := _,
    F_law_joined := F40,
    b_law_joined := b40,
    kp_law_joined := k40,
    g_law_joined := PySem.W.mg_of X H a40,
    a_one_at := f41,
    fd_one_at := _,
    F_one_at := F41,
    b_one_at := b41,
    kp_one_at := k41,
    g_one_at := PySem.W.mg_of X H a41,
    a_whole_at := f42,
    fd_whole_at := _,
    F_whole_at := F42,
    b_whole_at := b42,
    kp_whole_at := k42,
    g_whole_at := PySem.W.mg_of X H a42,
    a_read_condition := f43,
    fd_read_condition := _,
    F_read_condition := F43,
    b_read_condition := b43,
    kp_read_condition := k43,
    g_read_condition := PySem.W.mg_of X H a43,
    a_law := fa,
    fd_law := _,
    F_law := F44,
    b_law := b44,
    kp_law := k44,
    g_law := PySem.W.mg_of X H a44,
    ko_Anything := ⟨mo1, io1, to1, ko1⟩,
    ko_IsAnswer := ⟨mo8, io8, to8, ko8⟩,
    g_Condition := PySem.W.mg_of X H ac0,
    g_Anything := PySem.W.mg_of X H ac1,
    cl_Anything := ⟨pg1, hd1, po1, sa1⟩,
    fz_Anything := hfz1,
    g_HasWord := PySem.W.mg_of X H ac2,
    cl_HasWord := ⟨pg2, hd2, po2, sa2⟩,
    n_HasWord_word := nf2_0,
    fz_HasWord := hfz2,
    g_InTitle := PySem.W.mg_of X H ac3,
    cl_InTitle := ⟨pg3, hd3, po3, sa3⟩,
    n_InTitle_word := nf3_0,
    fz_InTitle := hfz3,
    g_FromSender := PySem.W.mg_of X H ac4,
    cl_FromSender := ⟨pg4, hd4, po4, sa4⟩,
    n_FromSender_word := nf4_0,
    fz_FromSender := hfz4,
    g_InFolder := PySem.W.mg_of X H ac5,
    cl_InFolder := ⟨pg5, hd5, po5, sa5⟩,
    n_InFolder_word := nf5_0,
    fz_InFolder := hfz5,
    g_IsMarked := PySem.W.mg_of X H ac6,
    cl_IsMarked := ⟨pg6, hd6, po6, sa6⟩,
    n_IsMarked_word := nf6_0,
    fz_IsMarked := hfz6,
    g_OnDays := PySem.W.mg_of X H ac7,
    cl_OnDays := ⟨pg7, hd7, po7, sa7⟩,
    n_OnDays_low := nf7_0,
    n_OnDays_high := nf7_1,
    fz_OnDays := hfz7,
    g_IsAnswer := PySem.W.mg_of X H ac8,
    cl_IsAnswer := ⟨pg8, hd8, po8, sa8⟩,
    fz_IsAnswer := hfz8,
    g_NotSo := PySem.W.mg_of X H ac9,
    cl_NotSo := ⟨pg9, hd9, po9, sa9⟩,
    n_NotSo_inner := nf9_0,
    fz_NotSo := hfz9,
    g_InThread := PySem.W.mg_of X H ac10,
    cl_InThread := ⟨pg10, hd10, po10, sa10⟩,
    n_InThread_inner := nf10_0,
    fz_InThread := hfz10,
    g_BothSo := PySem.W.mg_of X H ac11,
    cl_BothSo := ⟨pg11, hd11, po11, sa11⟩,
    n_BothSo_first := nf11_0,
    n_BothSo_second := nf11_1,
    fz_BothSo := hfz11,
    g_EitherSo := PySem.W.mg_of X H ac12,
    cl_EitherSo := ⟨pg12, hd12, po12, sa12⟩,
    n_EitherSo_first := nf12_0,
    n_EitherSo_second := nf12_1,
    fz_EitherSo := hfz12,
    g_MailError := PySem.W.mg_of X H ac13,
    g_NoRule := PySem.W.mg_of X H ac14,
    tc_Cond_Condition := by
      intro i hi
      have hi : i ∈ [1, 2, 3, 4, 5, 6, 7, 8, 9, 10, 11, 12] := by simpa [isC_Cond] using hi
      simp only [List.mem_cons, List.not_mem_nil, or_false] at hi
      rcases hi with rfl | rfl | rfl | rfl | rfl | rfl | rfl | rfl | rfl | rfl | rfl | rfl
      · exact ⟨⟨pg1, hd1, po1, sa1⟩, dc1, ee, ef, dm1, PySem.W.kit_own hdE0 tyE0 ds1_0 (.inl rfl)⟩
      · exact ⟨⟨pg2, hd2, po2, sa2⟩, dc2, ee, ef, dm2, PySem.W.kit_own hdE0 tyE0 ds2_0 (.inl rfl)⟩
      · exact ⟨⟨pg3, hd3, po3, sa3⟩, dc3, ee, ef, dm3, PySem.W.kit_own hdE0 tyE0 ds3_0 (.inl rfl)⟩
      · exact ⟨⟨pg4, hd4, po4, sa4⟩, dc4, ee, ef, dm4, PySem.W.kit_own hdE0 tyE0 ds4_0 (.inl rfl)⟩
      · exact ⟨⟨pg5, hd5, po5, sa5⟩, dc5, ee, ef, dm5, PySem.W.kit_own hdE0 tyE0 ds5_0 (.inl rfl)⟩
      · exact ⟨⟨pg6, hd6, po6, sa6⟩, dc6, ee, ef, dm6, PySem.W.kit_own hdE0 tyE0 ds6_0 (.inl rfl)⟩
      · exact ⟨⟨pg7, hd7, po7, sa7⟩, dc7, ee, ef, dm7, PySem.W.kit_own hdE0 tyE0 ds7_0 (.inl rfl)⟩
      · exact ⟨⟨pg8, hd8, po8, sa8⟩, dc8, ee, ef, dm8, PySem.W.kit_own hdE0 tyE0 ds8_0 (.inl rfl)⟩
      · exact ⟨⟨pg9, hd9, po9, sa9⟩, dc9, ee, ef, dm9, PySem.W.kit_own hdE0 tyE0 ds9_0 (.inl rfl)⟩
      · exact ⟨⟨pg10, hd10, po10, sa10⟩, dc10, ee, ef, dm10, PySem.W.kit_own hdE0 tyE0 ds10_0 (.inl rfl)⟩
      · exact ⟨⟨pg11, hd11, po11, sa11⟩, dc11, ee, ef, dm11, PySem.W.kit_own hdE0 tyE0 ds11_0 (.inl rfl)⟩
      · exact ⟨⟨pg12, hd12, po12, sa12⟩, dc12, ee, ef, dm12, PySem.W.kit_own hdE0 tyE0 ds12_0 (.inl rfl)⟩,
    z_all := PySem.W.mg_none_of X H z_all,
    z_int := PySem.W.mg_none_of X H z_int,
    z_isinstance := PySem.W.mg_none_of X H z_isinstance,
    z_len := PySem.W.mg_none_of X H z_len,
    z_list := PySem.W.mg_none_of X H z_list,
    z_max := PySem.W.mg_none_of X H z_max,
    z_range := PySem.W.mg_none_of X H z_range,
    z_str := PySem.W.mg_none_of X H z_str,
    z_tuple := PySem.W.mg_none_of X H z_tuple,
    t_FIGURES_reading := t_FIGURES_reading,
    c_FIGURES_reading := PySem.W.mg_of X H v_FIGURES_reading,
    t_FIGURES_words := t_FIGURES_words,
    c_FIGURES_words := PySem.W.mg_of X H v_FIGURES_words,
    t_LAST_DAY := t_LAST_DAY,
    c_LAST_DAY := PySem.W.mg_of X H v_LAST_DAY,
    t_MOST_DEEP := t_MOST_DEEP,
    c_MOST_DEEP := PySem.W.mg_of X H v_MOST_DEEP,
    t_MOST_OPEN := t_MOST_OPEN,
    c_MOST_OPEN := PySem.W.mg_of X H v_MOST_OPEN,
    t_MOST_SIGNS := t_MOST_SIGNS,
    c_MOST_SIGNS := PySem.W.mg_of X H v_MOST_SIGNS,
    t_MOST_THREADS := t_MOST_THREADS,
    c_MOST_THREADS := PySem.W.mg_of X H v_MOST_THREADS,
    t_SMALL := t_SMALL,
    c_SMALL := PySem.W.mg_of X H v_SMALL }
  refine ⟨T.fd_law, fun s v => .of_eq rfl, fun base _ _ => ((ok_law T : FnOk l.prog w K mg base CX0 144 fa T.fd_law ["_law_script"] (sp_law G)).imp fun vs H Q E hh => ?_)⟩
  obtain ⟨a, ns, rfl, hs, ho, hl, hq⟩ := hh
  exact ⟨.ref a, ⟨ns⟩, star [], rfl, im_of_only (G := G) ho hs, Sep.unstar (M := []) (Sep.nil H), R.wp_of (law_ok ⟨ns⟩ hl) fun H' _ => hq H'⟩
theorem walk {l : PySem.W.OpenLaw} {q : Program} {loose : List Str} {XP : (Str → Option Value) → Heap → Prop} {YP : World → Heap → Prop} {d : DefRec} {K : Params → PySem.W.Frag} (hn : l.most = some 63) (hdf : d.params.defaults = [])
    (hY : ∀ (w : World) (h : Heap), YP w h → (K w.params).In h)
    (F : ∀ (w : World) (mg : Str → Option Value) (fa : Addr) (h : Heap), (K w.params).In h → h.Ns mainGlobals mg → mg d.name = some (.ref fa) →
      ∃ fd : FuncData, (∀ (s : Shared) (u : Value), BindsTo s fd ⟨[u], []⟩ [("_law_script", u)]) ∧ ∀ base : Heap, (K w.params).In base → base.Ns mainGlobals mg → FnOk l.prog w (K w.params) mg base CX0 144 fa fd ["_law_script"] (sp_top (K w.params))) :
    PySem.W.WalkO q loose XP YP l.row.toRowW d [] (fun f vs => PySem.call f vs) :=
  L2.walk_of (n := 63) (k := 144) (x := "_law_script") (CX := fun _ => CX0) (sp := fun w => sp_top (K w.params)) hn (by decide) hdf ⟨rfl, by decide, by decide⟩ hY F
    (fun w H a ns hl hO hS => ⟨a, ns, rfl, hS, hO, hl, fun _ => rfl⟩) fun _ _ _ _ _ z => z
end Lw
open PySem PySem.W PyProof.Rows
set_option maxRecDepth 100000 in
set_option maxHeartbeats 0 in
theorem PySem.Challenge.cw_mailroom_k14_conditions_read_holds : PySem.Challenge.rw_mailroom_k14_conditions_read.Holds := by
  w_on; o_law; k_head; (case hw => w_witness2)
  k_fill
  refine Lw.walk (l := PySem.Challenge.rw_mailroom_k14_conditions_read) rfl rfl (fun w h Y => PySem.W.kIn_of Y) ?F
  case F =>
    intro w mg fa h KX G hmg
    refine' Lw.all_mk KX G hmg ?ac0 ?ac1 ?ac2 ?ac3 ?ac4 ?ac5 ?ac6 ?ac7 ?ac8 ?ac9 ?ac10 ?ac11 ?ac12 ?ac13 ?ac14 ?a0_1 ?i0 ?l0 ?cc0 ?k0 ?a1_2 ?a1_3 ?a1_4 ?a1_5 ?a1_6 ?i1 ?l1 ?cc1 ?k1 ?mk2 ?kc2 ?mk3 ?kc3 ?mk4 ?kc4 ?mk5 ?kc5 ?mk6 ?kc6 ?a2_2 ?i2 ?l2 ?cc2 ?k2 ?a3_2 ?a3_3 ?a3_4 ?a3_5 ?a3_6 ?i3 ?l3 ?cc3 ?k3 ?a4_3 ?i4 ?l4 ?cc4 ?k4 ?a5_4 ?i5 ?l5 ?cc5 ?k5 ?a6_5 ?i6 ?l6 ?cc6 ?k6 ?a7_6 ?i7 ?l7 ?cc7 ?k7 ?a8_7 ?i8 ?l8 ?cc8 ?k8 ?mk7 ?kc7 ?a9_7 ?i9 ?l9 ?cc9 ?k9 ?a10_8 ?i10 ?l10 ?cc10 ?k10 ?a11_9 ?a11_10 ?i11 ?l11 ?cc11 ?k11 ?mk9 ?kc9 ?mk10 ?kc10 ?a12_9 ?i12 ?l12 ?cc12 ?k12 ?a13_9 ?a13_10 ?i13 ?l13 ?cc13 ?k13 ?a14_10 ?i14 ?l14 ?cc14 ?k14 ?a15_11 ?a15_12 ?i15 ?l15 ?cc15 ?k15 ?mk11 ?kc11 ?mk12 ?kc12 ?a16_11 ?i16 ?l16 ?cc16 ?k16 ?a17_11 ?a17_12 ?i17 ?l17 ?cc17 ?k17 ?a18_12 ?i18 ?l18 ?cc18 ?k18 ?a19 ?l19 ?cc19 ?k19 ?a20 ?l20 ?cc20 ?k20 ?a21 ?l21 ?cc21 ?k21 ?a22 ?l22 ?cc22 ?k22 ?a23 ?l23 ?cc23 ?k23 ?a24 ?l24 ?cc24 ?k24 ?a25 ?l25 ?cc25 ?k25 ?a26 ?l26 ?cc26 ?k26 ?a27 ?l27 ?cc27 ?k27 ?a28 ?l28 ?cc28 ?k28 ?a29 ?l29 ?cc29 ?k29 ?a30 ?l30 ?cc30 ?k30 ?a31 ?l31 ?cc31 ?k31 ?a32 ?l32 ?cc32 ?k32 ?a33 ?l33 ?cc33 ?k33 ?a34 ?l34 ?cc34 ?k34 ?a35 ?l35 ?cc35 ?k35 ?a36 ?l36 ?cc36 ?k36 ?a37 ?l37 ?cc37 ?k37 ?a38 ?l38 ?cc38 ?k38 ?a39 ?l39 ?cc39 ?k39 ?a40 ?l40 ?cc40 ?k40 ?a41 ?l41 ?cc41 ?k41 ?a42 ?l42 ?cc42 ?k42 ?a43 ?l43 ?cc43 ?k43 ?a44 ?l44 ?cc44 ?k44 ?mo1 ?io1 ?to1 ?ko1 ?mo8 ?io8 ?to8 ?ko8 ?pg1 ?hd1 ?po1 ?sa1 ?pg2 ?hd2 ?po2 ?sa2 ?nf2_0 ?pg3 ?hd3 ?po3 ?sa3 ?nf3_0 ?pg4 ?hd4 ?po4 ?sa4 ?nf4_0 ?pg5 ?hd5 ?po5 ?sa5 ?nf5_0 ?pg6 ?hd6 ?po6 ?sa6 ?nf6_0 ?pg7 ?hd7 ?po7 ?sa7 ?nf7_0 ?nf7_1 ?pg8 ?hd8 ?po8 ?sa8 ?pg9 ?hd9 ?po9 ?sa9 ?nf9_0 ?pg10 ?hd10 ?po10 ?sa10 ?nf10_0 ?pg11 ?hd11 ?po11 ?sa11 ?nf11_0 ?nf11_1 ?pg12 ?hd12 ?po12 ?sa12 ?nf12_0 ?nf12_1 ?ee ?ef ?hdE0 ?tyE0 ?dc1 ?dm1 ?ds1_0 ?dc2 ?dm2 ?ds2_0 ?dc3 ?dm3 ?ds3_0 ?dc4 ?dm4 ?ds4_0 ?dc5 ?dm5 ?ds5_0 ?dc6 ?dm6 ?ds6_0 ?dc7 ?dm7 ?ds7_0 ?dc8 ?dm8 ?ds8_0 ?dc9 ?dm9 ?ds9_0 ?dc10 ?dm10 ?ds10_0 ?dc11 ?dm11 ?ds11_0 ?dc12 ?dm12 ?ds12_0 ?z_all ?z_int ?z_isinstance ?z_len ?z_list ?z_max ?z_range ?z_str ?z_tuple ?v_FIGURES_reading ?v_FIGURES_words ?v_LAST_DAY ?v_MOST_DEEP ?v_MOST_OPEN ?v_MOST_SIGNS ?v_MOST_THREADS ?v_SMALL ?ne2_1 ?ne3_1 ?ne3_2 ?ne4_1 ?ne4_2 ?ne4_3 ?ne5_1 ?ne5_2 ?ne5_3 ?ne5_4 ?ne6_1 ?ne6_2 ?ne6_3 ?ne6_4 ?ne6_5 ?ne7_1 ?ne7_2 ?ne7_3 ?ne7_4 ?ne7_5 ?ne7_6 ?ne8_1 ?ne8_2 ?ne8_3 ?ne8_4 ?ne8_5 ?ne8_6 ?ne8_7 ?ne9_1 ?ne9_2 ?ne9_3 ?ne9_4 ?ne9_5 ?ne9_6 ?ne9_7 ?ne9_8 ?ne10_1 ?ne10_2 ?ne10_3 ?ne10_4 ?ne10_5 ?ne10_6 ?ne10_7 ?ne10_8 ?ne10_9 ?ne11_1 ?ne11_2 ?ne11_3 ?ne11_4 ?ne11_5 ?ne11_6 ?ne11_7 ?ne11_8 ?ne11_9 ?ne11_10 ?ne12_1 ?ne12_2 ?ne12_3 ?ne12_4 ?ne12_5 ?ne12_6 ?ne12_7 ?ne12_8 ?ne12_9 ?ne12_10 ?ne12_11
    (case ac0 => k_is)
    (case ac1 => k_is)
    (case ac2 => k_is)
    (case ac3 => k_is)
    (case ac4 => k_is)
    (case ac5 => k_is)
    (case ac6 => k_is)
    (case ac7 => k_is)
    (case ac8 => k_is)
    (case ac9 => k_is)
    (case ac10 => k_is)
    (case ac11 => k_is)
    (case ac12 => k_is)
    (case ac13 => k_is)
    (case ac14 => k_is)
    (case a0_1 => k_is)
    (case i0 => k_is)
    (case l0 => k_is)
    (case cc0 => k_is)
    (case k0 => k_is)
    (case a1_2 => k_is)
    (case a1_3 => k_is)
    (case a1_4 => k_is)
    (case a1_5 => k_is)
    (case a1_6 => k_is)
    (case i1 => k_is)
    (case l1 => k_is)
    (case cc1 => k_is)
    (case k1 => k_is)
    (case mk2 => k_is)
    (case kc2 => k_is)
    (case mk3 => k_is)
    (case kc3 => k_is)
    (case mk4 => k_is)
    (case kc4 => k_is)
    (case mk5 => k_is)
    (case kc5 => k_is)
    (case mk6 => k_is)
    (case kc6 => k_is)
    (case a2_2 => k_is)
    (case i2 => k_is)
    (case l2 => k_is)
    (case cc2 => k_is)
    (case k2 => k_is)
    (case a3_2 => k_is)
    (case a3_3 => k_is)
    (case a3_4 => k_is)
    (case a3_5 => k_is)
    (case a3_6 => k_is)
    (case i3 => k_is)
    (case l3 => k_is)
    (case cc3 => k_is)
    (case k3 => k_is)
    (case a4_3 => k_is)
    (case i4 => k_is)
    (case l4 => k_is)
    (case cc4 => k_is)
    (case k4 => k_is)
    (case a5_4 => k_is)
    (case i5 => k_is)
    (case l5 => k_is)
    (case cc5 => k_is)
    (case k5 => k_is)
    (case a6_5 => k_is)
    (case i6 => k_is)
    (case l6 => k_is)
    (case cc6 => k_is)
    (case k6 => k_is)
    (case a7_6 => k_is)
    (case i7 => k_is)
    (case l7 => k_is)
    (case cc7 => k_is)
    (case k7 => k_is)
    (case a8_7 => k_is)
    (case i8 => k_is)
    (case l8 => k_is)
    (case cc8 => k_is)
    (case k8 => k_is)
    (case mk7 => k_is)
    (case kc7 => k_is)
    (case a9_7 => k_is)
    (case i9 => k_is)
    (case l9 => k_is)
    (case cc9 => k_is)
    (case k9 => k_is)
    (case a10_8 => k_is)
    (case i10 => k_is)
    (case l10 => k_is)
    (case cc10 => k_is)
    (case k10 => k_is)
    (case a11_9 => k_is)
    (case a11_10 => k_is)
    (case i11 => k_is)
    (case l11 => k_is)
    (case cc11 => k_is)
    (case k11 => k_is)
    (case mk9 => k_is)
    (case kc9 => k_is)
    (case mk10 => k_is)
    (case kc10 => k_is)
    (case a12_9 => k_is)
    (case i12 => k_is)
    (case l12 => k_is)
    (case cc12 => k_is)
    (case k12 => k_is)
    (case a13_9 => k_is)
    (case a13_10 => k_is)
    (case i13 => k_is)
    (case l13 => k_is)
    (case cc13 => k_is)
    (case k13 => k_is)
    (case a14_10 => k_is)
    (case i14 => k_is)
    (case l14 => k_is)
    (case cc14 => k_is)
    (case k14 => k_is)
    (case a15_11 => k_is)
    (case a15_12 => k_is)
    (case i15 => k_is)
    (case l15 => k_is)
    (case cc15 => k_is)
    (case k15 => k_is)
    (case mk11 => k_is)
    (case kc11 => k_is)
    (case mk12 => k_is)
    (case kc12 => k_is)
    (case a16_11 => k_is)
    (case i16 => k_is)
    (case l16 => k_is)
    (case cc16 => k_is)
    (case k16 => k_is)
    (case a17_11 => k_is)
    (case a17_12 => k_is)
    (case i17 => k_is)
    (case l17 => k_is)
    (case cc17 => k_is)
    (case k17 => k_is)
    (case a18_12 => k_is)
    (case i18 => k_is)
    (case l18 => k_is)
    (case cc18 => k_is)
    (case k18 => k_is)
    (case a19 => k_is)
    (case l19 => k_is)
    (case cc19 => k_is)
    (case k19 => k_is)
    (case a20 => k_is)
    (case l20 => k_is)
    (case cc20 => k_is)
    (case k20 => k_is)
    (case a21 => k_is)
    (case l21 => k_is)
    (case cc21 => k_is)
    (case k21 => k_is)
    (case a22 => k_is)
    (case l22 => k_is)
    (case cc22 => k_is)
    (case k22 => k_is)
    (case a23 => k_is)
    (case l23 => k_is)
    (case cc23 => k_is)
    (case k23 => k_is)
    (case a24 => k_is)
    (case l24 => k_is)
    (case cc24 => k_is)
    (case k24 => k_is)
    (case a25 => k_is)
    (case l25 => k_is)
    (case cc25 => k_is)
    (case k25 => k_is)
    (case a26 => k_is)
    (case l26 => k_is)
    (case cc26 => k_is)
    (case k26 => k_is)
    (case a27 => k_is)
    (case l27 => k_is)
    (case cc27 => k_is)
    (case k27 => k_is)
    (case a28 => k_is)
    (case l28 => k_is)
    (case cc28 => k_is)
    (case k28 => k_is)
    (case a29 => k_is)
    (case l29 => k_is)
    (case cc29 => k_is)
    (case k29 => k_is)
    (case a30 => k_is)
    (case l30 => k_is)
    (case cc30 => k_is)
    (case k30 => k_is)
    (case a31 => k_is)
    (case l31 => k_is)
    (case cc31 => k_is)
    (case k31 => k_is)
    (case a32 => k_is)
    (case l32 => k_is)
    (case cc32 => k_is)
    (case k32 => k_is)
    (case a33 => k_is)
    (case l33 => k_is)
    (case cc33 => k_is)
    (case k33 => k_is)
    (case a34 => k_is)
    (case l34 => k_is)
    (case cc34 => k_is)
    (case k34 => k_is)
    (case a35 => k_is)
    (case l35 => k_is)
    (case cc35 => k_is)
    (case k35 => k_is)
    (case a36 => k_is)
    (case l36 => k_is)
    (case cc36 => k_is)
    (case k36 => k_is)
    (case a37 => k_is)
    (case l37 => k_is)
    (case cc37 => k_is)
    (case k37 => k_is)
    (case a38 => k_is)
    (case l38 => k_is)
    (case cc38 => k_is)
    (case k38 => k_is)
    (case a39 => k_is)
    (case l39 => k_is)
    (case cc39 => k_is)
    (case k39 => k_is)
    (case a40 => k_is)
    (case l40 => k_is)
    (case cc40 => k_is)
    (case k40 => k_is)
    (case a41 => k_is)
    (case l41 => k_is)
    (case cc41 => k_is)
    (case k41 => k_is)
    (case a42 => k_is)
    (case l42 => k_is)
    (case cc42 => k_is)
    (case k42 => k_is)
    (case a43 => k_is)
    (case l43 => k_is)
    (case cc43 => k_is)
    (case k43 => k_is)
    (case a44 => k_is)
    (case l44 => k_is)
    (case cc44 => k_is)
    (case k44 => k_is)
    (case mo1 => k_is)
    (case io1 => k_is)
    (case to1 => k_is)
    (case ko1 => k_is)
    (case mo8 => k_is)
    (case io8 => k_is)
    (case to8 => k_is)
    (case ko8 => k_is)
    (case pg1 => k_is)
    (case hd1 => k_is)
    (case po1 => k_is)
    (case sa1 => k_is)
    (case pg2 => k_is)
    (case hd2 => k_is)
    (case po2 => k_is)
    (case sa2 => k_is)
    (case nf2_0 => k_is)
    (case pg3 => k_is)
    (case hd3 => k_is)
    (case po3 => k_is)
    (case sa3 => k_is)
    (case nf3_0 => k_is)
    (case pg4 => k_is)
    (case hd4 => k_is)
    (case po4 => k_is)
    (case sa4 => k_is)
    (case nf4_0 => k_is)
    (case pg5 => k_is)
    (case hd5 => k_is)
    (case po5 => k_is)
    (case sa5 => k_is)
    (case nf5_0 => k_is)
    (case pg6 => k_is)
    (case hd6 => k_is)
    (case po6 => k_is)
    (case sa6 => k_is)
    (case nf6_0 => k_is)
    (case pg7 => k_is)
    (case hd7 => k_is)
    (case po7 => k_is)
    (case sa7 => k_is)
    (case nf7_0 => k_is)
    (case nf7_1 => k_is)
    (case pg8 => k_is)
    (case hd8 => k_is)
    (case po8 => k_is)
    (case sa8 => k_is)
    (case pg9 => k_is)
    (case hd9 => k_is)
    (case po9 => k_is)
    (case sa9 => k_is)
    (case nf9_0 => k_is)
    (case pg10 => k_is)
    (case hd10 => k_is)
    (case po10 => k_is)
    (case sa10 => k_is)
    (case nf10_0 => k_is)
    (case pg11 => k_is)
    (case hd11 => k_is)
    (case po11 => k_is)
    (case sa11 => k_is)
    (case nf11_0 => k_is)
    (case nf11_1 => k_is)
    (case pg12 => k_is)
    (case hd12 => k_is)
    (case po12 => k_is)
    (case sa12 => k_is)
    (case nf12_0 => k_is)
    (case nf12_1 => k_is)
    (case ee => k_is)
    (case ef => k_is)
    (case hdE0 => k_is)
    (case tyE0 => k_is)
    (case dc1 => k_is)
    (case dm1 => k_is)
    (case ds1_0 => k_is)
    (case dc2 => k_is)
    (case dm2 => k_is)
    (case ds2_0 => k_is)
    (case dc3 => k_is)
    (case dm3 => k_is)
    (case ds3_0 => k_is)
    (case dc4 => k_is)
    (case dm4 => k_is)
    (case ds4_0 => k_is)
    (case dc5 => k_is)
    (case dm5 => k_is)
    (case ds5_0 => k_is)
    (case dc6 => k_is)
    (case dm6 => k_is)
    (case ds6_0 => k_is)
    (case dc7 => k_is)
    (case dm7 => k_is)
    (case ds7_0 => k_is)
    (case dc8 => k_is)
    (case dm8 => k_is)
    (case ds8_0 => k_is)
    (case dc9 => k_is)
    (case dm9 => k_is)
    (case ds9_0 => k_is)
    (case dc10 => k_is)
    (case dm10 => k_is)
    (case ds10_0 => k_is)
    (case dc11 => k_is)
    (case dm11 => k_is)
    (case ds11_0 => k_is)
    (case dc12 => k_is)
    (case dm12 => k_is)
    (case ds12_0 => k_is)
    (case z_all => k_is)
    (case z_int => k_is)
    (case z_isinstance => k_is)
    (case z_len => k_is)
    (case z_list => k_is)
    (case z_max => k_is)
    (case z_range => k_is)
    (case z_str => k_is)
    (case z_tuple => k_is)
    (case v_FIGURES_reading => k_is)
    (case v_FIGURES_words => k_is)
    (case v_LAST_DAY => k_is)
    (case v_MOST_DEEP => k_is)
    (case v_MOST_OPEN => k_is)
    (case v_MOST_SIGNS => k_is)
    (case v_MOST_THREADS => k_is)
    (case v_SMALL => k_is)
    (case ne2_1 => decide)
    (case ne3_1 => decide)
    (case ne3_2 => decide)
    (case ne4_1 => decide)
    (case ne4_2 => decide)
    (case ne4_3 => decide)
    (case ne5_1 => decide)
    (case ne5_2 => decide)
    (case ne5_3 => decide)
    (case ne5_4 => decide)
    (case ne6_1 => decide)
    (case ne6_2 => decide)
    (case ne6_3 => decide)
    (case ne6_4 => decide)
    (case ne6_5 => decide)
    (case ne7_1 => decide)
    (case ne7_2 => decide)
    (case ne7_3 => decide)
    (case ne7_4 => decide)
    (case ne7_5 => decide)
    (case ne7_6 => decide)
    (case ne8_1 => decide)
    (case ne8_2 => decide)
    (case ne8_3 => decide)
    (case ne8_4 => decide)
    (case ne8_5 => decide)
    (case ne8_6 => decide)
    (case ne8_7 => decide)
    (case ne9_1 => decide)
    (case ne9_2 => decide)
    (case ne9_3 => decide)
    (case ne9_4 => decide)
    (case ne9_5 => decide)
    (case ne9_6 => decide)
    (case ne9_7 => decide)
    (case ne9_8 => decide)
    (case ne10_1 => decide)
    (case ne10_2 => decide)
    (case ne10_3 => decide)
    (case ne10_4 => decide)
    (case ne10_5 => decide)
    (case ne10_6 => decide)
    (case ne10_7 => decide)
    (case ne10_8 => decide)
    (case ne10_9 => decide)
    (case ne11_1 => decide)
    (case ne11_2 => decide)
    (case ne11_3 => decide)
    (case ne11_4 => decide)
    (case ne11_5 => decide)
    (case ne11_6 => decide)
    (case ne11_7 => decide)
    (case ne11_8 => decide)
    (case ne11_9 => decide)
    (case ne11_10 => decide)
    (case ne12_1 => decide)
    (case ne12_2 => decide)
    (case ne12_3 => decide)
    (case ne12_4 => decide)
    (case ne12_5 => decide)
    (case ne12_6 => decide)
    (case ne12_7 => decide)
    (case ne12_8 => decide)
    (case ne12_9 => decide)
    (case ne12_10 => decide)
    (case ne12_11 => decide)
